import PyProof.Rows.All
import Wide.All
import OpenK.AllK
import Wide.FinOn
import HandS.ForMost
import HandS.Exc
import HandS.TryOnly
import HandS.TryMany
import HandS.ExcOwn
import HandS.WordsExc
import HandS.Defaults
import HandS.TupAny
import HandS.StrMore
import HandS.Wide
import HandS.CallSlots
import HandS.Property
import HandS.ClsMeth
import HandS.ExcCtx
import HandS.SuiteRaise
import HandS.HotCalls
import KE.KExcSuper
import KE.KSuper
import HandS.ExcInit
import HandS.HeadHook1
import HandS.Deep
import HandS.Codes
import KE.KExcIs
import HandS.ExcField
import HandS.ExcIs
import KE.KStateDown
import HandS.Ends
import HandS.Words
import HandS.Head0
import HandS.Head1
import HandS.Head2
import HandS.HeadEnd
import HandS.HeadHook2
import PySem.Challenge.RW_forkbeats_k93_error_classes
import Lean
set_option Elab.async false
set_option linter.all false
set_option maxRecDepth 100000
set_option maxHeartbeats 4000000
namespace L2.Fk
open PySem PySem.Spec PyProof.Rows

/-! ### what stays: tuples, frozen things -/
def Imm : HO → Prop
  | .tup _ => True
  | .frz _ _ => True
  | _ => False
/-- all that is immutable is as it was -/
def Pres (H H' : Hp) : Prop := ∀ b o, H b = some o → Imm o → H' b = some o
theorem Pres.refl (H : Hp) : Pres H H := fun _ _ h _ => h
theorem Pres.trans {H H1 H2 : Hp} (a : Pres H H1) (b : Pres H1 H2) : Pres H H2 := fun c o h i => b c o (a c o h i) i
theorem Pres.of_same {H H' : Hp} (s : Same H H') : Pres H H' := fun b o h _ => s b o h
theorem Same.new {H : Hp} {p : Addr} {o : HO} (h : H p = none) : Same H (upd H p o) := fun b u e => by
  rw [upd_ne (ne_of_none e h)]
  exact e
theorem Pres.new {H : Hp} {p : Addr} {o : HO} (h : H p = none) : Pres H (upd H p o) := .of_same (Same.new h)
theorem Pres.put {H : Hp} {p : Addr} {o u : HO} (h : H p = some u) (n : ¬ Imm u) : Pres H (upd H p o) := fun b v e i => by
  rw [upd_ne (fun z => by
    rw [z, h] at e
    exact n (by rw [Option.some.inj e]; exact i))]
  exact e
/-- a store to a place that was free at the start -/
theorem Same.local_ {H H1 : Hp} {p : Addr} {o : HO} (s : Same H H1) (h : H p = none) : Same H (upd H1 p o) := fun b u e => by
  rw [upd_ne (ne_of_none e h)]
  exact s b u e
/-- all but what stands at a is as it was -/
def But (a : Addr) (H H' : Hp) : Prop := ∀ b o, b ≠ a → H b = some o → H' b = some o
theorem But.of_same {a : Addr} {H H' : Hp} (s : Same H H') : But a H H' := fun b o _ h => s b o h
theorem But.trans {a : Addr} {H H1 H2 : Hp} (x : But a H H1) (y : But a H1 H2) : But a H H2 := fun b o n h => y b o n (x b o n h)
theorem But.put {a : Addr} {H : Hp} {o : HO} : But a H (upd H a o) := fun b u n e => by
  rw [upd_ne n]
  exact e
theorem But.free {a b : Addr} {H H' : Hp} (x : But a H H') (n : b ≠ a) (h : H' b = none) : H b = none := by
  cases q : H b with
  | none => rfl
  | some o =>
    rw [x b o n q] at h
    cases h
theorem But.pres {a : Addr} {H H' : Hp} {u : HO} (x : But a H H') (h : H a = some u) (n : ¬ Imm u) : Pres H H' := fun b o e i => x b o (fun z => by
  rw [z, h] at e
  exact n (by rw [Option.some.inj e]; exact i)) e
/-- a thing that was made on the way stands apart -/
theorem But.same {a : Addr} {H H1 H2 : Hp} (s : Same H H1) (h : H a = none) (x : But a H1 H2) : Same H H2 := fun b o e => x b o (ne_of_none e h) (s b o e)

/-! ### what a value tells -/
abbrev Rel (α : Type) := Hp → V → α → Prop
class Mono {α : Type} (R : Rel α) : Prop where
  mono : ∀ {H H' : Hp} {v : V} {x : α}, Pres H H' → R H v x → R H' v x
def rInt : Rel Int := fun _ v i => v = .int i
def rStr : Rel Str := fun _ v i => v = .str i
def rBl : Rel Bool := fun _ v i => v = .bl i
def rNon : Rel Unit := fun _ v _ => v = .non
instance : Mono rInt := ⟨fun _ h => h⟩
instance : Mono rStr := ⟨fun _ h => h⟩
instance : Mono rBl := ⟨fun _ h => h⟩
instance : Mono rNon := ⟨fun _ h => h⟩
/-- items, one by one -/
abbrev All2 {α : Type} (R : Rel α) (H : Hp) (vs : List V) (xs : List α) : Prop := Paired (R H) vs xs
theorem All2.mono {α : Type} {R : Rel α} [m : Mono R] {H H' : Hp} (p : Pres H H') : ∀ {vs : List V} {xs : List α}, All2 R H vs xs → All2 R H' vs xs
  | _, _, .nil => .nil
  | _, _, .cons r t => .cons (m.mono p r) (All2.mono p t)
theorem All2.append {α : Type} {R : Rel α} {H : Hp} : ∀ {vs ws : List V} {xs ys : List α}, All2 R H vs xs → All2 R H ws ys → All2 R H (vs ++ ws) (xs ++ ys)
  | _, _, _, _, .nil, s => s
  | _, _, _, _, .cons r t, s => .cons r (All2.append t s)
theorem All2.one {α : Type} {R : Rel α} {H : Hp} {v : V} {x : α} (h : R H v x) : All2 R H [v] [x] := .cons h .nil
theorem All2.get {α : Type} {R : Rel α} {H : Hp} : ∀ {vs : List V} {xs : List α} {i : Nat} {x : α}, All2 R H vs xs → xs[i]? = some x → ∃ v, vs[i]? = some v ∧ R H v x
  | _, _, _, _, .nil, e => by simp at e
  | _, _, 0, _, .cons r _, e => by simp at e; subst e; exact ⟨_, rfl, r⟩
  | _, _, i + 1, x, .cons _ t, e => by
    obtain ⟨u, h1, h2⟩ := All2.get (i := i) (x := x) t (by simpa using e)
    exact ⟨u, by simpa using h1, h2⟩
theorem All2.get' {α : Type} {R : Rel α} {H : Hp} : ∀ {vs : List V} {xs : List α} {i : Nat} {v : V}, All2 R H vs xs → vs[i]? = some v → ∃ x, xs[i]? = some x ∧ R H v x
  | _, _, _, _, .nil, e => by simp at e
  | _, _, 0, _, .cons r _, e => by simp at e; subst e; exact ⟨_, rfl, r⟩
  | _, _, i + 1, x, .cons _ t, e => by
    obtain ⟨u, h1, h2⟩ := All2.get' (i := i) (v := x) t (by simpa using e)
    exact ⟨u, by simpa using h1, h2⟩
theorem All2.take {α : Type} {R : Rel α} {H : Hp} : ∀ {vs : List V} {xs : List α} (n : Nat), All2 R H vs xs → All2 R H (vs.take n) (xs.take n)
  | _, _, 0, _ => .nil
  | _, _, _ + 1, .nil => .nil
  | _, _, n + 1, .cons r t => .cons r (All2.take n t)
theorem All2.drop {α : Type} {R : Rel α} {H : Hp} : ∀ {vs : List V} {xs : List α} (n : Nat), All2 R H vs xs → All2 R H (vs.drop n) (xs.drop n)
  | _, _, 0, r => r
  | _, _, _ + 1, .nil => .nil
  | _, _, n + 1, .cons _ t => All2.drop n t
theorem All2.len {α : Type} {R : Rel α} {H : Hp} {vs : List V} {xs : List α} (h : All2 R H vs xs) : vs.length = xs.length := Paired.length h
theorem All2.ints {H : Hp} : ∀ {vs : List V} {xs : List Int}, All2 rInt H vs xs → vs = xs.map V.int
  | _, _, .nil => rfl
  | _, _, .cons r t => by rw [show _ = _ from r, All2.ints t]; rfl
theorem All2.strs {H : Hp} : ∀ {vs : List V} {xs : List Str}, All2 rStr H vs xs → vs = xs.map V.str
  | _, _, .nil => rfl
  | _, _, .cons r t => by rw [show _ = _ from r, All2.strs t]; rfl
theorem All2.bls {H : Hp} : ∀ {vs : List V} {xs : List Bool}, All2 rBl H vs xs → vs = xs.map V.bl
  | _, _, .nil => rfl
  | _, _, .cons r t => by rw [show _ = _ from r, All2.bls t]; rfl
theorem All2.of_ints {H : Hp} : ∀ (xs : List Int), All2 rInt H (xs.map V.int) xs
  | [] => .nil
  | _ :: r => .cons rfl (All2.of_ints r)
theorem All2.of_strs {H : Hp} : ∀ (xs : List Str), All2 rStr H (xs.map V.str) xs
  | [] => .nil
  | _ :: r => .cons rfl (All2.of_strs r)
theorem All2.of_bls {H : Hp} : ∀ (xs : List Bool), All2 rBl H (xs.map V.bl) xs
  | [] => .nil
  | _ :: r => .cons rfl (All2.of_bls r)
/-- a list that nobody changes any more; one that may still be changed; a tuple of one kind of items; of two, three, four -/
def rL {α : Type} (R : Rel α) : Rel (List α) := fun H v xs => ∃ a o vs, v = .ref a ∧ H a = some (.frz o (.lst vs)) ∧ All2 R H vs xs
def mL {α : Type} (R : Rel α) : Rel (List α) := fun H v xs => ∃ a vs, v = .ref a ∧ H a = some (.lst vs) ∧ All2 R H vs xs
def rT {α : Type} (R : Rel α) : Rel (List α) := fun H v xs => ∃ a vs, v = .ref a ∧ H a = some (.tup vs) ∧ All2 R H vs xs
def rT2 {α β : Type} (R : Rel α) (S : Rel β) : Rel (α × β) := fun H v x => ∃ a v1 v2, v = .ref a ∧ H a = some (.tup [v1, v2]) ∧ R H v1 x.1 ∧ S H v2 x.2
def rT3 {α β γ : Type} (R : Rel α) (S : Rel β) (T : Rel γ) : Rel (α × β × γ) := fun H v x => ∃ a v1 v2 v3, v = .ref a ∧ H a = some (.tup [v1, v2, v3]) ∧ R H v1 x.1 ∧ S H v2 x.2.1 ∧ T H v3 x.2.2
def rO {α : Type} (R : Rel α) : Rel (Option α) := fun H v x => match x with
  | none => v = .non
  | some y => R H v y
instance {α : Type} {R : Rel α} [Mono R] : Mono (rL R) := ⟨fun {H H' v x} p ⟨a, o, vs, e, h, r⟩ => ⟨a, o, vs, e, p _ _ h trivial, r.mono p⟩⟩
instance {α : Type} {R : Rel α} [Mono R] : Mono (rT R) := ⟨fun {H H' v x} p ⟨a, vs, e, h, r⟩ => ⟨a, vs, e, p _ _ h trivial, r.mono p⟩⟩
instance {α β : Type} {R : Rel α} {S : Rel β} [Mono R] [Mono S] : Mono (rT2 R S) := ⟨fun {H H' v x} p ⟨a, v1, v2, e, h, r, s⟩ => ⟨a, v1, v2, e, p _ _ h trivial, Mono.mono p r, Mono.mono p s⟩⟩
instance {α β γ : Type} {R : Rel α} {S : Rel β} {T : Rel γ} [Mono R] [Mono S] [Mono T] : Mono (rT3 R S T) := ⟨fun {H H' v x} p ⟨a, v1, v2, v3, e, h, r, s, t⟩ => ⟨a, v1, v2, v3, e, p _ _ h trivial, Mono.mono p r, Mono.mono p s, Mono.mono p t⟩⟩
instance {α : Type} {R : Rel α} [Mono R] : Mono (rO R) := ⟨fun {H H' v x} p h => by
  cases x with
  | none => exact h
  | some y => exact Mono.mono (R := R) p h⟩
theorem Mono.up {α : Type} {R : Rel α} [Mono R] {H H' : Hp} {v : V} {x : α} (h : R H v x) (p : Pres H H') : R H' v x := Mono.mono p h
section
variable {K : PySem.W.Frag} {α : Type} {R : Rel α} {H : Hp} {v : V} {xs : List α}
theorem rL.seq (h : rL R H v xs) : ∃ a vs, v = .ref a ∧ SqL K H a vs ∧ All2 R H vs xs := by
  obtain ⟨a, o, vs, e, q, r⟩ := h
  exact ⟨a, vs, e, .inl (.inr ⟨o, q⟩), r⟩
theorem mL.seq (h : mL R H v xs) : ∃ a vs, v = .ref a ∧ SqL K H a vs ∧ All2 R H vs xs := by
  obtain ⟨a, vs, e, q, r⟩ := h
  exact ⟨a, vs, e, SqL.of q, r⟩
theorem rT.seq (h : rT R H v xs) : ∃ a vs, v = .ref a ∧ SqT K H a vs ∧ All2 R H vs xs := by
  obtain ⟨a, vs, e, q, r⟩ := h
  exact ⟨a, vs, e, SqT.of q, r⟩
theorem SqL.frz {a : Addr} {o : Obj} {vs : List V} (h : H a = some (.frz o (.lst vs))) : SqL K H a vs := .inl (.inr ⟨o, h⟩)
end

/-! ### freezing, thawing -/
/-- things may be frozen ahead of what follows -/
inductive Gh (P : Hp → Prop) : Hp → Prop
  | here {H : Hp} : P H → Gh P H
  | fz {H : Hp} (p : Addr) (u : HO) : H p = some u → Mut (some u) → (∀ o, Gh P (upd H p (.frz o u))) → Gh P H
theorem Gh.imp {P Q : Hp → Prop} {H : Hp} (g : Gh P H) (h : ∀ H, P H → Q H) : Gh Q H := by
  induction g with
  | here q => exact .here (h _ q)
  | fz p u e m _ ih => exact .fz p u e m ih
theorem Gh.fzl {P : Hp → Prop} {H : Hp} {p : Addr} {vs : List V} (e : H p = some (.lst vs)) (h : ∀ o, P (upd H p (.frz o (.lst vs)))) : Gh P H := .fz p _ e trivial fun o => .here (h o)
theorem Inv.gh {X : Cx} {pins : List (Addr × Obj)} {σ : St} {H : Hp} {s : Shared} {P : Hp → Prop} (I : Inv X pins σ H s) (g : Gh P H) : ∃ H', Inv X pins σ H' s ∧ P H' := by
  induction g with
  | here q => exact ⟨_, I, q⟩
  | fz p u e m _ ih =>
    obtain ⟨o, I1⟩ := I.lock e m
    exact ih o I1
def tGh (t : TE) : TE := fun σ H Q => t σ H fun v H1 => Gh (Q v) H1
theorem pe_gh {X : Cx} {e : Expr} {t : TE} (h : PE X e t) : PE X e (tGh t) := ⟨fun pins s σ H Q I hw => thn (h.run pins s σ H _ I hw) fun u s1 ⟨v, H1, I1, r, g⟩ => by
  obtain ⟨H2, I2, q⟩ := Inv.gh I1 g
  exact ⟨v, H2, I2, r, q⟩⟩
def sGh (t : TS) : TS := fun D σ H => Gh (t D σ) H
theorem ps_gh {X : Cx} {st : Stmt} {t : TS} (h : PS X st t) : PS X st (sGh t) := ⟨fun pins s σ H D I hw => by
  obtain ⟨H2, I2, q⟩ := Inv.gh I hw
  exact h.run pins s σ H2 D I2 q⟩
end L2.Fk
set_option Elab.async false
set_option linter.all false
set_option maxRecDepth 100000
set_option maxHeartbeats 4000000
namespace L2.Fk
open PySem PySem.Spec PyProof.Rows

theorem takesN0 {X : Cx} : L2N.Takes X (fun _ _ _ _ => False) := fun _ _ x => by
  obtain ⟨_, _, _, _, _, _, _, _, _, _, _, _, _, _, _, _, z⟩ := x
  exact z.elim
/-! ### a call keeps what is immutable -/
theorem pres_un {fs ex : List Addr} {H H' : Hp} {h h' : Heap} (u : Un fs ex H H' h h') : Pres H H' := fun b o e i => by
  cases o with
  | tup xs => exact u.tups b xs e
  | frz o u' => exact u.frzs b o u' e
  | _ => exact i.elim
theorem pres_ub {fs : List Addr} {H H' : Hp} {h B h' : Heap} (u : UB fs H H' h B h') : Pres H H' := fun b o e i => by
  cases o with
  | tup xs => exact u.tups b xs e
  | frz o u' => exact u.frzs b o u' e
  | _ => exact i.elim
/-- the promise, with what every call keeps -/
def spP (sp : Sp) : Sp := fun vs H Q E => sp vs H (fun v H' => Pres H H' → Q v H') (fun c d H' => Pres H H' → E c d H')
theorem fn_pres {P : Program} {w : World} {K : PySem.W.Frag} {mg : Str → Option Value} {base : Heap} {k : Nat} {f : Addr} {fd : FuncData} {ps : List Str} {sp : Sp} (F : FnOk P w K mg base (L2N.CX P w) k f fd ps sp) :
    FnOk P w K mg base (L2N.CX P w) k f fd ps (spP sp) := by
  refine ⟨fun vs H Q E h => F.len _ _ _ _ h, fun A outer s H args us vs Q E hr he hb hv hs => codeAny_mono (F.run A outer s H args us vs _ _ hr he hb hv hs) fun r s' hq => ?_⟩
  cases r with
  | error e =>
    obtain ⟨a, B, H', cls, d, e1, fl, hok, ub, na, os, ag, hE⟩ := hq
    exact ⟨a, B, H', cls, d, e1, fl, hok, ub, na, os, ag, hE (pres_ub ub)⟩
  | ok fl =>
    cases fl with
    | ret u =>
      obtain ⟨v, H', os, ba, un, hok, rv, q⟩ := hq
      exact ⟨v, H', os, ba, un, hok, rv, q (pres_un un)⟩
    | next => exact hq
    | brk => exact hq
    | cont => exact hq

/-! ### what may be called, by values -/
structure CalV (P : Program) (w : World) (K : PySem.W.Frag) (mg : Str → Option Value) (base : Heap) (k : Nat) (f : Value) (sp : Sp) : Prop where
  run : ∀ (X : Cx) (W : WX), X.prog = P → X.w = w → X.K = K → X.mg = mg → X.base = base → Room k X.A → L2N.Takes X W →
    ∀ (pins : List (Addr × Obj)) (s : Shared) (σ : St) (H : Hp) (vs : List V) (us : List Value) (Q : VK), Inv X pins σ H s → Vals vs us → sp vs H Q (fun c d H' => W c d σ H') → wpAny (model X.prog X.w) X.A (call f us) (EP X pins σ Q) X.xe s
section
variable {P : Program} {w : World} {K : PySem.W.Frag} {mg : Str → Option Value} {base : Heap} {k : Nat} {f : Value} {sp sp' : Sp}
theorem CalV.mono (c : CalV P w K mg base k f sp) {j : Nat} (h : k ≤ j) : CalV P w K mg base j f sp := ⟨fun X W a b c' d e hr => c.run X W a b c' d e (hr.mono h)⟩
/-- a stronger promise, things frozen behind the call -/
theorem CalV.imp (c : CalV P w K mg base k f sp) (h : ∀ vs H Q E, sp' vs H Q E → sp vs H (fun v H1 => Gh (Q v) H1) E) : CalV P w K mg base k f sp' := ⟨fun X W a b c' d e hr tk pins s σ H vs us Q I r q =>
  thn (c.run X W a b c' d e hr tk pins s σ H vs us _ I r (h _ _ _ _ q)) fun u s1 ⟨v, H1, I1, r1, g⟩ => by
    obtain ⟨H2, I2, q2⟩ := Inv.gh I1 g
    exact ⟨v, H2, I2, r1, q2⟩⟩
theorem CalV.of_fn {a : Addr} {fd : FuncData} {ps : List Str} {ds : List Value} {dvs : List V} (F : FnOk P w K mg base (L2N.CX P w) k a fd ps sp) (hb : Binds K fd ps ds) (hd : Vals dvs ds) :
    CalV P w K mg base k (.ref a) (fun vs H Q E => spP sp (vs ++ dvs) H Q E) := ⟨fun X W e1 e2 e3 e4 e5 hr tk pins s σ H vs us Q I r q => by
  subst e1 e2 e3 e4 e5
  exact run_fnSD (E := WE W) (fn_pres F) hr hb hd (L2N.passAt tk σ) I r q⟩
theorem CalV.of_fn0 {a : Addr} {fd : FuncData} {ps : List Str} (F : FnOk P w K mg base (L2N.CX P w) k a fd ps sp) (hb : Binds K fd ps []) : CalV P w K mg base k (.ref a) (spP sp) :=
  ⟨fun X W e1 e2 e3 e4 e5 hr tk pins s σ H vs us Q I r q => (CalV.of_fn F hb .nil).run X W e1 e2 e3 e4 e5 hr tk pins s σ H vs us Q I r (by rw [List.append_nil]; exact q)⟩
/-- C(..): a new instance, then __init__ -/
def spNew (C : Addr) (sp : Sp) : Sp := fun vs H Q E => ∀ x dx, H x = none → H dx = none → dx ≠ x → sp (.ref x :: vs) (upd (upd H dx (.own x)) x (.ins C dx [])) (fun v H2 => v = .non ∧ Q (.ref x) H2) E
end

/-! ### the tables of a text: what it calls, makes, reads -/
structure Tb where
  fn : Str → Sp → Prop
  me : Addr → Str → Sp → Prop
  fl : Addr → Str → Prop
structure Tb.Ok (T : Tb) (P : Program) (w : World) (K : PySem.W.Frag) (mg : Str → Option Value) (base : Heap) (k : Nat) : Prop where
  fn : ∀ x sp, T.fn x sp → ∃ a, mg x = some (.ref a) ∧ PySem.W.keepIn K (.ref a) = true ∧ CalV P w K mg base k (.ref a) sp
  me : ∀ C m sp, T.me C m sp → Cls K C ∧ ∃ f, Meth K C m f ∧ CalV P w K mg base k (.ref f) sp
  fl : ∀ C f, T.fl C f → Cls K C ∧ NoAttr K C f
/-- the table of all that is known at a level -/
def tbAt (P : Program) (w : World) (K : PySem.W.Frag) (mg : Str → Option Value) (base : Heap) (k : Nat) : Tb where
  fn := fun x sp => ∃ a, mg x = some (.ref a) ∧ PySem.W.keepIn K (.ref a) = true ∧ CalV P w K mg base k (.ref a) sp
  me := fun C m sp => Cls K C ∧ ∃ f, Meth K C m f ∧ CalV P w K mg base k (.ref f) sp
  fl := fun C f => Cls K C ∧ NoAttr K C f
theorem tbAt.ok {P : Program} {w : World} {K : PySem.W.Frag} {mg : Str → Option Value} {base : Heap} {k : Nat} : (tbAt P w K mg base k).Ok P w K mg base k := ⟨fun _ _ h => h, fun _ _ _ h => h, fun _ _ h => h⟩
/-- where the rules stand: the tables, what is wished of an exception -/
structure Gd (X : Cx) (T : Tb) (W : WX) : Prop where
  lv : ∃ k, Room k X.A ∧ T.Ok X.prog X.w X.K X.mg X.base k
  tk : L2N.Takes X W
theorem Gd.wish {X : Cx} {T : Tb} {W : WX} (g : Gd X T W) {pn : List (Addr × Obj)} {xe : Value → Shared → Prop} {W' : WX} (tk : L2N.Takes (X.tr pn xe) W') : Gd (X.tr pn xe) T W' := ⟨g.lv, tk⟩

section
variable {X : Cx} {T : Tb} {W : WX} {x m f : Str} {p pos apos : Pos} {e o : Expr} {es : List Expr} {to : TE} {ta : TA}

/-! ### calls of what the module's names stand for -/
def tCallG (T : Tb) (W : WX) (x : Str) (ta : TA) : TE := fun σ H Q => ∃ sp, T.fn x sp ∧ ta σ H fun vs H1 => sp vs H1 Q (fun c d H' => W c d σ H')
theorem pe_callG (g : Gd X T W) (hg : Gl X x) (ha : PA X (e :: es) ta) (hdb : (x == ("__debug__" : Str)) = false := by decide) (he : starEach (e :: es) X.env = (false, eval e X.env) :: starEach es X.env := by rfl)
    (hpl : (backTo pos (starEach es X.env)).any (·.1) = false := by rfl) : PE X (.Call (.Name x p) (e :: es) [] pos) (tCallG T W x ta) := by
  refine ⟨fun pins s σ H Q I h => ?_⟩
  obtain ⟨k, hr, ok⟩ := g.lv
  obtain ⟨sp, ht, h⟩ := h
  obtain ⟨a, hm, hk, c⟩ := ok.fn x sp ht
  refine wpAny_Call_Name_kw (ld_glob I hg hm ?_ hdb)
  refine PySem.W.callWith_K (h₀ := X.base) I.ok.mod.kin hk (thn (ha.run pos pins s σ H _ I h) fun us s1 ⟨vs, H1, I1, r, q1⟩ => ⟨I1.kIn, ?_⟩) he hpl
  exact c.run X W rfl rfl rfl rfl rfl hr g.tk pins s1 σ H1 vs us Q I1 r q1
theorem pe_callG0 (g : Gd X T W) (hg : Gl X x) (hdb : (x == ("__debug__" : Str)) = false := by decide) : PE X (.Call (.Name x p) [] [] pos) (tCallG T W x tNil) := by
  refine ⟨fun pins s σ H Q I h => ?_⟩
  obtain ⟨k, hr, ok⟩ := g.lv
  obtain ⟨sp, ht, h⟩ := h
  obtain ⟨a, hm, hk, c⟩ := ok.fn x sp ht
  refine wpAny_Call_Name_kw (ld_glob I hg hm ?_ hdb)
  exact PySem.W.callWith_K0 (first := []) I.kIn hk (c.run X W rfl rfl rfl rfl rfl hr g.tk pins s σ H [] [] Q I .nil h)

/-! ### instances: changing or frozen -/
def InsAt (H : Hp) (a C : Addr) (fs : List (Str × V)) : Prop := ∃ dx, H a = some (.ins C dx fs) ∨ ∃ o, H a = some (.frz o (.ins C dx fs))
theorem InsAt.ok {P : Program} {w : World} {H : Hp} {h : Heap} {a C : Addr} {fs : List (Str × V)} (hok : HOk P w H h) (e : InsAt H a C fs) : ∃ mA dx, ObjM h a dx C mA ∧ (∀ f, RelO (fs.lookup f) (mA f)) := by
  obtain ⟨dx, e | ⟨o, e⟩⟩ := e
  · obtain ⟨mA, O, r, _⟩ := ins_get hok e
    exact ⟨mA, dx, O, r⟩
  · obtain ⟨_, q⟩ := (show ObjOk P w H h a (.frz o (.ins C dx fs)) from hok a _ e)
    obtain ⟨d, z, ne, ob, mA, n, r, q⟩ := (show ObjOk P w H h a (.ins C dx fs) from q)
    exact ⟨mA, dx, ⟨ob, n, ne⟩, r⟩
/-- o.f, a plain field -/
def tFldG (T : Tb) (f : Str) (to : TE) : TE := fun σ H Q => to σ H fun x H1 => ∃ a C fs v, x = .ref a ∧ InsAt H1 a C fs ∧ T.fl C f ∧ fs.lookup f = some v ∧ Q v H1
theorem pe_fldG (g : Gd X T W) (ho : PE X o to) (hb : attributeBase o f X.env (eval o X.env) = eval o X.env := by rfl) : PE X (.Attribute o f pos) (tFldG T f to) := by
  refine ⟨fun pins s σ H Q I h => ?_⟩
  obtain ⟨k, hr, ok⟩ := g.lv
  refine attr_of hb (thn (ho.run pins s σ H _ I h) fun u s1 ⟨x, H1, I1, rx, a, C, fs, v, ex, ea, hf, l, q⟩ => ?_)
  subst ex
  obtain rfl : u = Value.ref a := rx
  obtain ⟨cl, na⟩ := ok.fl C f hf
  obtain ⟨mA, dx, O, r⟩ := ea.ok I1.hok
  obtain ⟨u, hu, ru⟩ := RelO.some_of (v := v) (o := mA f) (by rw [← l]; exact r f)
  exact get_map I1.kIn O (cl.get f) cl.hd na hu (handed_of ru) ⟨v, H1, I1.tok _, ru, q⟩
/-- o.f = e, o not frozen -/
def sFldG (T : Tb) (f : Str) (to te : TE) : TS := fun D σ H => te σ H fun y H1 => to σ H1 fun x H2 => ∃ a C dx fs, x = .ref a ∧ H2 a = some (.ins C dx fs) ∧ T.fl C f ∧ fs.length < 1000 ∧ D.nx σ (upd H2 a (.ins C dx (putF f y fs)))
theorem ps_fldG {te : TE} {pos' : Pos} (g : Gd X T W) (ho : PE X o to) (hv : PE X e te) (hs : swapsWith e (some (.Attribute o f pos')) pos.line X.env = pure false := by rfl) : PS X (.Assign [.Attribute o f pos'] e pos) (sFldG T f to te) := by
  refine ⟨fun pins s σ H D I h => ?_⟩
  obtain ⟨k, hr, ok⟩ := g.lv
  refine plainObj_wpAny_Assign_Attribute (thn (hv.run pins s σ H _ I h) fun v s1 ⟨y, H1, I1, r1, q1⟩ => thn (ho.run pins s1 σ H1 _ I1 q1) fun u s2 ⟨x, H2, I2, r2, a, C, dx, fs, ex, ea, hf, hl, q⟩ => ?_) hs
  subst ex
  obtain rfl : u = Value.ref a := r2
  obtain ⟨cl, na⟩ := ok.fl C f hf
  exact setattr_ok I2 ea cl na hl r1 fun s' J => ⟨σ, _, J, q⟩

/-! ### methods -/
def tMethG (T : Tb) (W : WX) (m : Str) (to : TE) (ta : TA) : TE := fun σ H Q => to σ H fun x H1 => ∃ a C fs sp, x = .ref a ∧ InsAt H1 a C fs ∧ fs.lookup m = none ∧ T.me C m sp ∧ ta σ H1 fun vs H2 => sp (x :: vs) H2 Q (fun c d H' => W c d σ H')
theorem getmethG {pins : List (Addr × Obj)} {σ : St} {H : Hp} {s : Shared} {A : Around} {E : Value → Shared → Prop} {a C fa : Addr} {fs : List (Str × V)} {pl : Sem Bool} {Q : Value × List Value → Shared → Prop} (I : Inv X pins σ H s) (e : InsAt H a C fs) (c : Cls X.K C) (k : Meth X.K C m fa) (l : fs.lookup m = none)
    (h : Q (.ref fa, [.ref a]) s) : wpAny (model X.prog X.w) A (getMethod (.ref a) m pl) Q E s := by
  obtain ⟨mA, dx, O, r⟩ := e.ok I.hok
  have hn : mA m = none := RelO.none_of (by rw [← l]; exact r m)
  exact get_meth I.kIn O (c.get m) k.at_ k.fn hn h
theorem pe_methG {pl : Sem Bool} (g : Gd X T W) (ho : PE X o to) (ha : PA X (e :: es) ta) (hst : starEach (e :: es) X.env = (false, eval e X.env) :: starEach es X.env := by rfl) (hpl : (backTo pos (starEach es X.env)).any (·.1) = false := by rfl)
    (ht : eval (.Call (.Attribute o m apos) (e :: es) [] pos) X.env = (do
      let ov ← eval o X.env
      standAt apos.atName
      let (f, first) ← holding [ov] (getMethod ov m pl)
      callWith pos f first (backTo pos (starEach (e :: es) X.env)) (backToKw pos (keywordEach [] X.env))) := by rfl) :
    PE X (.Call (.Attribute o m apos) (e :: es) [] pos) (tMethG T W m to ta) := by
  refine ⟨fun pins s σ H Q I h => ?_⟩
  obtain ⟨k, hr, ok⟩ := g.lv
  refine PySem.W.methodCall_KW (pl := pl) (thn (ho.run pins s σ H _ I h) fun u s1 ⟨x, H1, I1, rx, a, C, fs, sp, ex, ea, l, hm, q⟩ => ?_) ht
  subst ex
  obtain rfl : u = Value.ref a := rx
  obtain ⟨cl, fa, me, c⟩ := ok.me C m sp hm
  refine getmethG I1 ea cl me l ?_
  refine PySem.W.callWith_K (first := [.ref a]) (h₀ := X.base) I.ok.mod.kin me.kp (thn (ha.run pos pins s1 σ H1 _ I1 q) fun us s2 ⟨vs, H2, I2, r, q2⟩ => ⟨I2.kIn, ?_⟩) hst hpl
  exact c.run X W rfl rfl rfl rfl rfl hr g.tk pins s2 σ H2 (.ref a :: vs) (.ref a :: us) Q I2 (.cons rfl r) q2
theorem pe_methG0 {pl : Sem Bool} (g : Gd X T W) (ho : PE X o to)
    (ht : eval (.Call (.Attribute o m apos) [] [] pos) X.env = (do
      let ov ← eval o X.env
      standAt apos.atName
      let (f, first) ← holding [ov] (getMethod ov m pl)
      callWith pos f first (backTo pos (starEach [] X.env)) (backToKw pos (keywordEach [] X.env))) := by rfl) :
    PE X (.Call (.Attribute o m apos) [] [] pos) (tMethG T W m to tNil) := by
  refine ⟨fun pins s σ H Q I h => ?_⟩
  obtain ⟨k, hr, ok⟩ := g.lv
  refine PySem.W.methodCall_KW (pl := pl) (thn (ho.run pins s σ H _ I h) fun u s1 ⟨x, H1, I1, rx, a, C, fs, sp, ex, ea, l, hm, q⟩ => ?_) ht
  subst ex
  obtain rfl : u = Value.ref a := rx
  obtain ⟨cl, fa, me, c⟩ := ok.me C m sp hm
  refine getmethG I1 ea cl me l ?_
  exact PySem.W.callWith_K0 (first := [.ref a]) I1.kIn me.kp (c.run X W rfl rfl rfl rfl rfl hr g.tk pins s1 σ H1 [.ref a] [.ref a] Q I1 (.cons rfl .nil) q)

/-! ### a class called -/
theorem CalV.of_make {P : Program} {w : World} {K : PySem.W.Frag} {mg : Str → Option Value} {base : Heap} {k : Nat} {C fI : Addr} {fd : FuncData} {ps : List Str} {sp : Sp} (M : Mk K C fI) (F : FnOk P w K mg base (L2N.CX P w) k fI fd ps sp) (hb : Binds K fd ps []) :
    CalV P w K mg base (k + 1) (.ref C) (spNew C (spP sp)) := ⟨fun X W e1 e2 e3 e4 e5 hr tk pins s σ H vs us Q I r q => by
  subst e1 e2 e3 e4 e5
  have hx : PassesAt (L2N.CX X.prog X.w) X σ (WE W σ) := L2N.passAt tk σ
  have F' := fn_pres F
  have na := I.hok.fresh (Nat.le_succ s.heap.objs.size)
  have nd := I.hok.fresh (Nat.le_refl s.heap.objs.size)
  have q1 := q (s.heap.objs.size + 1) s.heap.objs.size na nd (Nat.ne_of_lt (Nat.lt_succ_self _))
  have J := Inv.made (C := C) I
  have rr : Vals (V.ref (s.heap.objs.size + 1) :: vs) (Value.ref (s.heap.objs.size + 1) :: us) := .cons rfl r
  have hl : (Value.ref (s.heap.objs.size + 1) :: us).length = ps.length := rr.length.symm.trans (F'.len _ _ _ _ q1)
  have bd := hb _ (Value.ref (s.heap.objs.size + 1) :: us) J.kIn (by rw [List.append_nil]; exact hl)
  rw [List.append_nil] at bd
  have run := F'.run _ X.stack _ _ ⟨Value.ref (s.heap.objs.size + 1) :: us, []⟩ (Value.ref (s.heap.objs.size + 1) :: us) _ _ (WE W σ) (hr.make C us []) (J.env0.make C us []) bd rr q1
  refine wpAny_call (make_map (f := fI) I.kIn M.makes M.init (beq_iff_eq.mp M.fn) (codeAny_mono run fun r' s' z => ?_))
  cases r' with
  | error e => exact hx pins _ _ e s' J z
  | ok fl =>
    cases fl with
    | ret u =>
      obtain ⟨v, H', I3, rv, ev, q3⟩ := J.after z
      subst ev
      exact ⟨rv, V.ref (s.heap.objs.size + 1), H', I3, rfl, q3⟩
    | next => exact False.elim z
    | brk => exact False.elim z
    | cont => exact False.elim z⟩
/-- C() -/
theorem CalV.of_make0 {P : Program} {w : World} {K : PySem.W.Frag} {mg : Str → Option Value} {base : Heap} {k : Nat} {C fI : Addr} {fd : FuncData} {sp : Sp} (M : Mk K C fI) (F : FnOk P w K mg base (L2N.CX P w) k fI fd ["self"] sp) (hb : Binds K fd ["self"] []) :
    CalV P w K mg base (k + 1) (.ref C) (spNew C (spP sp)) := CalV.of_make M F hb
end
end L2.Fk
set_option Elab.async false
set_option linter.all false
set_option maxRecDepth 100000
set_option maxHeartbeats 4000000
/-! errors of the text's own classes over ValueError: made by an __init__ that says super().__init__(..) and stores one or two fields -/
namespace L2.Fk
open PySem PySem.W PySem.Calls PyProof.Rows
section
variable {prog : Program} {w : World} {M : Model} {A : Around} {E : Value → Shared → Prop} {h : Heap} {g : Array GenState} {d : Drawn} {t : Nat} {os : OsState} {K : Frag}
/-- the bound ValueError.__init__ called: the exception's arguments change, nothing else -/
theorem sup_call {u e t0 C N : Addr} {nm q : Str} {bs bm : List Value} {hdct : Bool} {sn : List Str} {sub : List Value} {ab : Bool} {col : Option Bool} {dd : Option Addr} {k0 k1 k2 k3 k5 : Option Value} {rest : List Value} {Q : Value → Shared → Prop}
    (hC : h.get? C = some (excClassObj nm q C N bs bm hdct sn sub ab col dd k0 k1 k2 k3 k5 "ValueError.__new__")) (he : h.get? e = some (HandSPX.excO C t0)) (hu : h.get? u = some (kxs_mw "ValueError.__init__" e)) (hrest : rest.length ≤ sizeLine)
    (hq : ∀ h' t1, (∀ b o, b ≠ e → h.get? b = some o → h'.get? b = some o) → h'.get? e = some (HandSPX.excO C t1) → Q .none ⟨h', g, d, t, os⟩) :
    wpAny (model prog w) A (call (.ref u) rest) Q E ⟨h, g, d, t, os⟩ := by
  have FB := PySem.F.excBase_ValueError
  refine wpAny_call (codeAny_of_tree ?_)
  show wpAny _ A.in1 (callAny (.ref u) ⟨rest, []⟩) _ _ _
  simp only [callAny]
  refine wpAny_bind (wpAny_load hu ?_)
  simp only [kxs_mw, show (Value.type "method-wrapper" == Value.type "method" || Value.type "method-wrapper" == Value.type "builtin_function_or_method" || Value.type "method-wrapper" == Value.type "method-wrapper") = true by decide, if_true]
  refine W.KFB.if_so (by decide) ?_
  refine wpAny_bind (check_bound_init PySem.F.excBase_ValueError.toExcCallFacts hC he rfl ?_)
  refine wpAny_bind (wpAny_pure (wpAny_pure ?_))
  refine ⟨Code.quiet_builtin _ (by decide +kernel), codeAny_builtin PySem.F.excBase_ValueError.initEntry ?_⟩
  rw [Around.under_plainId PySem.F.excBase_ValueError.init.plain _]
  wp_walk
  refine hq _ h.objs.size (fun b o hb ho => ?_) ?_
  · rw [Heap.get?_update_other _ _ (Ne.symm hb)]
    exact Heap.get?_push_of_some _ ho
  · rw [Heap.get?_update_self _ (Heap.get?_push_of_some _ he) rfl]
    rfl
end

/-! ### the statement super().__init__(text) in an __init__ of such a class -/
/-- what the text's top has left of a class whose __init__ calls super -/
structure SupFn (P : Program) (K : Frag) (C fI cc cda : Addr) (fd : FuncData) : Prop where
  fn : ∃ oc od osl, K.lookup fI = some ⟨oc, od, .func fd, osl⟩
  cell : ∃ cl cld csl, K.lookup cc = some ⟨cl, cld, .cell (some (.ref C)), csl⟩
  code : ∃ ccl cdd vs ccs file tf, K.lookup cda = some ⟨ccl, cdd, .fields vs, ccs⟩ ∧ vs[2]? = some (.str file tf) ∧ ((P.main.file : Str) == file) = true
  cls : ∃ cd, clsIn K C = some cd
  sub : mroIn K C (.ref C) = some true
  top : (P.main.scope.names.lookup ("super" : Str)).isSome = false
  op : nsIn K cStatics "thirdparty.any" = some none
section
variable {prog : Program} {w : World} {A : Around} {E : Value → Shared → Prop} {h : Heap} {g : Array GenState} {d : Drawn} {t : Nat} {os : OsState} {K : Frag}
/-- super() itself -/
theorem sup_base {body : List Stmt} {q : Str} {scope : Scope} {p0 p1 : Pos} {whole : Sem Value} {fd : FuncData} {ar : Arg} {L C fI cc cda x : Addr} {ox : Obj} {m mg mb : Str → Option Value} {Q : Value → Shared → Prop}
    (S : SupFn prog K C fI cc cda fd) (X : K.In h) (hns : h.Ns L m) (hp : (fd.params.posonlyargs ++ fd.params.args).head? = some ar) (hv : m ar.arg = some (.ref x)) (hx : h.get? x = some ox) (hxc : ox.cls = .ref C) (hxn : ∀ c, ox.data ≠ .cls c)
    (hg : h.Ns mainGlobals mg) (hgs : mg "super" = none) (hb : h.Ns builtinsNs mb) (hbs : ∀ x : Str, x ≠ "__name__" → mb x = bootBuiltins x)
    (hks : scope.names.lookup ("super" : Str) = some .globalImplicit) (hkc : scope.names.lookup ("__class__" : Str) = some .free) (hka : scope.names.lookup ar.arg = some .local) (hk : scope.kind = .function)
    (hq : ∀ h' so, (∀ y o, h.get? y = some o → h'.get? y = some o) → h'.get? so = some (ks_superObj C x C) → Q (.ref so) ⟨h', g, d, t, os⟩) :
    _root_.PySem.wpAt (model prog w) A (.func body (ksEnv q scope L fI (.ref cda) cc)) (attributeBase (.Call (.Name "super" p0) [] [] p1) "__init__" (ksEnv q scope L fI (.ref cda) cc) whole) Q E ⟨h, g, d, t, os⟩ := by
  obtain ⟨oc, od, osl, hf⟩ := S.fn
  obtain ⟨cl, cld, csl, hcell⟩ := S.cell
  obtain ⟨ccl, cdd, vs, ccs, file, tf, hcode, hvs, hfile⟩ := S.code
  obtain ⟨cdD, hD⟩ := S.cls
  obtain ⟨oD, hD1, hD2⟩ : ∃ oD, h.get? C = some oD ∧ oD.data = .cls cdD := by
    unfold clsIn at hD
    split at hD
    · rename_i c d cd' sl ho
      cases hD
      exact ⟨_, X _ _ ho, rfl⟩
    · cases hD
  refine ks_wpAt_super_base (env := ksEnv q scope L fI (.ref cda) cc) hks hkc (by decide +kernel) rfl (X _ _ hf) rfl hp rfl (X _ _ hcode) rfl hvs hfile S.top ?_
  refine ks_loadName_global hk hks (loadGlobal_builtin (env := ksEnv q scope L fI (.ref cda) cc) hg hgs hb ((hbs _ (by decide +kernel)).trans (by decide +kernel : bootBuiltins "super" = some (.type "super"))) ⟨rfl, ?_⟩)
  refine wpAny_loadName_free hk hkc rfl ⟨_, X _ _ hcell, rfl⟩ ?_
  refine wpAny_loadName_local hk hka hns hv ?_
  refine ks_wpAny_isType_cls hD1 hD2 ⟨rfl, ?_⟩
  exact ks_wpAny_call_super hD1 hD2 hx hxc hxn (looks_mroIn X S.sub) fun h' e k => hq h' _ k e
end

/-! ### the __init__ of such a class, whole -/
def eSup (a b c d e f : Pos) (j : Nat) (msg : Str) : Stmt := .Expr (.Call (.Attribute (.Call (.Name "super" a) [] [] b) "__init__" c) [.Constant (.str msg) j d] [] e) f
def eSet (a b c d : Pos) (f : Str) : Stmt := .Assign [.Attribute (.Name "self" a) f b] (.Name f c) d
/-- what is known of the world: the module's names, the built-in ones -/
structure Gx (h : Heap) (K : Frag) (mg : Str → Option Value) : Prop where
  kin : K.In h
  g : h.Ns mainGlobals mg
  b : ∃ mb, h.Ns builtinsNs mb ∧ ∀ x : Str, x ≠ "__name__" → mb x = bootBuiltins x
  lim : h.NoLimit
theorem Gx.keeps {h h' : Heap} {K : Frag} {mg : Str → Option Value} (G : Gx h K mg) (k : ∀ b o, h.get? b = some o → h'.get? b = some o) : Gx h' K mg := by
  obtain ⟨a, b, ⟨mb, c1, c2⟩, d⟩ := G
  exact ⟨a.keeps k, b.keeps k, ⟨mb, c1.keeps k, c2⟩, d.keeps k⟩
/-- what the class says -/
structure ErrCls (K : Frag) (C : Addr) : Prop where
  cls : ∃ nm q N bs bm sn sub ab col dd k0 k1 k2 k3 k5, K.lookup C = some (excClassObj nm q C N bs bm true sn sub ab col dd k0 k1 k2 k3 k5 "ValueError.__new__") ∧ HandSPX.refsVE bm = true
  sa : findIn K (.ref C) "__setattr__" = some (some (.builtin "object.__setattr__"))
  exC : subIn K (.ref C) (.type "BaseException") = some true
  tyC : typeIn K (.ref C) = some (.type "type")
  kC : keepIn K (.ref C) = true
  al : ks_superIn K C C "__init__" = some (some (.builtin "ValueError.__init__"))
theorem ErrCls.clsIn {K : Frag} {C : Addr} (T : ErrCls K C) : ∃ cd, clsIn K C = some cd ∧ cd.hasDict = true ∧ HandSPX.refsVE cd.mro = true ∧ ∃ bm, cd.mro = .ref C :: bm := by
  obtain ⟨nm, q, N, bs, bm, sn, sub, ab, col, dd, k0, k1, k2, k3, k5, hC, hbm⟩ := T.cls
  exact ⟨{ name := nm, bases := bs, mro := .ref C :: bm, ns := N, qualname := q, hasDict := true, slotNames := sn, subclasses := sub, abstract := ab, collection := col, hasDel := false }, by unfold W.clsIn; rw [hC] <;> rfl, rfl, hbm, bm, rfl⟩
/-- a method's call on one line -/
theorem eval_meth1 {o a1 : Expr} {m : Str} {c e : Pos} {env : Env} (hl : (c.endLine == e.line) = true) (h1 : starEach [a1] env = [(false, eval a1 env)]) : eval (.Call (.Attribute o m c) [a1] [] e) env = (do
      let ov ← attributeBase o m env (eval o env)
      standAt c.atName
      let (f, first) ← holding [ov] (getMethod ov m (do return (← importBound o env).getD true))
      callWith e f first (backTo e (starEach [a1] env)) []) := by
  have e1 : methodCallPos true o env c e = pure e := by
    unfold methodCallPos
    rw [hl]
    rfl
  have e2 : methodCallForm ([a1].length + ([] : List Keyword).length) (backTo e (starEach [a1] env)) (backToKw e (keywordEach [] env)) = true := by
    rw [h1]
    rfl
  show (do
      let ov ← attributeBase o m env (eval o env)
      standAt c.atName
      methodCall o m c e env ov ([a1].length + ([] : List Keyword).length) (backTo e (starEach [a1] env)) (backToKw e (keywordEach [] env))) = _
  unfold methodCall
  rw [e2, e1]
  rfl
section
variable {prog : Program} {w : World} {A : Around} {E : Value → Shared → Prop} {h : Heap} {g : Array GenState} {d : Drawn} {t : Nat} {os : OsState} {K : Frag}
/-- the statement super().__init__(text): x's arguments change -/
theorem sup_stmt {body : List Stmt} {q msg : Str} {scope : Scope} {a b c d' e f : Pos} {j : Nat} {fd : FuncData} {ar : Arg} {L C fI cc cda x t0 : Addr} {m mg : Str → Option Value} {Q : Flow → Shared → Prop}
    (S : SupFn prog K C fI cc cda fd) (T : ErrCls K C) (G : Gx h K mg) (hgs : mg "super" = none) (hns : h.Ns L m) (hp : (fd.params.posonlyargs ++ fd.params.args).head? = some ar) (hv : m ar.arg = some (.ref x)) (hx : h.get? x = some (HandSPX.excO C t0))
    (hks : scope.names.lookup ("super" : Str) = some .globalImplicit) (hkc : scope.names.lookup ("__class__" : Str) = some .free) (hka : scope.names.lookup ar.arg = some .local) (hk : scope.kind = .function) (hl : (c.endLine == e.line) = true)
    (hq : ∀ h' t1 tk, (∀ y o, y ≠ x → h.get? y = some o → h'.get? y = some o) → h'.get? x = some (HandSPX.excO C t1) → Q .next ⟨h', g, d, tk, os⟩) :
    _root_.PySem.wpAt (model prog w) A (.func body (ksEnv q scope L fI (.ref cda) cc)) (exec (eSup a b c d' e f j msg) (ksEnv q scope L fI (.ref cda) cc)) Q E ⟨h, g, d, t, os⟩ := by
  obtain ⟨mb, hb, hbs⟩ := G.b
  obtain ⟨nm, q', N, bs, bm, sn, sub, ab, col, dd, k0, k1, k2, k3, k5, hC, hbm⟩ := T.cls
  obtain ⟨cd, hcd, hdict, hmro, bm', hm'⟩ := T.clsIn
  have hxC : x ≠ C := fun z => by
    have y := G.kin _ _ hC
    rw [← z, hx] at y
    cases y
  unfold eSup
  refine ks_wpAt_Expr_any ?_ (by show interactive _ = false; simp [interactive, hk]) rfl
  refine ks_wpAt_MethodCall ?_ (eval_meth1 hl rfl)
  refine sup_base S G.kin hns hp hv hx rfl (fun z q => by cases q) G.g hgs hb hbs hks hkc hka hk fun h1 so k1' hso => ?_
  have G1 := G.keeps k1'
  have hx1 := k1' _ _ hx
  have LC : Looks (model prog w) h1 (classData C) cd := looks_clsIn G1.kin hcd
  have LM : Looks (model prog w) h1 (mroOf (.ref C)) cd.mro := fun A Q E s k q => wpAny_bind (LC A _ E s k (wpAny_pure q))
  have LT : Looks (model prog w) h1 (typeOf (.ref x)) (.ref C) := fun A Q E s k q => wpAny_typeOf_ref (k _ _ hx1) q
  have hVE : mroIn K C (.type "ValueError") = some true := by
    unfold mroIn
    rw [hcd, Option.bind_some, if_neg (by rw [HandSPX.refsVE_ne hmro]; decide), HandSPX.refsVE_contains "ValueError" _ hmro]
    rfl
  have hal : alongIn K "__init__" ((cd.mro.dropWhile (· != .ref C)).drop 1) = some (some (.builtin "ValueError.__init__")) := by
    have z := T.al
    unfold ks_superIn at z
    rw [hcd, Option.bind_some] at z
    exact z
  refine kxs_getMethod kxs_ValueError hso (looks_opaque G1.kin S.op) LM rfl G1.kin hal (LT.andThen (looks_mroIn G1.kin hVE)) hxC (by decide +kernel) ?_
  have hlt : x ≠ h1.objs.size := Nat.ne_of_lt (Heap.lt_size hx1)
  refine kxs_callWith (i := "ValueError.__init__") (x := x) rfl (evalArgs_plain ?_)
  refine Calls.spliced_cons (Calls.Constant_str (k := j) (pos := d') (Calls.spliced_nil ⟨Heap.get?_push_size _ rfl, ?_⟩))
  have k2 : ∀ b o, h1.get? b = some o → (h1.push (kxs_mw "ValueError.__init__" x)).get? b = some o := fun b o z => Heap.get?_push_of_some _ z
  refine sup_call (k2 _ _ (G1.kin _ _ hC)) (k2 _ _ hx1) (Heap.get?_push_size _ rfl) (by show 1 ≤ sizeLine; rw [sizeLine_eq]; decide) fun h2 t1 k3 hx2 => ?_
  exact hq h2 t1 _ (fun y o n z => k3 y o n (k2 _ _ (k1' _ _ z))) hx2

/-- self.f = v, the first field -/
theorem set_stmt1 {q f : Str} {scope : Scope} {a b c d' : Pos} {L C fI cc cda x : Addr} {fv : Array Value} {m mg : Str → Option Value} {v : Value} {Q : Flow → Shared → Prop}
    (T : ErrCls K C) (G : Gx h K mg) (hns : h.Ns L m) (hs : m "self" = some (.ref x)) (hv : m f = some v) (hx : h.get? x = some { cls := .ref C, data := .fields fv }) (hno : findIn K (.ref C) f = some none)
    (hka : scope.names.lookup ("self" : Str) = some .local) (hkf : scope.names.lookup f = some .local) (hk : scope.kind = .function) (hdb : (f == ("__debug__" : Str)) = false)
    (hq : ∀ h' tk dx, (∀ y o, y ≠ x → h.get? y = some o → h'.get? y = some o) → h.objs.size ≤ dx → dx ≠ x → h'.get? x = some { cls := .ref C, dict := some dx, data := .fields fv } → h'.Ns1 dx (fun y => if y = f then some v else none) → Q .next ⟨h', g, d, tk, os⟩) :
    wpAny (model prog w) A (exec (eSet a b c d' f) (ksEnv q scope L fI (.ref cda) cc)) Q E ⟨h, g, d, t, os⟩ := by
  obtain ⟨cd, hcd, hdict, hmro, bm', hm'⟩ := T.clsIn
  unfold eSet
  refine plainObj_wpAny_Assign_Attribute (wpAny_Name (wpAny_loadName_local hk hkf hns hv ?_) hdb) (by rfl)
  refine wpAny_Name (wpAny_loadName_local hk hka hns hs ?_) (by decide)
  refine set_plain G.kin (ox := { cls := .ref C, data := .fields fv }) (od := none) ⟨hx, rfl, rfl, trivial⟩ T.sa ?_
  exact HandSPX.exc_osa G.kin hx hcd hmro hdict hno fun h' tk dx k dn dne hx' hn => hq h' tk dx k dn dne hx' hn
/-- self.f = v, a further field -/
theorem set_stmt2 {q f : Str} {scope : Scope} {a b c d' : Pos} {L C fI cc cda x dx : Addr} {fv : Array Value} {m m0 mg : Str → Option Value} {nl : List Str} {v : Value} {Q : Flow → Shared → Prop}
    (T : ErrCls K C) (G : Gx h K mg) (hns : h.Ns L m) (hs : m "self" = some (.ref x)) (hv : m f = some v) (hx : h.get? x = some { cls := .ref C, dict := some dx, data := .fields fv }) (hn0 : h.Ns1 dx m0) (hw : Within m0 nl) (hz : nl.length ≤ 1000) (hno : findIn K (.ref C) f = some none)
    (hka : scope.names.lookup ("self" : Str) = some .local) (hkf : scope.names.lookup f = some .local) (hk : scope.kind = .function) (hdb : (f == ("__debug__" : Str)) = false)
    (hq : ∀ h' tk, (∀ y o, y ≠ dx → h.get? y = some o → h'.get? y = some o) → h'.Ns1 dx (fun y => if y = f then some v else m0 y) → Q .next ⟨h', g, d, tk, os⟩) :
    wpAny (model prog w) A (exec (eSet a b c d' f) (ksEnv q scope L fI (.ref cda) cc)) Q E ⟨h, g, d, t, os⟩ := by
  obtain ⟨cd, hcd, hdict, hmro, bm', hm'⟩ := T.clsIn
  unfold eSet
  refine plainObj_wpAny_Assign_Attribute (wpAny_Name (wpAny_loadName_local hk hkf hns hv ?_) hdb) (by rfl)
  refine wpAny_Name (wpAny_loadName_local hk hka hns hs ?_) (by decide)
  obtain ⟨oD, _, _, hoD, _, _⟩ := hn0.count hw
  refine set_plain G.kin (ox := { cls := .ref C, dict := some dx, data := .fields fv }) (od := some oD) ⟨hx, rfl, rfl, hoD⟩ T.sa ?_
  exact OEX.osa_old G.kin hx hn0 hw hz hcd hmro hdict hno fun h' tk k hn => hq h' tk k hn

/-! ### the class called: X(v), X(v, u) -/
/-- what a made error is: its own dict holds the fields -/
structure ErrMade (h h' : Heap) (e C dx : Addr) (mA : Str → Option Value) : Prop where
  keep : ∀ b o, h.get? b = some o → h'.get? b = some o
  new : h.objs.size ≤ e
  obj : ∃ t1, h'.get? e = some { cls := .ref C, dict := some dx, data := .fields #[.ref t1, .none, .none, .none, .bool false, .none] }
  dbig : h.objs.size ≤ dx
  dne : dx ≠ e
  ns : h'.Ns1 dx mA
/-- the __init__ of one field, of two -/
structure ErrInit (P : Program) (K : Frag) (C fI : Addr) (ps : List Str) (body : List Stmt) : Prop where
  i : findIn K (.ref C) "__init__" = some (some (.ref fI))
  ty : typeIn K (.ref fI) = some (.type "function")
  fn : ∃ cc cda qual params scope dV kV doc pm an ct oc od osl, SupFn P K C fI cc cda (ksFn "__init__" qual params body scope dV kV doc pm an (.ref cda) ct cc) ∧ K.lookup fI = some ⟨oc, od, .func (ksFn "__init__" qual params body scope dV kV doc pm an (.ref cda) ct cc), osl⟩ ∧
    codeIn K (.ref cda) qual = true ∧ (params.posonlyargs ++ params.args).head?.map (·.arg) = some "self" ∧ (∀ us : List Value, us.length = ps.length + 1 → bindArgs (ksFn "__init__" qual params body scope dV kV doc pm an (.ref cda) ct cc) ⟨us, []⟩ = pure (((("self" : Str) :: ps).zip us))) ∧
    scope.kind = .function ∧ scope.isCoroutine = false ∧ scope.isGenerator = false ∧ (∀ y ∈ scope.names, y.2 ≠ .cell) ∧ scope.names.lookup ("self" : Str) = some .local ∧ (∀ f ∈ ps, scope.names.lookup f = some .local ∧ (f == ("__debug__" : Str)) = false ∧ f ≠ "self") ∧
    scope.names.lookup ("super" : Str) = some .globalImplicit ∧ scope.names.lookup ("__class__" : Str) = some .free
end
section
variable {prog : Program} {w : World} {A : Around} {R : Result → Shared → Prop} {s : Shared} {K : Frag} {mg : Str → Option Value}
theorem err_init1 {hb : Heap} {C fI x t0 : Addr} {f msg : Str} {v : Value} {a b c d e f' g1 g2 g3 g4 : Pos} {j : Nat} (T : ErrCls K C) (N : ErrInit prog K C fI [f] [eSup a b c d e f' j msg, eSet g1 g2 g3 g4 f]) (hno : findIn K (.ref C) f = some none) (hl : (c.endLine == e.line) = true)
    (G : Gx hb K mg) (kb : ∀ y o, hb.get? y = some o → s.heap.get? y = some o) (xb : hb.get? x = none) (hgs : mg "super" = none) (hx : s.heap.get? x = some (HandSPX.excO C t0)) (hroom : A.depth < recursionLimit)
    (hq : ∀ h' tk dx t1, (∀ y o, y ≠ x → s.heap.get? y = some o → h'.get? y = some o) → s.heap.objs.size ≤ dx → dx ≠ x → h'.get? x = some { cls := .ref C, dict := some dx, data := .fields #[.ref t1, .none, .none, .none, .bool false, .none] } → h'.Ns1 dx (fun y => if y = f then some v else none) →
      R (.ok (.ret .none)) { s with heap := h', toks := tk }) :
    codeAny (model prog w) A (.call (.ref fI) ⟨[.ref x, v], []⟩) R s := by
  obtain ⟨cc, cda, qual, params, scope, dV, kV, doc, pm, an, ct, oc, od, osl, S, hf, hcode, hself, hbind, hk, hco, hgen, hcell, hls, hlf, hsu, hcl⟩ := N.fn
  obtain ⟨hlf1, hlf2, hlf3⟩ := hlf f (by simp)
  have G' := G.keeps kb
  obtain ⟨ar, har, hare⟩ : ∃ ar, (params.posonlyargs ++ params.args).head? = some ar ∧ ar.arg = "self" := by
    cases z : (params.posonlyargs ++ params.args).head? with
    | none => rw [z] at hself; cases hself
    | some ar => rw [z] at hself; exact ⟨ar, rfl, Option.some.inj hself⟩
  have hbn : bindArgs (ksFn "__init__" qual params [eSup a b c d e f' j msg, eSet g1 g2 g3 g4 f] scope dV kV doc pm an (.ref cda) ct cc) ⟨[.ref x, v], []⟩ = pure [(("self" : Str), .ref x), (f, v)] := hbind [.ref x, v] rfl
  refine ks_codeAny_call_defAt (binds := [(("self" : Str), .ref x), (f, v)]) (body := [eSup a b c d e f' j msg, eSet g1 g2 g3 g4 f]) hroom (G'.kin _ _ hf) rfl G'.lim (codeRec_of G'.kin hcode) rfl (BindsTo.of_eq hbn) hcell
    (fun y hy => by
      simp only [List.mem_cons, List.mem_singleton, List.not_mem_nil, or_false] at hy
      rcases hy with rfl | rfl
      · exact hls
      · exact hlf1) (fun h0 hns k0 => ?_) hco hgen hk
  have G0 := G'.keeps k0
  have hx0 := k0 _ _ hx
  have hm1 : (fun y => ([(("self" : Str), Value.ref x), (f, v)] : List (Str × Value)).reverse.lookup y) "self" = some (.ref x) := by
    have z : (("self" : Str) == f) = false := by simpa using hlf3.symm
    show List.lookup ("self" : Str) [(f, v), ("self", .ref x)] = _
    simp [List.lookup, z]
  have hm2 : (fun y => ([(("self" : Str), Value.ref x), (f, v)] : List (Str × Value)).reverse.lookup y) f = some v := by
    show List.lookup f [(f, v), ("self", .ref x)] = _
    simp [List.lookup]
  refine ks_wpAt_execs_cons ?_
  refine sup_stmt (scope := scope) (ar := ar) S T G0 hgs hns har (by rw [hare]; exact hm1) hx0 hsu hcl (by rw [hare]; exact hls) hk hl fun h1 t1 tk k1 hx1 => ?_
  have hneL : s.heap.objs.size ≠ x := fun z => absurd (Heap.lt_size hx) (by rw [← z]; exact Nat.lt_irrefl _)
  have hns1 : h1.Ns s.heap.objs.size (fun y => ([(("self" : Str), Value.ref x), (f, v)] : List (Str × Value)).reverse.lookup y) := by
    obtain ⟨o, es, ep, z1, z2⟩ := hns
    exact ⟨o, es, ep, k1 _ _ hneL z1, z2⟩
  have G1 : Gx h1 K mg := G.keeps fun y o z => k1 y o (fun q => by rw [q, xb] at z; cases z) (k0 _ _ (kb _ _ z))
  refine wpAt_of_wpAny (wpAny_execs_cons (set_stmt1 T G1 hns1 hm1 hm2 hx1 hno hls hlf1 hk hlf2 fun h2 tk2 dx k2 dn dne hx2 hn2 => ?_))
  refine wpAny_execs_nil ?_
  refine hq h2 _ dx t1 (fun y o n z => k2 y o n (k1 y o n (k0 _ _ z))) (Nat.le_of_lt (Nat.lt_of_lt_of_le hns1.lt dn)) dne hx2 hn2
theorem err_init2 {hb : Heap} {C fI x t0 : Addr} {f k msg : Str} {v u : Value} {a b c d e f' g1 g2 g3 g4 k1' k2' k3' k4' : Pos} {j : Nat} (T : ErrCls K C) (N : ErrInit prog K C fI [f, k] [eSup a b c d e f' j msg, eSet g1 g2 g3 g4 f, eSet k1' k2' k3' k4' k]) (hfk : f ≠ k) (hno : findIn K (.ref C) f = some none) (hnk : findIn K (.ref C) k = some none) (hl : (c.endLine == e.line) = true)
    (G : Gx hb K mg) (kb : ∀ y o, hb.get? y = some o → s.heap.get? y = some o) (xb : hb.get? x = none) (hgs : mg "super" = none) (hx : s.heap.get? x = some (HandSPX.excO C t0)) (hroom : A.depth < recursionLimit)
    (hq : ∀ h' tk dx t1, (∀ y o, y ≠ x → s.heap.get? y = some o → h'.get? y = some o) → s.heap.objs.size ≤ dx → dx ≠ x → h'.get? x = some { cls := .ref C, dict := some dx, data := .fields #[.ref t1, .none, .none, .none, .bool false, .none] } → h'.Ns1 dx (fun y => if y = k then some u else if y = f then some v else none) →
      R (.ok (.ret .none)) { s with heap := h', toks := tk }) :
    codeAny (model prog w) A (.call (.ref fI) ⟨[.ref x, v, u], []⟩) R s := by
  obtain ⟨cc, cda, qual, params, scope, dV, kV, doc, pm, an, ct, oc, od, osl, S, hf, hcode, hself, hbind, hk, hco, hgen, hcell, hls, hlf, hsu, hcl⟩ := N.fn
  obtain ⟨hlf1, hlf2, hlf3⟩ := hlf f (by simp)
  obtain ⟨hlk1, hlk2, hlk3⟩ := hlf k (by simp)
  have G' := G.keeps kb
  obtain ⟨ar, har, hare⟩ : ∃ ar, (params.posonlyargs ++ params.args).head? = some ar ∧ ar.arg = "self" := by
    cases z : (params.posonlyargs ++ params.args).head? with
    | none => rw [z] at hself; cases hself
    | some ar => rw [z] at hself; exact ⟨ar, rfl, Option.some.inj hself⟩
  have hbn : bindArgs (ksFn "__init__" qual params [eSup a b c d e f' j msg, eSet g1 g2 g3 g4 f, eSet k1' k2' k3' k4' k] scope dV kV doc pm an (.ref cda) ct cc) ⟨[.ref x, v, u], []⟩ = pure [(("self" : Str), .ref x), (f, v), (k, u)] := hbind [.ref x, v, u] rfl
  refine ks_codeAny_call_defAt (binds := [(("self" : Str), .ref x), (f, v), (k, u)]) (body := [eSup a b c d e f' j msg, eSet g1 g2 g3 g4 f, eSet k1' k2' k3' k4' k]) hroom (G'.kin _ _ hf) rfl G'.lim (codeRec_of G'.kin hcode) rfl (BindsTo.of_eq hbn) hcell
    (fun y hy => by
      simp only [List.mem_cons, List.mem_singleton, List.not_mem_nil, or_false] at hy
      rcases hy with rfl | rfl | rfl
      · exact hls
      · exact hlf1
      · exact hlk1) (fun h0 hns k0 => ?_) hco hgen hk
  have G0 := G'.keeps k0
  have hx0 := k0 _ _ hx
  have hm1 : (fun y => ([(("self" : Str), Value.ref x), (f, v), (k, u)] : List (Str × Value)).reverse.lookup y) "self" = some (.ref x) := by
    have z : (("self" : Str) == f) = false := by simpa using hlf3.symm
    have z2 : (("self" : Str) == k) = false := by simpa using hlk3.symm
    show List.lookup ("self" : Str) [(k, u), (f, v), ("self", .ref x)] = _
    simp [List.lookup, z, z2]
  have hm2 : (fun y => ([(("self" : Str), Value.ref x), (f, v), (k, u)] : List (Str × Value)).reverse.lookup y) f = some v := by
    have z : (f == k) = false := by simpa using hfk
    show List.lookup f [(k, u), (f, v), ("self", .ref x)] = _
    simp [List.lookup, z]
  have hm3 : (fun y => ([(("self" : Str), Value.ref x), (f, v), (k, u)] : List (Str × Value)).reverse.lookup y) k = some u := by
    show List.lookup k [(k, u), (f, v), ("self", .ref x)] = _
    simp [List.lookup]
  refine ks_wpAt_execs_cons ?_
  refine sup_stmt (scope := scope) (ar := ar) S T G0 hgs hns har (by rw [hare]; exact hm1) hx0 hsu hcl (by rw [hare]; exact hls) hk hl fun h1 t1 tk k1 hx1 => ?_
  have hneL : s.heap.objs.size ≠ x := fun z => absurd (Heap.lt_size hx) (by rw [← z]; exact Nat.lt_irrefl _)
  have hns1 : h1.Ns s.heap.objs.size (fun y => ([(("self" : Str), Value.ref x), (f, v), (k, u)] : List (Str × Value)).reverse.lookup y) := by
    obtain ⟨o, es, ep, z1, z2⟩ := hns
    exact ⟨o, es, ep, k1 _ _ hneL z1, z2⟩
  have G1 : Gx h1 K mg := G.keeps fun y o z => k1 y o (fun q => by rw [q, xb] at z; cases z) (k0 _ _ (kb _ _ z))
  refine wpAt_of_wpAny (wpAny_execs_cons (set_stmt1 T G1 hns1 hm1 hm2 hx1 hno hls hlf1 hk hlf2 fun h2 tk2 dx k2 dn dne hx2 hn2 => ?_))
  have hL2 : h2.Ns s.heap.objs.size (fun y => ([(("self" : Str), Value.ref x), (f, v), (k, u)] : List (Str × Value)).reverse.lookup y) := by
    obtain ⟨o, es, ep, z1, z2⟩ := hns1
    exact ⟨o, es, ep, k2 _ _ hneL z1, z2⟩
  have G2 : Gx h2 K mg := G.keeps fun y o z => k2 y o (fun q => by rw [q, xb] at z; cases z) (k1 y o (fun q => by rw [q, xb] at z; cases z) (k0 _ _ (kb _ _ z)))
  have hw : Within (fun y => if y = f then some v else none) [f] := fun y hy => by
    by_cases z : y = f
    · simp [z]
    · exact absurd (if_neg z) hy
  refine wpAny_execs_cons (set_stmt2 T G2 hL2 hm1 hm3 hx2 hn2 hw (by show 1 ≤ 1000; decide) hnk hls hlk1 hk hlk2 fun h3 tk3 k3 hn3 => ?_)
  refine wpAny_execs_nil ?_
  have dlt : s.heap.objs.size < dx := Nat.lt_of_lt_of_le hns1.lt dn
  refine hq h3 _ dx t1 (fun y o n z => k3 y o (Nat.ne_of_lt (Nat.lt_trans (Heap.lt_size z) dlt)) (k2 y o n (k1 y o n (k0 _ _ z)))) (Nat.le_of_lt dlt) dne (k3 _ _ (Ne.symm dne) hx2) hn3
end
end L2.Fk
set_option Elab.async false
set_option linter.all false
set_option maxRecDepth 100000
set_option maxHeartbeats 4000000
/-! errors made and raised, by values -/
namespace L2.Fk
open PySem PySem.Spec PyProof.Rows
abbrev SpX := List V → Hp → XK → Prop
/-- X(..) without an __init__; X(v); X(v, u) -/
def spEx0 (C : Addr) : SpX := fun vs H Q => vs.length ≤ 1000 ∧ Q (.ref C) none H
def spEx1 (C : Addr) (f : Str) : SpX := fun vs H Q => ∃ v, vs = [v] ∧ ∀ d, H d = none → Q (.ref C) (some d) (upd H d (.xd [(f, v)]))
def spEx2 (C : Addr) (f k : Str) : SpX := fun vs H Q => ∃ v u, vs = [v, u] ∧ ∀ d, H d = none → Q (.ref C) (some d) (upd H d (.xd [(k, u), (f, v)]))
structure MkE (P : Program) (w : World) (K : PySem.W.Frag) (mg : Str → Option Value) (base : Heap) (k : Nat) (f : Value) (sp : SpX) : Prop where
  run : ∀ (X : Cx), X.prog = P → X.w = w → X.K = K → X.mg = mg → X.base = base → Room k X.A →
    ∀ (pins : List (Addr × Obj)) (s : Shared) (σ : St) (H : Hp) (vs : List V) (us : List Value) (Q : XK), Inv X pins σ H s → Vals vs us → sp vs H Q → wpAny (model X.prog X.w) X.A (call f us) (L2N.MkP X pins σ Q) X.xe s
theorem relO_cons {f : Str} {y : V} {u : Value} {fs : List (Str × V)} {mA : Str → Option Value} (ry : RelV y u) (r : ∀ g, RelO (fs.lookup g) (mA g)) (g : Str) : RelO (((f, y) :: fs).lookup g) (if g = f then some u else mA g) := relO_put ry r g
section
variable {P : Program} {w : World} {K : PySem.W.Frag} {mg : Str → Option Value} {base : Heap} {C : Addr}
theorem inv_gx {X : Cx} {pins : List (Addr × Obj)} {σ : St} {H : Hp} {s : Shared} (I : Inv X pins σ H s) : Gx s.heap X.K X.mg :=
  ⟨I.kIn, I.ok.mod.glob.keeps I.bk, let ⟨mb, a, b⟩ := I.ok.mod.blt; ⟨mb, a.keeps I.bk, b⟩, I.nolimit⟩
/-- an exception that was made, its dict told -/
theorem mkp_of {X : Cx} {pins : List (Addr × Obj)} {σ : St} {H : Hp} {hp h' : Heap} {g : Array GenState} {dr : Drawn} {t tk : Nat} {os : OsState} {Q : XK} {e d : Addr} {t1 : Addr} {mA : Str → Option Value} {fs : List (Str × V)}
    (I : Inv X pins σ H ⟨hp, g, dr, t, os⟩) (keep : ∀ b o, hp.get? b = some o → h'.get? b = some o) (new : hp.objs.size ≤ e) (obj : h'.get? e = some { cls := .ref C, dict := some d, data := .fields #[.ref t1, .none, .none, .none, .bool false, .none] })
    (dbig : hp.objs.size ≤ d) (dne : d ≠ e) (ns : h'.Ns1 d mA) (rel : ∀ f, RelO (fs.lookup f) (mA f)) (R : Raises X (.ref C)) (q : Q (.ref C) (some d) (upd H d (.xd fs))) : L2N.MkP X pins σ Q (.ref e) ⟨h', g, dr, tk, os⟩ := by
  obtain ⟨G', g1, g2⟩ := restrict h' fun b => decide (b ≠ e)
  have gk : ∀ b, b ≠ e → G'.get? b = h'.get? b := fun b hb => g1 b (decide_eq_true hb)
  have ge : G'.get? e = none := g2 e (by simp)
  have old : ∀ b o, hp.get? b = some o → G'.get? b = some o := fun b o q => (gk b (Nat.ne_of_lt (Nat.lt_of_lt_of_le (Heap.lt_size q) new))).trans (keep b o q)
  have ob : ObjOk X.prog X.w (upd H d (.xd fs)) G' d (.xd fs) := ⟨_, ns.at (fun o q => (gk d dne).trans q), rel⟩
  have J : Inv X pins σ (upd H d (.xd fs)) ⟨G', g, dr, tk, os⟩ := I.laid (t' := tk) old dbig ob
  refine ⟨e, _, _, ⟨G', g, dr, tk, os⟩, _, .ref C, some d, rfl, J, fun b o q => ?_, ge, obj, ⟨rfl, rfl, fun vs e => by cases e; rfl⟩, rfl, rfl, ?_, rfl, I.bare, R, q⟩
  · by_cases hb : b = e
    · have q' : G'.get? b = some o := q
      rw [hb, ge] at q'
      cases q'
    · exact (gk b hb).symm.trans q
  · rw [upd_ne (Ne.symm dne)]
    exact I.hok.fresh new
theorem MkE.one {fI : Addr} {f msg : Str} {a b c d e f' g1 g2 g3 g4 : Pos} {j : Nat} (T : ErrCls K C) (N : ErrInit P K C fI [f] [eSup a b c d e f' j msg, eSet g1 g2 g3 g4 f]) (hno : PySem.W.findIn K (.ref C) f = some none) (hl : (c.endLine == e.line) = true) (hgs : mg "super" = none) :
    MkE P w K mg base 1 (.ref C) (spEx1 C f) := ⟨fun X e1 e2 e3 e4 e5 hr pins s σ H vs us Q I r h => by
  subst e1 e2 e3 e4 e5
  obtain ⟨v, rfl, q⟩ := h
  obtain ⟨nm, q', N', bs, bm, sn, sub, ab, col, dd, k0, k1, k2, k3, k5, hC, hbm⟩ := T.cls
  obtain ⟨u, rfl, ru⟩ := Vals.one r
  have G := inv_gx I
  obtain ⟨hp, g, dr, t, os⟩ := s
  have hsz : hp.objs.size ≤ hp.objs.size + 1 := Nat.le_succ _
  have kk : ∀ b o, hp.get? b = some o → ((hp.push (PySem.W.kdv_tup [u])).push (PySem.HandSPX.excO C hp.objs.size)).get? b = some o := fun b o e => Heap.get?_push_of_some _ (Heap.get?_push_of_some _ e)
  have hget : ((hp.push (PySem.W.kdv_tup [u])).push (PySem.HandSPX.excO C hp.objs.size)).get? (hp.objs.size + 1) = some (PySem.HandSPX.excO C hp.objs.size) := by heap_get
  refine wpAny_call (PySem.HandSPX.call_own PySem.F.excBase_ValueError (fun Y => PySem.HandSPX.refsVE_contains Y bm hbm) (G.kin _ _ hC) (PySem.W.looks_findIn G.kin N.i) (fun self => PySem.W.bind_fn G.kin self N.ty) (by show 1 ≤ sizeLine; rw [sizeLine_eq]; decide) ?_)
  refine err_init1 (hb := hp) T N hno hl G kk (Heap.get?_none_of_le hsz) hgs hget (by have := (hr.make C [u] []).dp; omega) fun h' tk dx t1 keep dbig dne hx hn => ?_
  have dbig' : hp.objs.size ≤ dx := by
    have z : hp.objs.size + 1 + 1 ≤ dx := by simpa only [Heap.size_push] using dbig
    omega
  exact ⟨rfl, mkp_of I (fun b o z => keep b o (Nat.ne_of_lt (Nat.lt_succ_of_lt (Heap.lt_size z))) (kk b o z)) hsz hx dbig' dne hn (relO_cons (fs := []) (mA := fun _ => Option.none) ru fun _ => trivial) (raises_own T.exC T.tyC) (q dx (I.hok.fresh dbig'))⟩⟩
theorem MkE.two {fI : Addr} {f k msg : Str} {a b c d e f' g1 g2 g3 g4 k1' k2' k3' k4' : Pos} {j : Nat} (T : ErrCls K C) (N : ErrInit P K C fI [f, k] [eSup a b c d e f' j msg, eSet g1 g2 g3 g4 f, eSet k1' k2' k3' k4' k]) (hfk : f ≠ k)
    (hno : PySem.W.findIn K (.ref C) f = some none) (hnk : PySem.W.findIn K (.ref C) k = some none) (hl : (c.endLine == e.line) = true) (hgs : mg "super" = none) :
    MkE P w K mg base 1 (.ref C) (spEx2 C f k) := ⟨fun X e1 e2 e3 e4 e5 hr pins s σ H vs us Q I r h => by
  subst e1 e2 e3 e4 e5
  obtain ⟨v, v2, rfl, q⟩ := h
  obtain ⟨nm, q', N', bs, bm, sn, sub, ab, col, dd, k0, k1, k2, k3, k5, hC, hbm⟩ := T.cls
  obtain ⟨u, u2, rfl, ru, ru2⟩ := vals2 r
  have G := inv_gx I
  obtain ⟨hp, g, dr, t, os⟩ := s
  have hsz : hp.objs.size ≤ hp.objs.size + 1 := Nat.le_succ _
  have kk : ∀ b o, hp.get? b = some o → ((hp.push (PySem.W.kdv_tup [u, u2])).push (PySem.HandSPX.excO C hp.objs.size)).get? b = some o := fun b o e => Heap.get?_push_of_some _ (Heap.get?_push_of_some _ e)
  have hget : ((hp.push (PySem.W.kdv_tup [u, u2])).push (PySem.HandSPX.excO C hp.objs.size)).get? (hp.objs.size + 1) = some (PySem.HandSPX.excO C hp.objs.size) := by heap_get
  refine wpAny_call (PySem.HandSPX.call_own PySem.F.excBase_ValueError (fun Y => PySem.HandSPX.refsVE_contains Y bm hbm) (G.kin _ _ hC) (PySem.W.looks_findIn G.kin N.i) (fun self => PySem.W.bind_fn G.kin self N.ty) (by show 2 ≤ sizeLine; rw [sizeLine_eq]; decide) ?_)
  refine err_init2 (hb := hp) T N hfk hno hnk hl G kk (Heap.get?_none_of_le hsz) hgs hget (by have := (hr.make C [u, u2] []).dp; omega) fun h' tk dx t1 keep dbig dne hx hn => ?_
  have dbig' : hp.objs.size ≤ dx := by
    have z : hp.objs.size + 1 + 1 ≤ dx := by simpa only [Heap.size_push] using dbig
    omega
  exact ⟨rfl, mkp_of I (fun b o z => keep b o (Nat.ne_of_lt (Nat.lt_succ_of_lt (Heap.lt_size z))) (kk b o z)) hsz hx dbig' dne hn (relO_cons ru2 (relO_cons (fs := []) (mA := fun _ => Option.none) ru fun _ => trivial)) (raises_own T.exC T.tyC) (q dx (I.hok.fresh dbig'))⟩⟩
/-- a class without an __init__ of its own or of its bases of the text -/
theorem MkE.none (qx : PySem.W.excIn K C He.veBase "ValueError.__new__" = true) (r1 : PySem.W.subIn K (.ref C) (.type "BaseException") = some true) (r2 : PySem.W.typeIn K (.ref C) = some (.type "type")) :
    MkE P w K mg base 1 (.ref C) (spEx0 C) := ⟨fun X e1 e2 e3 e4 e5 hr pins s σ H vs us Q I r h => by
  subst e1 e2 e3 e4 e5
  obtain ⟨hl, q⟩ := h
  obtain ⟨bm, N, nm, qn, bs, hdct, sn, sub, ab, col, dd, k0, k1, k2, k3, k5, mN, hC, hN, hni, T⟩ := exc_obj I.kIn qx
  obtain ⟨hp, g, dr, t, os⟩ := s
  refine wpAny_call_exc_subT PySem.F.excBase_ValueError T hC hN hni (fun h' e hm => ?_) (by rw [← Paired.length r, sizeLine_eq]; omega)
  exact L2N.mk_of I hm (raises_own r1 r2) q (I.hok.gone hm.new)⟩
end

/-! ### raise X(..) -/
section
variable {X : Cx} {T : Tb} {W : WX} {x : Str} {p pos rpos : Pos} {e : Expr} {es : List Expr} {ta : TA}
/-- the table of the errors -/
abbrev TbX := Str → SpX → Prop
def TbX.Ok (T : TbX) (P : Program) (w : World) (K : PySem.W.Frag) (mg : Str → Option Value) (base : Heap) (k : Nat) : Prop :=
  ∀ x sp, T x sp → ∃ a, mg x = some (.ref a) ∧ PySem.W.keepIn K (.ref a) = true ∧ MkE P w K mg base k (.ref a) sp
def tbxAt (P : Program) (w : World) (K : PySem.W.Frag) (mg : Str → Option Value) (base : Heap) (k : Nat) : TbX := fun x sp => ∃ a, mg x = some (.ref a) ∧ PySem.W.keepIn K (.ref a) = true ∧ MkE P w K mg base k (.ref a) sp
structure GdX (X : Cx) (T : TbX) : Prop where
  lv : ∃ k, Room k X.A ∧ T.Ok X.prog X.w X.K X.mg X.base k
def tMkX (T : TbX) (x : Str) (ta : TA) : St → Hp → XK → Prop := fun σ H Q => ∃ sp, T x sp ∧ ta σ H fun vs H1 => sp vs H1 Q
theorem pmk_G {T : TbX} (g : GdX X T) (hg : Gl X x) (ha : PA X (e :: es) ta) (hdb : (x == ("__debug__" : Str)) = false := by decide) (he : starEach (e :: es) X.env = (false, eval e X.env) :: starEach es X.env := by rfl)
    (hpl : (backTo pos (starEach es X.env)).any (·.1) = false := by rfl) : L2N.PMk X (.Call (.Name x p) (e :: es) [] pos) (tMkX T x ta) := by
  intro pins s σ H Q I h
  obtain ⟨k, hr, ok⟩ := g.lv
  obtain ⟨sp, ht, h⟩ := h
  obtain ⟨a, hm, hk, c⟩ := ok x sp ht
  refine wpAny_Call_Name_kw (ld_glob I hg hm ?_ hdb)
  refine PySem.W.callWith_K (h₀ := X.base) I.ok.mod.kin hk (thn (ha.run pos pins s σ H _ I h) fun us s1 ⟨vs, H1, I1, r, q1⟩ => ⟨I1.kIn, ?_⟩) he hpl
  exact c.run X rfl rfl rfl rfl rfl hr pins s1 σ H1 vs us Q I1 r q1
theorem pmk_G0 {T : TbX} (g : GdX X T) (hg : Gl X x) (hdb : (x == ("__debug__" : Str)) = false := by decide) : L2N.PMk X (.Call (.Name x p) [] [] pos) (tMkX T x tNil) := by
  intro pins s σ H Q I h
  obtain ⟨k, hr, ok⟩ := g.lv
  obtain ⟨sp, ht, h⟩ := h
  obtain ⟨a, hm, hk, c⟩ := ok x sp ht
  refine wpAny_Call_Name_kw (ld_glob I hg hm ?_ hdb)
  exact PySem.W.callWith_K0 (first := []) I.kIn hk (c.run X rfl rfl rfl rfl rfl hr pins s σ H [] [] Q I .nil h)
def sRaise (W : WX) (t : St → Hp → XK → Prop) : TS := fun _ σ H => t σ H fun c d H' => W c d σ H'
theorem ps_raiseG {t : St → Hp → XK → Prop} (hc : X.calm = true) (tk : L2N.Takes X W) (he : L2N.PMk X e t) : PS X (.Raise (some e) none rpos) (sRaise W t) := L2N.ps_raise hc tk he
end
end L2.Fk
set_option Elab.async false
set_option linter.all false
set_option maxRecDepth 100000
set_option maxHeartbeats 4000000
/-! operators by values of any kind; loops and comprehensions by what the values tell -/
namespace L2.Fk
open PySem PySem.Spec PyProof.Rows

/-! ### operators -/
section
variable {X : Cx}
def rCatL : R2 := fun x y H Q => ∃ a b xs ys, x = .ref a ∧ y = .ref b ∧ Rd H a (.lst xs) ∧ Rd H b (.lst ys) ∧ xs.length + ys.length ≤ sizeLine ∧ ∀ p, H p = none → Q (.ref p) (upd H p (.lst (xs ++ ys)))
theorem op_catL : OpR X (binaryOp .Add) rCatL := by
  intro pins s σ H x y v u Q I rx ry h
  obtain ⟨a, b, xs, ys, rfl, rfl, ha, hb, hz, q⟩ := h
  cases rx
  cases ry
  obtain ⟨z, its, n, r, e⟩ := ha.ok I.hok
  obtain ⟨z2, its2, n2, r2, e2⟩ := hb.ok I.hok
  have e1 := r.length
  have e3 := r2.length
  refine PySem.P.add_list e e2 ?_ (by rw [List.size_toArray, List.size_toArray]; omega)
  have ea : its.toArray ++ its2.toArray = (its ++ its2).toArray := by simp
  rw [ea]
  exact ⟨.ref _, _, I.lnew (t' := s.toks) (r.append r2) (by rw [List.length_append]; omega), rfl, q _ I.fresh⟩
/-- x + y: numbers, texts, lists, tuples -/
def rAddG (K : PySem.W.Frag) : R2 := fun x y H Q => match x, y with
  | .int i, .int j => Q (.int (i + j)) H
  | .str a, .str b => a.length + b.length ≤ sizeLine ∧ Q (.str (a ++ b)) H
  | .ref a, .ref b => rCatL (.ref a) (.ref b) H Q ∨ rCatA K (.ref a) (.ref b) H Q
  | _, _ => False
theorem op_addG : OpR X (binaryOp .Add) (rAddG X.K) := by
  intro pins s σ H x y v u Q I rx ry h
  cases x <;> cases y <;> first | exact h.elim | skip
  · exact op_add pins s σ H _ _ v u Q I rx ry ⟨_, _, rfl, rfl, h⟩
  · exact op_add_str pins s σ H _ _ v u Q I rx ry ⟨_, _, rfl, rfl, h.1, h.2⟩
  · rcases h with h | h
    · exact op_catL pins s σ H _ _ v u Q I rx ry h
    · exact op_catA pins s σ H _ _ v u Q I rx ry h
/-- x * y: numbers (one of them small), a text times a number -/
def rMulG : R2 := fun x y H Q => match x, y with
  | .int i, .int j => CMul i j ∧ Q (.int (i * j)) H
  | .str a, .int n => 1 ≤ n ∧ n ≤ 100 ∧ a.length ≤ 1000 ∧ Q (.str (Txt.mul a n)) H
  | _, _ => False
theorem op_mulG : OpR X (binaryOp .Mult) rMulG := by
  intro pins s σ H x y v u Q I rx ry h
  cases x <;> cases y <;> first | exact h.elim | skip
  · rename_i i j
    exact op_mul pins s σ H _ _ v u Q I rx ry ⟨_, _, rfl, rfl, h.1, h.2⟩
  · rename_i a n
    obtain ⟨h1, h2, h5, q⟩ := h
    obtain ⟨t, rfl⟩ := rx
    obtain ⟨t', rfl⟩ := ry
    refine PySem.SB.mul ⟨?_, fun h3 h4 => ?_, fun h3 h4 => ?_⟩ fun t1 k => ⟨.str _, H, I.tok k, ⟨t1, rfl⟩, q⟩
    · have z1 : ¬ n < -(2 ^ 63 : Int) := by omega
      have z2 : ¬ n ≥ (2 ^ 63 : Int) := by omega
      rw [decide_eq_false z1, decide_eq_false z2]
      rfl
    · have z : (a.length : Int) * n ≤ 2 ^ 63 - 1 := by
        have z1 : (a.length : Int) * n ≤ 1000 * 100 := Int.mul_le_mul (by omega) h2 (by omega) (by omega)
        omega
      have := Int.le_ediv_of_mul_le (by omega) z
      omega
    · have z : a.length * n.toNat ≤ 1000 * 100 := Nat.mul_le_mul h5 (by omega)
      show decide (a.length * n.toNat > sizeLine) = false
      rw [sizeLine_eq]
      exact decide_eq_false (by omega)
/-- x == y: of flat values; of nested data -/
def rEqG (K : PySem.W.Frag) : R2 := fun x y H Q => (scal x y = true ∧ Q (.bl (decide (x = y))) H) ∨ rEqD K x y H Q
def rNeG (K : PySem.W.Frag) : R2 := fun x y H Q => (scal x y = true ∧ Q (.bl (!decide (x = y))) H) ∨ rNeD K x y H Q
theorem op_eqG (hu : X.A.units + 64 < cLine) : OpR X (compareOp .Eq) (rEqG X.K) := OpR.or op_eq (op_eqD hu)
theorem op_neG (hu : X.A.units + 64 < cLine) : OpR X (compareOp .NotEq) (rNeG X.K) := OpR.or op_ne (op_neD hu)
end

/-! ### in, by values: a sign in a text, a flat thing in a list or tuple, a key in a dict, a thing in a list of any data -/
def rInG (K : PySem.W.Frag) (neg : Bool) : R2 := fun x y H Q =>
  (∃ (c : Nat) (z : Str), x = .str ⟨#[c]⟩ ∧ y = .str z ∧ Q (.bl (if neg then !decide (c ∈ z.cps.toList) else decide (c ∈ z.cps.toList))) H) ∨ rIn K neg x y H Q ∨
  (∃ a o, y = .ref a ∧ DGet H a x o ∧ Q (.bl (if neg then !o.isSome else o.isSome)) H) ∨
  (∃ d ds, Dp K H x d ∧ Dp K H y (.list ds) ∧ SeqAt.shaped d = true ∧ SeqAt.shaped (.list ds) = true ∧ Q (.bl (if neg then !(ds.any fun z => PyData.eqv z d) else ds.any fun z => PyData.eqv z d)) H)
section
variable {X : Cx}
theorem op_inG (hu : X.A.units + 66 < cLine) : OpR X (compareOp .In) (rInG X.K false) := by
  intro pins s σ H x y v u Q I rx ry h
  rcases h with h | h | h | h
  · exact op_in_sign pins s σ H x y v u Q I rx ry h
  · exact op_in_seq pins s σ H x y v u Q I rx ry h
  · obtain ⟨a, o, rfl, g, q⟩ := h
    obtain rfl : u = Value.ref a := ry
    exact d_in (by omega) I g rx fun s3 I3 => ⟨.bl o.isSome, H, I3, rfl, q⟩
  · exact op_inD (by omega) pins s σ H x y v u Q I rx ry h
theorem op_notInG (hu : X.A.units + 66 < cLine) : OpR X (compareOp .NotIn) (rInG X.K true) := by
  intro pins s σ H x y v u Q I rx ry h
  rcases h with h | h | h | h
  · exact op_notIn_sign pins s σ H x y v u Q I rx ry h
  · exact op_notIn_seq pins s σ H x y v u Q I rx ry h
  · obtain ⟨a, o, rfl, g, q⟩ := h
    obtain rfl : u = Value.ref a := ry
    exact d_notIn (by omega) I g rx fun s3 I3 => ⟨.bl (!o.isSome), H, I3, rfl, q⟩
  · exact op_notInD (by omega) pins s σ H x y v u Q I rx ry h
end

/-! ### constants of the module -/
section
variable {X : Cx}
/-- a module's name that stands for a number, a text, a class -/
def GvOk (gv : Str → V → Prop) (mg : Str → Option Value) : Prop := ∀ x v, gv x v → ∃ u, mg x = some u ∧ RelV v u
def tGv (gv : Str → V → Prop) (x : Str) : TE := fun _ H Q => ∃ v, gv x v ∧ Q v H
theorem pe_gv {gv : Str → V → Prop} {x : Str} {pos : Pos} (ok : GvOk gv X.mg) (hg : Gl X x) (hd : (x == ("__debug__" : Str)) = false := by decide) : PE X (.Name x pos) (tGv gv x) :=
  ⟨fun pins s σ H Q I ⟨v, hv, q⟩ => let ⟨u, hm, r⟩ := ok x v hv; (pe_glob hg hm r hd).run pins s σ H Q I q⟩
end

/-! ### walks: the items' number is known to fit -/
section
variable {X : Cx} {tg l : Expr} {tl : TE}
def iListG (K : PySem.W.Frag) (tl : TE) : TI := fun σ H R => tl σ H fun x H1 => ∃ a xs, x = .ref a ∧ SqL K H1 a xs ∧ (xs.length ≤ sizeLine → R (Itl K a) H1)
theorem pi_listG (hl : PE X l tl) : PI X tg l (iListG X.K tl) := by
  refine ⟨fun pins s σ H R I h => ?_⟩
  refine thn (hl.run pins s σ H _ I h) fun v s1 ⟨x, H1, I1, r1, q1⟩ => ?_
  obtain ⟨a, xs, e, hq, q⟩ := q1
  subst e
  cases r1
  obtain ⟨its, rv, p, hz⟩ := I1.list hq
  refine wpAny_pyIter_list p.isList ?_
  refine ⟨s1.heap.objs.size, [s1.heap.objs.size], _, _, H1, rfl, I1.kept (t' := s1.toks) fun b o e => Heap.get?_push_of_some _ e, turn_list a _, ⟨_, Heap.get?_push_size _ rfl, rfl, rfl⟩, fun b hb => ?_, q hz⟩
  have e : b = s1.heap.objs.size := by simpa using hb
  subst e
  exact I1.fpOk (Nat.le_refl _) (I1.hok.fresh (Nat.le_refl _))
end
end L2.Fk
set_option Elab.async false
set_option linter.all false
set_option maxRecDepth 100000
set_option maxHeartbeats 4000000
/-! loops and comprehensions, by what is left of the walked items -/
namespace L2.Fk
open PySem PySem.Spec PyProof.Rows
theorem Paired.app {α β : Type} {F : α → β → Prop} : ∀ {l₁ m₁ : List α} {l₂ m₂ : List β}, Paired F l₁ l₂ → Paired F m₁ m₂ → Paired F (l₁ ++ m₁) (l₂ ++ m₂)
  | _, _, _, _, .nil, s => s
  | _, _, _, _, .cons r t, s => .cons r (Paired.app t s)
/-- an iterator that goes through ys -/
structure Walks {α : Type} (J : It) (ys : List α) (G : Hp → Prop) (Y : α → Hp → V → Hp → Prop) : Prop where
  go : ∀ i H, G H → i < ys.length → J.go i H
  stop : ∀ i H, G H → ys.length ≤ i → J.stop i H
  yld : ∀ i H x H', G H → i < ys.length → J.yld i H x H' → ∃ y, ys[i]? = some y ∧ Y y H x H'
def yV : V → Hp → V → Hp → Prop := fun v H x H' => H' = H ∧ x = v
def yI : Int → Hp → V → Hp → Prop := fun v H x H' => H' = H ∧ x = .int v
/-- a new pair -/
def yP : V × V → Hp → V → Hp → Prop := fun v H x H' => ∃ T, x = .ref T ∧ H T = none ∧ H' = upd H T (.tup [v.1, v.2])
section
variable {K : PySem.W.Frag} {a : Addr} {vs : List V}
theorem walks_list : Walks (Itl K a) vs (fun H => SqL K H a vs) yV where
  go := fun i H h l => ⟨vs, vs[i], h, List.getElem?_eq_getElem l⟩
  stop := fun i H h l => ⟨vs, h, l⟩
  yld := fun i H x H' h l e => ⟨x, e.2 _ h, e.1, rfl⟩
theorem walks_tup : Walks (Itt K a) vs (fun H => SqT K H a vs) yV where
  go := fun i H h l => ⟨vs, vs[i], h, List.getElem?_eq_getElem l⟩
  stop := fun i H h l => ⟨vs, h, l⟩
  yld := fun i H x H' h l e => ⟨x, e.2 _ h, e.1, rfl⟩
/-- lo, lo + 1, .. -/
def upTo (lo : Int) (n : Nat) : List Int := (List.range n).map fun i => lo + (i : Nat)
theorem upTo_len {lo : Int} {n : Nat} : (upTo lo n).length = n := by simp [upTo]
theorem walks_range {lo : Int} {n : Nat} : Walks (Itr lo n) (upTo lo n) (fun _ => True) yI where
  go := fun i H h l => by rw [upTo_len] at l; exact l
  stop := fun i H h l => by rw [upTo_len] at l; exact l
  yld := fun i H x H' h l e => by
    rw [upTo_len] at l
    exact ⟨lo + (i : Nat), by simp [upTo, l], e.1, e.2⟩
theorem walks_str {x : Str} : Walks (Its x) (x.cps.toList.map fun c => V.str ⟨#[c]⟩) (fun _ => True) yV where
  go := fun i H h l => by
    show i < x.cps.size
    simpa using l
  stop := fun i H h l => by
    show x.cps.size ≤ i
    simpa using l
  yld := fun i H v H' h l ⟨e, c, hc, ev⟩ => by
    refine ⟨v, ?_, e, rfl⟩
    rw [List.getElem?_map, Array.getElem?_toList, hc, ev]
    rfl
/-- (0, x), (1, y), .. -/
def numbered (vs : List V) : List (V × V) := vs.zipIdx.map fun p => (V.int (p.2 : Nat), p.1)
theorem walks_enum : Walks (Ite K a) (numbered vs) (fun H => SqL K H a vs) yP where
  go := fun i H h l => by
    have l' : i < vs.length := by simpa [numbered] using l
    exact ⟨vs, vs[i], h, List.getElem?_eq_getElem l'⟩
  stop := fun i H h l => ⟨vs, h, by simpa [numbered] using l⟩
  yld := fun i H x H' h l ⟨T, v, e, hn, e2, hv⟩ => ⟨(V.int (i : Nat), v), by simp [numbered, hv _ h], T, e, hn, e2⟩
end
def ForIn (J : It) (g : TG) (tb : TS) (D : Ends) (H1 : Hp) (σ : St) : Prop := ∃ W : Nat → Nat → St → Hp → Prop, (∃ m, W 0 m σ H1) ∧ ∀ i m σ H, W i m σ H →
  (J.stop i H ∧ D.nx σ H) ∨ (J.go i H ∧ ∃ N : St → Hp → Prop, (∀ σ' H', N σ' H' → ∃ m', m' < m ∧ W (i + 1) m' σ' H') ∧ ∀ x H', J.yld i H x H' → g x σ H' fun σ2 H2 => tb { D with nx := N, ct := N, bk := D.nx } σ2 H2)
theorem tFor_eq (wi : TI) (g : TG) (tb : TS) (D : Ends) (σ : St) (H : Hp) : tFor wi g tb D σ H = wi σ H fun J H1 => ForIn J g tb D H1 σ := rfl
section
variable {α : Type} {J : It} {ys : List α} {G : Hp → Prop} {Y : α → Hp → V → Hp → Prop} {g : TG} {tb : TS} {D : Ends} {σ : St} {H : Hp}
theorem forW (w : Walks J ys G Y) (I : List α → List α → St → Hp → Prop) (h0 : I [] ys σ H) (hG : ∀ pre post σ H, pre ++ post = ys → I pre post σ H → G H)
    (step : ∀ pre y post σ H, pre ++ y :: post = ys → I pre (y :: post) σ H → ∀ x H', Y y H x H' → g x σ H' fun σ2 H2 => tb { D with nx := I (pre ++ [y]) post, ct := I (pre ++ [y]) post, bk := D.nx } σ2 H2)
    (done : ∀ σ H, I ys [] σ H → D.nx σ H) : ForIn J g tb D H σ := by
  refine ⟨fun i m σ H => ∃ pre post, pre ++ post = ys ∧ pre.length = i ∧ post.length = m ∧ I pre post σ H, ⟨ys.length, [], ys, rfl, rfl, rfl, h0⟩, ?_⟩
  rintro i m σ H ⟨pre, post, e, rfl, rfl, hI⟩
  have hg := hG pre post σ H e hI
  cases post with
  | nil =>
    refine .inl ⟨w.stop _ H hg (by rw [← e]; simp), done σ H ?_⟩
    have e' : pre = ys := by simpa using e
    rw [e'] at hI
    exact hI
  | cons y post =>
    refine .inr ⟨w.go _ H hg (by rw [← e]; simp), fun σ H => I (pre ++ [y]) post σ H, fun σ' H' h => ⟨post.length, by simp, pre ++ [y], post, by simpa using e, by simp, rfl, h⟩, fun x H' hx => ?_⟩
    obtain ⟨y', e1, e2⟩ := w.yld _ H x H' hg (by rw [← e]; simp) hx
    have : y' = y := by
      rw [← e] at e1
      simpa using e1.symm
    subst this
    exact step pre y' post σ H e hI x H' e2
def LcIn (J : It) (g : TG) (tt : TT) (te : TE) (ws : List Nat) (Q : VK) (σ : St) (H1 : Hp) : Prop := ∀ D, H1 D = none → ∃ W : Nat → Nat → Hp → Prop, (∃ m, W 0 m (upd H1 D (.lst []))) ∧ ∀ i m H, W i m H →
  (J.stop i H ∧ Q (.ref D) H) ∨ (J.go i H ∧ ∃ Nx : Hp → Prop, (∀ H', Nx H' → ∃ m', m' < m ∧ W (i + 1) m' H') ∧ ∀ x H', J.yld i H x H' → g x (wipe σ ws) H' fun σ2 H2 => wipe σ2 ws = wipe σ ws ∧ tt σ2 H2 fun b H3 =>
    if b = true then te σ2 H3 fun y H4 => ∃ acc, H4 D = some (.lst acc) ∧ acc.length < sizeLine ∧ Nx (upd H4 D (.lst (acc ++ [y]))) else Nx H3)
theorem tLc_eq (wi : TI) (g : TG) (tt : TT) (te : TE) (ws : List Nat) (σ : St) (H : Hp) (Q : VK) : tLc wi g tt te ws σ H Q = wi σ H fun J H1 => LcIn J g tt te ws Q σ H1 := rfl
variable {tt : TT} {te : TE} {ws : List Nat} {Q : VK}
theorem lcW (w : Walks J ys G Y) (h : ∀ D, H D = none → ∃ I : List α → List α → Hp → Prop, I [] ys (upd H D (.lst [])) ∧ (∀ pre post H, pre ++ post = ys → I pre post H → G H) ∧
    (∀ pre y post H, pre ++ y :: post = ys → I pre (y :: post) H → ∀ x H', Y y H x H' → g x (wipe σ ws) H' fun σ2 H2 => wipe σ2 ws = wipe σ ws ∧ tt σ2 H2 fun b H3 =>
      if b = true then te σ2 H3 fun z H4 => ∃ acc, H4 D = some (.lst acc) ∧ acc.length < sizeLine ∧ I (pre ++ [y]) post (upd H4 D (.lst (acc ++ [z]))) else I (pre ++ [y]) post H3) ∧
    ∀ H, I ys [] H → Q (.ref D) H) : LcIn J g tt te ws Q σ H := by
  intro D hD
  obtain ⟨I, h0, hG, step, done⟩ := h D hD
  refine ⟨fun i m H => ∃ pre post, pre ++ post = ys ∧ pre.length = i ∧ post.length = m ∧ I pre post H, ⟨ys.length, [], ys, rfl, rfl, rfl, h0⟩, ?_⟩
  rintro i m H ⟨pre, post, e, rfl, rfl, hI⟩
  have hg := hG pre post H e hI
  cases post with
  | nil =>
    refine .inl ⟨w.stop _ H hg (by rw [← e]; simp), done H ?_⟩
    have e' : pre = ys := by simpa using e
    rw [e'] at hI
    exact hI
  | cons y post =>
    refine .inr ⟨w.go _ H hg (by rw [← e]; simp), fun H => I (pre ++ [y]) post H, fun H' h => ⟨post.length, by simp, pre ++ [y], post, by simpa using e, by simp, rfl, h⟩, fun x H' hx => ?_⟩
    obtain ⟨y', e1, e2⟩ := w.yld _ H x H' hg (by rw [← e]; simp) hx
    have : y' = y := by
      rw [← e] at e1
      simpa using e1.symm
    subst this
    exact step pre y' post H e hI x H' e2
/-- each item by itself: f of those that p takes -/
theorem lcT {β γ : Type} {S : Rel γ} [Mono S] (w : Walks J ys G Y) (xs : List β) (p : β → Bool) (f : β → γ) (R : Hp → α → β → Prop) (hxs : Paired (R H) ys xs) (hlen : ys.length ≤ sizeLine) (hG : ∀ H', Same H H' → G H')
    (step : ∀ y x H', x ∈ xs → Same H H' → R H y x → ∀ v H2, Y y H' v H2 → ∀ (T : V → Hp → Prop) (N : Hp → Prop), (p x = true → ∀ z H3, Same H' H3 → S H3 z (f x) → T z H3) → (p x = false → ∀ H3, Same H' H3 → N H3) →
      g v (wipe σ ws) H2 fun σ2 H2 => wipe σ2 ws = wipe σ ws ∧ tt σ2 H2 fun b H3 => if b = true then te σ2 H3 T else N H3)
    (done : ∀ D vs H', Same H H' → H D = none → H' D = some (.lst vs) → All2 S H' vs ((xs.filter p).map f) → Q (.ref D) H') : LcIn J g tt te ws Q σ H := by
  refine lcW w fun D hD => ⟨fun pre post H' => ∃ xp xq acc, xp ++ xq = xs ∧ Paired (R H) pre xp ∧ Paired (R H) post xq ∧ Same H H' ∧ H' D = some (.lst acc) ∧ All2 S H' acc ((xp.filter p).map f) ∧ acc.length ≤ pre.length,
    ⟨[], xs, [], rfl, .nil, hxs, Same.new hD, upd_same, .nil, Nat.le_refl _⟩, fun pre post H' _ ⟨_, _, _, _, _, _, hs, _⟩ => hG H' hs, ?_, ?_⟩
  · rintro pre y post H' e ⟨xp, xq, acc, ex, hp, hq, hs, hD', ha, hl⟩ v H2 hY
    cases hq with
    | @cons _ x _ xq r hq =>
    have hx : x ∈ xs := by rw [← ex]; simp
    have hlt : acc.length < sizeLine := by
      have : pre.length < ys.length := by rw [← e]; simp
      omega
    refine step y x H' hx hs r v H2 hY _ _ (fun hpx z H3 s3 hS => ?_) (fun hpx H3 s3 => ?_)
    · refine ⟨acc, s3 _ _ hD', hlt, xp ++ [x], xq, acc ++ [z], by simpa using ex, Paired.app hp (.cons r .nil), hq, Same.local_ (hs.trans s3) hD, upd_same, ?_, by simp; omega⟩
      have pr : Pres H' (upd H3 D (.lst (acc ++ [z]))) := (Pres.of_same s3).trans (Pres.put (s3 _ _ hD') fun i => i)
      have pr2 : Pres H3 (upd H3 D (.lst (acc ++ [z]))) := Pres.put (s3 _ _ hD') fun i => i
      simp only [List.filter_append, List.map_append, List.filter_cons, hpx, if_true, List.filter_nil, List.map_cons, List.map_nil]
      exact (ha.mono pr).append (.cons (Mono.up hS pr2) .nil)
    · refine ⟨xp ++ [x], xq, acc, by simpa using ex, Paired.app hp (.cons r .nil), hq, hs.trans s3, s3 _ _ hD', ?_, by simp; omega⟩
      simp only [List.filter_append, List.map_append, List.filter_cons, hpx, Bool.false_eq_true, if_false, List.filter_nil, List.map_nil, List.append_nil]
      exact ha.mono (Pres.of_same s3)
  · rintro H' ⟨xp, xq, acc, ex, hp, hq, hs, hD', ha, hl⟩
    cases hq
    have : xp = xs := by simpa using ex
    subst this
    exact done D acc H' hs hD hD' ha
end
end L2.Fk
set_option Elab.async false
set_option linter.all false
set_option maxRecDepth 100000
set_option maxHeartbeats 4000000
/-! rules for any of the kinds; the defs of a text as facts -/
namespace L2.Fk
open PySem PySem.Spec PyProof.Rows
theorem gd_hu {k : Nat} {A : Around} (hr : Room k A) : A.units + 66 < cLine := by have := hr.un; omega
section
variable {X : Cx}
def rIxD : R2 := fun x y H Q => ∃ a v, x = .ref a ∧ DGet H a y (some v) ∧ Q v H
theorem ix_dict (hu : X.A.units + 66 < cLine) : IxR X rIxD := by
  intro value slice pins s σ H x y v u Q I rx ry h hs
  obtain ⟨a, z, rfl, g, q⟩ := h
  obtain rfl : v = Value.ref a := rx
  exact tail_any (dict_typeIs I g) PySem.F.slot_dict_getitem.lookup (d_getItem (by omega) I g ry fun w' s3 I3 rw' => ⟨z, H, I3, rw', q⟩) hs
/-- x[y]: a list, a tuple, a text, a dict -/
def rIxG (K : PySem.W.Frag) : R2 := fun x y H Q => rIxL K x y H Q ∨ rIxT K x y H Q ∨ rIxS x y H Q ∨ rIxD x y H Q
theorem ix_G (hu : X.A.units + 66 < cLine) : IxR X (rIxG X.K) := ix_list.or (ix_tup.or (ix_str.or (ix_dict hu)))
def rSlG (K : PySem.W.Frag) : V → Option Int → Option Int → Hp → VK → Prop := fun x lo hi H Q => rSlL K x lo hi H Q ∨ rSlS x lo hi H Q ∨ rSlA K x lo hi H Q
theorem sl_G : SlR X (rSlG X.K) := sl_list.or (sl_str.or sl_tupA)
def rSetD : TSet := fun o i v H Q => ∃ a H', o = .ref a ∧ DPut H a i v H' ∧ Q H'
theorem set_dict (hu : X.A.units + 66 < cLine) : PSet X rSetD := by
  intro pins s σ H o i v ov iv u Q I ro ri rv h
  obtain ⟨a, H', rfl, g, q⟩ := h
  obtain rfl : ov = Value.ref a := ro
  exact d_setItem (by omega) I g ri rv fun s' I' => ⟨H', I', q⟩
def rSetG : TSet := fun o i v H Q => rSetL o i v H Q ∨ rSetD o i v H Q
theorem set_G (hu : X.A.units + 66 < cLine) : PSet X rSetG := by
  intro pins s σ H o i v ov iv u Q I ro ri rv h
  rcases h with h | h
  · exact set_list pins s σ H o i v ov iv u Q I ro ri rv h
  · exact set_dict hu pins s σ H o i v ov iv u Q I ro ri rv h
end
section
variable {X : Cx} {T : Tb} {W : WX} {TX : TbX}
abbrev W0 : WX := fun _ _ _ _ => False
theorem Gd.blk (g : Gd X T W) {s : Shared} {H : Hp} {sc : Scope} {ce : Env} {fp : List Addr} : Gd (X.blk s H sc ce fp) T W0 := ⟨g.lv, takesN0⟩
theorem GdX.blk (g : GdX X TX) {s : Shared} {H : Hp} {sc : Scope} {ce : Env} {fp : List Addr} : GdX (X.blk s H sc ce fp) TX := ⟨g.lv⟩
end

/-! ### the text's defs as facts -/
abbrev FnP (K : PySem.W.Frag) (x qual : Str) (st : Stmt) (f : Addr) (fd : FuncData) : Prop := FunD K x qual (defArgs st) (defBody st) (defScope st) [] [] f fd
/-- a def of the text's top as it stands -/
def DefAt (K : PySem.W.Frag) (mg : Str → Option Value) (x : Str) (st : Stmt) : Prop := ∃ f fd, FnP K x x st f fd ∧ mg x = some (.ref f)
/-- names that the text leaves to the builtins -/
structure Free (mg : Str → Option Value) : Prop where
  len : mg "len" = none
  range : mg "range" = none
  int : mg "int" = none
  abs : mg "abs" = none
  max : mg "max" = none
  min : mg "min" = none
  all : mg "all" = none
  any : mg "any" = none
  str : mg "str" = none
  list : mg "list" = none
  tuple : mg "tuple" = none
  dict : mg "dict" = none
  set : mg "set" = none
  sorted : mg "sorted" = none
  enumerate : mg "enumerate" = none
  zip : mg "zip" = none
  repr : mg "repr" = none
  isinstance : mg "isinstance" = none
  super : mg "super" = none
  ValueError : mg "ValueError" = none
section
variable {P : Program} {w : World} {K : PySem.W.Frag} {mg : Str → Option Value} {base : Heap}
/-- x may be called at level k, under sp -/
abbrev Fx (P : Program) (w : World) (K : PySem.W.Frag) (mg : Str → Option Value) (base : Heap) (k : Nat) (x : Str) (sp : Sp) : Prop := (tbAt P w K mg base k).fn x sp
abbrev Mx (P : Program) (w : World) (K : PySem.W.Frag) (mg : Str → Option Value) (base : Heap) (k : Nat) (C : Addr) (m : Str) (sp : Sp) : Prop := (tbAt P w K mg base k).me C m sp
abbrev Ex (P : Program) (w : World) (K : PySem.W.Frag) (mg : Str → Option Value) (base : Heap) (k : Nat) (x : Str) (sp : SpX) : Prop := (tbxAt P w K mg base k) x sp
theorem Fx.mono {k j : Nat} {x : Str} {sp : Sp} (h : Fx P w K mg base k x sp) (e : k ≤ j) : Fx P w K mg base j x sp := let ⟨a, h1, h2, c⟩ := h; ⟨a, h1, h2, c.mono e⟩
theorem Fx.imp {k : Nat} {x : Str} {sp sp' : Sp} (h : Fx P w K mg base k x sp) (e : ∀ vs H Q E, sp' vs H Q E → sp vs H (fun v H1 => Gh (Q v) H1) E) : Fx P w K mg base k x sp' := let ⟨a, h1, h2, c⟩ := h; ⟨a, h1, h2, c.imp e⟩
theorem MkE.mono {k j : Nat} {f : Value} {sp : SpX} (h : MkE P w K mg base k f sp) (e : k ≤ j) : MkE P w K mg base j f sp := ⟨fun X a b c d e' hr => h.run X a b c d e' (hr.mono e)⟩
theorem Ex.mono {k j : Nat} {x : Str} {sp : SpX} (h : Ex P w K mg base k x sp) (e : k ≤ j) : Ex P w K mg base j x sp := let ⟨a, h1, h2, c⟩ := h; ⟨a, h1, h2, c.mono e⟩
/-- a def without defaults keeps its promise -/
theorem Fx.of {k : Nat} {x : Str} {st : Stmt} {N ps : List Str} {sp : Sp} (D : DefAt K mg x st) (S : FnScope N ps (defScope st)) (hb : ∀ {f : Addr} {fd : FuncData}, FnP K x x st f fd → Binds K fd ps [])
    (len : ∀ vs H Q E, sp vs H Q E → vs.length = ps.length)
    (hbody : ∀ (f : Addr) (cdv : Value) (A : Around) (outer : List Env) (s : Shared) (H : Hp) (vs : List V) (Q : VK) (E : XK), Room k (A.deeper (envOfC x (defScope st) s.heap.objs.size f cdv)) →
      Gd (cxOf (L2N.CX P w) P w K mg base N x (defScope st) f cdv A outer s H E) (tbAt P w K mg base k) (fun cls d _ H => E cls d H) →
      GdX (cxOf (L2N.CX P w) P w K mg base N x (defScope st) f cdv A outer s H E) (tbxAt P w K mg base k) → sp vs H Q E →
      ∃ t, PSs (cxOf (L2N.CX P w) P w K mg base N x (defScope st) f cdv A outer s H E) (defBody st) t ∧ t { nx := fun _ H' => Q .non H', rt := Q } (start N vs) H) : Fx P w K mg base (k + 1) x (spP sp) := by
  obtain ⟨f, fd, F, hm⟩ := D
  refine ⟨f, hm, F.kp, CalV.of_fn0 (F.ok S len fun cdv A outer s H vs Q E hr h => hbody f cdv A outer s H vs Q E hr ⟨⟨k, hr, tbAt.ok⟩, L2N.takes_of rfl rfl rfl rfl⟩ ⟨⟨k, hr, fun _ _ h => h⟩⟩ h) (hb F)⟩
end
end L2.Fk
set_option Elab.async false
set_option linter.all false
set_option maxRecDepth 100000
set_option maxHeartbeats 4000000
/-! rules whose reading is by cases on the values -/
namespace L2.Fk
open PySem PySem.Spec PyProof.Rows
theorem tFor_rw (wi : TI) (g : TG) (tb : TS) (D : Ends) (σ : St) (H : Hp) : tFor wi g tb D σ H = wi σ H fun J H1 => ForIn J g tb D H1 σ := rfl
section
variable {X : Cx}
def rIntM : List V → Hp → VK → Prop := fun xs H Q => match xs with
  | [.int i] => Q (.int i) H
  | [.bl k] => Q (.int (if k then 1 else 0)) H
  | _ => False
theorem call_intM : CallR X (.type "int") rIntM := by
  intro pins s σ H xs us Q I r h
  refine call_int1 pins s σ H xs us Q I r ?_
  unfold rIntM at h
  split at h
  · exact .inl ⟨_, rfl, h⟩
  · exact .inr ⟨_, rfl, h⟩
  · exact h.elim
def rAbsM : List V → Hp → VK → Prop := fun xs H Q => match xs with
  | [.int i] => Q (.int (i.natAbs : Int)) H
  | _ => False
theorem call_absM : CallR X (.builtin "abs") rAbsM := by
  intro pins s σ H xs us Q I r h
  refine call_abs pins s σ H xs us Q I r ?_
  unfold rAbsM at h
  split at h
  · rename_i i
    refine ⟨i, rfl, ?_⟩
    have e : (if i < 0 then -i else i) = (i.natAbs : Int) := by split <;> omega
    rw [e]
    exact h
  · exact h.elim
def rMax2M : List V → Hp → VK → Prop := fun xs H Q => match xs with
  | [.int i, .int j] => Q (.int (max i j)) H
  | _ => False
theorem call_max2M (hc : X.calm = true) : CallR X (.builtin "max") rMax2M := by
  intro pins s σ H xs us Q I r h
  refine call_max2 hc pins s σ H xs us Q I r ?_
  unfold rMax2M at h
  split at h
  · rename_i i j
    refine ⟨i, j, rfl, ?_⟩
    have e : (if j > i then j else i) = max i j := by
      rw [Int.max_def]
      split <;> split <;> omega
    rw [e]
    exact h
  · exact h.elim
def rMin2M : List V → Hp → VK → Prop := fun xs H Q => match xs with
  | [.int i, .int j] => Q (.int (min i j)) H
  | _ => False
theorem call_min2M (hc : X.calm = true) : CallR X (.builtin "min") rMin2M := by
  intro pins s σ H xs us Q I r h
  refine call_min2 hc pins s σ H xs us Q I r ?_
  unfold rMin2M at h
  split at h
  · rename_i i j
    refine ⟨i, j, rfl, ?_⟩
    have e : (if j < i then j else i) = min i j := by
      rw [Int.min_def]
      split <;> split <;> omega
    rw [e]
    exact h
  · exact h.elim
def LenAt (K : PySem.W.Frag) (H : Hp) (p : Addr) (n : Nat) : Prop := (∃ xs, SqL K H p xs ∧ n = xs.length) ∨ ∃ xs, SqT K H p xs ∧ n = xs.length
def rLenM (K : PySem.W.Frag) : List V → Hp → VK → Prop := fun xs H Q => match xs with
  | [.str y] => y.length ≤ sizeLine ∧ Q (.int y.length) H
  | [.ref p] => ∃ n, LenAt K H p n ∧ Q (.int (n : Nat)) H
  | _ => False
theorem call_lenM : CallR X (.builtin "len") (rLenM X.K) := by
  intro pins s σ H xs us Q I r h
  refine call_len pins s σ H xs us Q I r ?_
  unfold rLenM at h
  split at h
  · exact ⟨_, _, rfl, ⟨h.1, rfl⟩, h.2⟩
  · obtain ⟨n, e, q⟩ := h
    exact ⟨_, n, rfl, e, q⟩
  · exact h.elim
/-- p[y] is v -/
def GetAt (K : PySem.W.Frag) (H : Hp) (p : Addr) (y v : V) : Prop := (∃ xs i, y = .int i ∧ (SqL K H p xs ∨ SqT K H p xs) ∧ atI xs i = some v) ∨ DGet H p y (some v)
def rIxM (K : PySem.W.Frag) : R2 := fun x y H Q => match x with
  | .ref p => ∃ v, GetAt K H p y v ∧ Q v H
  | .str z => ∃ i c, y = .int i ∧ atI z.cps.toList i = some c ∧ z.length ≤ sizeLine ∧ Q (.str ⟨#[c]⟩) H
  | _ => False
theorem ix_M (hu : X.A.units + 66 < cLine) : IxR X (rIxM X.K) := by
  intro value slice pins s σ H x y v u Q I rx ry h hs
  refine ix_G hu value slice pins s σ H x y v u Q I rx ry ?_ hs
  unfold rIxM at h
  split at h
  · obtain ⟨v, ⟨xs, i, rfl, hq | hq, e⟩ | g, q⟩ := h
    · exact .inl ⟨_, xs, i, v, rfl, rfl, hq, e, q⟩
    · exact .inr (.inl ⟨_, xs, i, v, rfl, rfl, hq, e, q⟩)
    · exact .inr (.inr (.inr ⟨_, v, rfl, g, q⟩))
  · obtain ⟨i, c, rfl, e, l, q⟩ := h
    exact .inr (.inr (.inl ⟨_, i, c, rfl, rfl, l, e, q⟩))
  · exact h.elim
def rSlM (K : PySem.W.Frag) : V → Option Int → Option Int → Hp → VK → Prop := fun x lo hi H Q => match x with
  | .str z => z.length ≤ sizeLine ∧ Q (.str (cutS z lo hi)) H
  | .ref p => (∃ xs, SqL K H p xs ∧ ∀ q, H q = none → Q (.ref q) (upd H q (.lst (cutV xs lo hi)))) ∨ rSlA K (.ref p) lo hi H Q
  | _ => False
theorem sl_M : SlR X (rSlM X.K) := by
  intro pins s σ H x v vl vu lo hi sl Q I rx hs pl pu h
  refine sl_G pins s σ H x v vl vu lo hi sl Q I rx hs pl pu ?_
  unfold rSlM at h
  split at h
  · exact .inr (.inl ⟨_, rfl, h.1, h.2⟩)
  · rcases h with ⟨xs, hq, q⟩ | h
    · exact .inl ⟨_, xs, rfl, hq, q⟩
    · exact .inr (.inr h)
  · exact h.elim
def rEqM (K : PySem.W.Frag) : R2 := fun x y H Q => match x, y with
  | .int i, .int j => Q (.bl (decide (i = j))) H
  | .str i, .str j => Q (.bl (decide (i = j))) H
  | .bl i, .bl j => Q (.bl (decide (i = j))) H
  | x, y => rEqG K x y H Q
def rNeM (K : PySem.W.Frag) : R2 := fun x y H Q => match x, y with
  | .int i, .int j => Q (.bl (!decide (i = j))) H
  | .str i, .str j => Q (.bl (!decide (i = j))) H
  | .bl i, .bl j => Q (.bl (!decide (i = j))) H
  | x, y => rNeG K x y H Q
theorem op_eqM (hu : X.A.units + 66 < cLine) : OpR X (compareOp .Eq) (rEqM X.K) := by
  intro pins s σ H x y v u Q I rx ry h
  refine op_eqG (by omega) pins s σ H x y v u Q I rx ry ?_
  unfold rEqM at h
  split at h <;> first | exact h | (refine .inl ⟨rfl, ?_⟩; simpa only [V.int.injEq, V.str.injEq, V.bl.injEq] using h)
theorem op_neM (hu : X.A.units + 66 < cLine) : OpR X (compareOp .NotEq) (rNeM X.K) := by
  intro pins s σ H x y v u Q I rx ry h
  refine op_neG (by omega) pins s σ H x y v u Q I rx ry ?_
  unfold rNeM at h
  split at h <;> first | exact h | (refine .inl ⟨rfl, ?_⟩; simpa only [V.int.injEq, V.str.injEq, V.bl.injEq] using h)
end
section
variable {K : PySem.W.Frag} {H : Hp} {p : Addr} {xs : List V} {i : Int} {v : V}
theorem GetAt.l (h : SqL K H p xs) (e : atI xs i = some v) : GetAt K H p (.int i) v := .inl ⟨xs, i, rfl, .inl h, e⟩
theorem GetAt.m (h : H p = some (.lst xs)) (e : atI xs i = some v) : GetAt K H p (.int i) v := .l (SqL.of h) e
theorem GetAt.t (h : SqT K H p xs) (e : atI xs i = some v) : GetAt K H p (.int i) v := .inl ⟨xs, i, rfl, .inr h, e⟩
theorem LenAt.l (h : SqL K H p xs) : LenAt K H p xs.length := .inl ⟨xs, h, rfl⟩
theorem LenAt.m (h : H p = some (.lst xs)) : LenAt K H p xs.length := .inl ⟨xs, SqL.of h, rfl⟩
theorem LenAt.t (h : SqT K H p xs) : LenAt K H p xs.length := .inr ⟨xs, h, rfl⟩
end
theorem mul_l {i j : Int} (h : -(2 ^ 64) < i ∧ i < 2 ^ 64) : CMul i j := .inl h
theorem mul_r {i j : Int} (h : -(2 ^ 64) < j ∧ j < 2 ^ 64) : CMul i j := .inr h
theorem div_lit {i : Int} {j : Nat} (h : (0 < j ∧ Nat.log2 j < 9000)) : CDivW i (j : Int) := ⟨by omega, by simpa using h.2⟩
end L2.Fk
set_option Elab.async false
set_option linter.all false
set_option maxRecDepth 100000
set_option maxHeartbeats 4000000
/-! a reading, one step at a time -/
namespace L2.Fk
open PySem PySem.Spec PyProof.Rows
section
variable {D : Ends} {σ : St} {H : Hp} {Q : VK} {te ta tb : TE} {K : PySem.W.Frag} {v u : V} {i : Nat}
theorem in_seq {t u : TS} (h : t { D with nx := u D } σ H) : tSeq t u D σ H := h
theorem in_seqK {t u : TS} (I : St → Hp → Prop) (h2 : ∀ σ' H', I σ' H' → u D σ' H') (h1 : ∀ N : St → Hp → Prop, (∀ σ' H', I σ' H' → N σ' H') → t { D with nx := N } σ H) : tSeq t u D σ H := h1 (u D) h2
theorem in_seqA {g : TG} {u : TS} (h : tAsg te g { D with nx := u D } σ H) : tSeq (tAsg te g) u D σ H := h
theorem in_seqE {u : TS} (h : tDrop te { D with nx := u D } σ H) : tSeq (tDrop te) u D σ H := h
theorem in_asg {g : TG} (h : te σ H fun x H1 => g x σ H1 D.nx) : tAsg te g D σ H := h
theorem in_ret (h : te σ H D.rt) : tRet te D σ H := h
theorem in_retN (h : D.rt .non H) : tRetN D σ H := h
theorem in_next (h : D.nx σ H) : tNext D σ H := h
theorem in_brk (h : D.bk σ H) : tBreak D σ H := h
theorem in_ct (h : D.ct σ H) : tCont D σ H := h
theorem in_drop (h : te σ H fun _ H1 => D.nx σ H1) : tDrop te D σ H := h
theorem in_ifS {c : TT} {t u : TS} (h : c σ H fun b H1 => if b = true then t D σ H1 else u D σ H1) : tIfS c t u D σ H := h
theorem in_name {Q : St → Hp → Prop} (h : Q (σ.set i (some v)) H) : gName i v σ H Q := h
theorem in_var (e : σ[i]? = some (some v)) (h : Q v H) : tVar i σ H Q := ⟨v, e, h⟩
theorem in_c (h : Q v H) : tC v σ H Q := h
theorem in_op {r : R2} (h : ta σ H fun x H1 => tb σ H1 fun y H2 => r x y H2 Q) : tOp r ta tb σ H Q := h
theorem in_un {r : V → Hp → VK → Prop} (h : ta σ H fun x H1 => r x H1 Q) : tUn r ta σ H Q := h
theorem in_cb {r : List V → Hp → VK → Prop} {t : TA} (h : t σ H fun vs H1 => r vs H1 Q) : tCB r t σ H Q := h
theorem in_nil {Q : List V → Hp → Prop} (h : Q [] H) : tNil σ H Q := h
theorem in_cons {tr : TA} {Q : List V → Hp → Prop} (h : ta σ H fun x H1 => tr σ H1 fun xs H2 => Q (x :: xs) H2) : tCons ta tr σ H Q := h
theorem in_test {Q : Bool → Hp → Prop} (h : te σ H fun x H' => ∃ k, x = .bl k ∧ Q k H') : tTest te σ H Q := h
theorem in_tB {Q : Bool → Hp → Prop} (h : te σ H fun x H' => ∃ k, x = .bl k ∧ Q k H') : tB te σ H Q := h
theorem in_bl {b : Bool} {P : Bool → Prop} (h : P b) : ∃ k, V.bl b = .bl k ∧ P k := ⟨b, rfl, h⟩
theorem in_int {b : Int} {P : Int → Prop} (h : P b) : ∃ k, V.int b = .int k ∧ P k := ⟨b, rfl, h⟩
theorem in_str {b : Str} {P : Str → Prop} (h : P b) : ∃ k, V.str b = .str k ∧ P k := ⟨b, rfl, h⟩
theorem in_and {t u : TT} {Q : Bool → Hp → Prop} (h : t σ H fun c H1 => if c = true then u σ H1 Q else Q false H1) : tAnd t u σ H Q := h
theorem in_or {t u : TT} {Q : Bool → Hp → Prop} (h : t σ H fun c H1 => if c = true then Q true H1 else u σ H1 Q) : tOr t u σ H Q := h
theorem in_not {t : TT} {Q : Bool → Hp → Prop} (h : t σ H fun c H1 => Q (!c) H1) : tNot t σ H Q := h
theorem in_andV (h : ta σ H fun x H1 => ∃ c, x = .bl c ∧ if c = true then tb σ H1 Q else Q (.bl false) H1) : tAndV ta tb σ H Q := h
theorem in_orV (h : ta σ H fun x H1 => ∃ c, x = .bl c ∧ if c = true then Q (.bl true) H1 else tb σ H1 Q) : tOrV ta tb σ H Q := h
theorem in_notV (h : ta σ H fun x H1 => ∃ c, x = .bl c ∧ Q (.bl (!c)) H1) : tNotV ta σ H Q := h
theorem in_ifE {t : TT} (h : t σ H fun c H1 => if c = true then ta σ H1 Q else tb σ H1 Q) : tIf t ta tb σ H Q := h
theorem in_yes {Q : Bool → Hp → Prop} (h : Q true H) : tYes σ H Q := h
theorem in_isN (h : ta σ H fun x H1 => Q (.bl (decide (x = .non))) H1) : tIsN ta σ H Q := h
theorem in_notN (h : ta σ H fun x H1 => Q (.bl (!decide (x = .non))) H1) : tNotN ta σ H Q := h
theorem in_noPart {Q : Option Int → Hp → Prop} (h : Q none H) : tNoPart σ H Q := h
theorem in_part {Q : Option Int → Hp → Prop} (h : te σ H fun x H1 => ∃ i, x = .int i ∧ Q (some i) H1) : tPart te σ H Q := h
theorem in_sl {r : V → Option Int → Option Int → Hp → VK → Prop} {tl th : TO} (h : te σ H fun x H1 => tl σ H1 fun l H2 => th σ H2 fun u H3 => r x l u H3 Q) : tSl r te tl th σ H Q := h
theorem in_gsub {to ti : TE} {t : TSet} {Q : St → Hp → Prop} (h : to σ H fun o H1 => ti σ H1 fun i H2 => t o i v H2 fun H3 => Q σ H3) : gSub to ti t v σ H Q := h
theorem in_lst {t : TA} (h : t σ H fun xs H1 => xs.length ≤ sizeLine ∧ ∀ p, H1 p = none → Q (.ref p) (upd H1 p (.lst xs))) : tLst t σ H Q := h
theorem in_tup {t : TA} (h : t σ H fun xs H1 => xs.length ≤ sizeLine ∧ ∀ p, H1 p = none → Q (.ref p) (upd H1 p (.tup xs))) : tTup t σ H Q := h
theorem in_new {n : Nat} {P : Prop} (hn : n ≤ 16777216) (h : P) : n ≤ sizeLine ∧ P := ⟨by rw [sizeLine_eq]; exact hn, h⟩
theorem in_for {wi : TI} {g : TG} {t : TS} (h : wi σ H fun J H1 => ForIn J g t D H1 σ) : tFor wi g t D σ H := h
theorem in_lc {wi : TI} {g : TG} {tt : TT} {ws : List Nat} (h : wi σ H fun J H1 => LcIn J g tt te ws Q σ H1) : tLc wi g tt te ws σ H Q := h
theorem in_iList {R : It → Hp → Prop} (h : te σ H fun x H1 => ∃ a xs, x = .ref a ∧ SqL K H1 a xs ∧ (xs.length ≤ sizeLine → R (Itl K a) H1)) : iListG K te σ H R := h
theorem in_iStr {R : It → Hp → Prop} (h : te σ H fun v H1 => ∃ x, v = .str x ∧ R (Its x) H1) : iStr te σ H R := h
theorem in_iRng1 {t : TA} {R : It → Hp → Prop} (h : t σ H fun vs H1 => ∃ j : Int, vs = [.int j] ∧ -(2 ^ 62) ≤ j ∧ j < 2 ^ 62 ∧ R (Itr 0 j.toNat) H1) : iRng1 t σ H R := h
theorem in_iRng2 {t : TA} {R : It → Hp → Prop} (h : t σ H fun vs H1 => ∃ i j : Int, vs = [.int i, .int j] ∧ (-(2 ^ 62) ≤ i ∧ i < 2 ^ 62 ∧ -(2 ^ 62) ≤ j ∧ j < 2 ^ 62) ∧ R (Itr i (j - i).toNat) H1) : iRng2 t σ H R := h
theorem in_rng1 {j : Int} {P : Int → Prop} (h1 : -(2 ^ 62) ≤ j) (h2 : j < 2 ^ 62) (h : P j) : ∃ k : Int, ([V.int j] : List V) = [.int k] ∧ -(2 ^ 62) ≤ k ∧ k < 2 ^ 62 ∧ P k := ⟨j, rfl, h1, h2, h⟩
theorem in_rng2 {i j : Int} {P : Int → Int → Prop} (h1 : -(2 ^ 62) ≤ i ∧ i < 2 ^ 62 ∧ -(2 ^ 62) ≤ j ∧ j < 2 ^ 62) (h : P i j) : ∃ i' j' : Int, ([V.int i, V.int j] : List V) = [.int i', .int j'] ∧ (-(2 ^ 62) ≤ i' ∧ i' < 2 ^ 62 ∧ -(2 ^ 62) ≤ j' ∧ j' < 2 ^ 62) ∧ P i' j' := ⟨i, j, rfl, h1, h⟩
theorem in_call {T : Tb} {W : WX} {x : Str} {t : TA} {sp : Sp} (e : T.fn x sp) (h : t σ H fun vs H1 => sp vs H1 Q (fun c d H' => W c d σ H')) : tCallG T W x t σ H Q := ⟨sp, e, h⟩
theorem in_gv {gv : Str → V → Prop} {x : Str} (e : gv x v) (h : Q v H) : tGv gv x σ H Q := ⟨v, e, h⟩
theorem in_bm {T : String} {r : V → List V → Hp → VK → Prop} {t : TA} (h : te σ H fun x H1 => tyV K T x H1 ∧ t σ H1 fun xs H2 => r x xs H2 Q) : tBM K T r te t σ H Q := h
theorem in_m1 {r : V → List V → Hp → VK → Prop} (h : ta σ H fun x H1 => (∃ a, x = .str a) ∧ te σ H1 fun y H2 => r x [y] H2 Q) : tM1 r ta te σ H Q := h
end
section
variable {H : Hp} {Q : VK} {K : PySem.W.Frag} {i j : Int} {v : V} {p : Addr}
theorem in_mul (c : CMul i j) (h : Q (.int (i * j)) H) : rMulG (.int i) (.int j) H Q := ⟨c, h⟩
theorem in_addI (h : Q (.int (i + j)) H) : rAddG K (.int i) (.int j) H Q := h
theorem in_addS {a b : Str} (c : a.length + b.length ≤ sizeLine) (h : Q (.str (a ++ b)) H) : rAddG K (.str a) (.str b) H Q := ⟨c, h⟩
theorem in_rI {C : Int → Int → Prop} {g : Int → Int → V} (c : C i j) (h : Q (g i j) H) : rI C g (.int i) (.int j) H Q := ⟨i, j, rfl, rfl, c, h⟩
theorem in_rI0 {g : Int → Int → V} (h : Q (g i j) H) : rI0 g (.int i) (.int j) H Q := ⟨i, j, rfl, rfl, h⟩
theorem in_rU {g : Int → V} (h : Q (g i) H) : rU g (.int i) H Q := ⟨i, rfl, h⟩
theorem in_intI (h : Q (.int i) H) : rIntM [.int i] H Q := h
theorem in_abs (h : Q (.int (i.natAbs : Int)) H) : rAbsM [.int i] H Q := h
theorem in_max2 (h : Q (.int (max i j)) H) : rMax2M [.int i, .int j] H Q := h
theorem in_min2 (h : Q (.int (min i j)) H) : rMin2M [.int i, .int j] H Q := h
theorem in_lenS {y : Str} (c : y.length ≤ sizeLine) (h : Q (.int (y.length : Nat)) H) : rLenM K [.str y] H Q := ⟨c, h⟩
theorem in_lenR {n : Nat} (c : LenAt K H p n) (h : Q (.int (n : Nat)) H) : rLenM K [.ref p] H Q := ⟨n, c, h⟩
theorem in_ixR {y : V} (c : GetAt K H p y v) (h : Q v H) : rIxM K (.ref p) y H Q := ⟨v, c, h⟩
theorem in_ixS {z : Str} {c : Nat} (e : atI z.cps.toList i = some c) (l : z.length ≤ sizeLine) (h : Q (.str ⟨#[c]⟩) H) : rIxM K (.str z) (.int i) H Q := ⟨i, c, rfl, e, l, h⟩
theorem in_slS {z : Str} {lo hi : Option Int} (l : z.length ≤ sizeLine) (h : Q (.str (cutS z lo hi)) H) : rSlM K (.str z) lo hi H Q := ⟨l, h⟩
theorem in_slL {xs : List V} {lo hi : Option Int} (l : SqL K H p xs) (h : ∀ q, H q = none → Q (.ref q) (upd H q (.lst (cutV xs lo hi)))) : rSlM K (.ref p) lo hi H Q := .inl ⟨xs, l, h⟩
theorem in_eqI (h : Q (.bl (decide (i = j))) H) : rEqM K (.int i) (.int j) H Q := h
theorem in_eqS {a b : Str} (h : Q (.bl (decide (a = b))) H) : rEqM K (.str a) (.str b) H Q := h
theorem in_neI (h : Q (.bl (!decide (i = j))) H) : rNeM K (.int i) (.int j) H Q := h
theorem in_neS {a b : Str} (h : Q (.bl (!decide (a = b))) H) : rNeM K (.str a) (.str b) H Q := h
theorem in_setL {xs : List V} {k : Nat} {R : Hp → Prop} (e : H p = some (.lst xs)) (x : ixN xs.length i = some k) (h : R (upd H p (.lst (xs.set k v)))) : rSetG (.ref p) (.int i) v H R := .inl ⟨p, xs, i, k, rfl, rfl, e, x, h⟩
theorem in_pos {q : Prop} [Decidable q] {A B : Prop} (c : q) (h : A) : if decide q = true then A else B := by rw [if_pos (decide_eq_true c)]; exact h
theorem in_neg {q : Prop} [Decidable q] {A B : Prop} (c : ¬ q) (h : B) : if decide q = true then A else B := by rw [if_neg (by rw [decide_eq_false c]; exact Bool.false_ne_true)]; exact h
theorem in_ite {q : Prop} [Decidable q] {A B : Prop} (h1 : q → A) (h2 : ¬ q → B) : if decide q = true then A else B := by
  by_cases c : q
  · exact in_pos c (h1 c)
  · exact in_neg c (h2 c)
theorem in_posN {q : Prop} [Decidable q] {A B : Prop} (c : ¬ q) (h : A) : if (!decide q) = true then A else B := by rw [if_pos (by rw [decide_eq_false c]; rfl)]; exact h
theorem in_negN {q : Prop} [Decidable q] {A B : Prop} (c : q) (h : B) : if (!decide q) = true then A else B := by rw [if_neg (by rw [decide_eq_true c]; exact Bool.false_ne_true)]; exact h
theorem in_iteN {q : Prop} [Decidable q] {A B : Prop} (h1 : ¬ q → A) (h2 : q → B) : if (!decide q) = true then A else B := by
  by_cases c : q
  · exact in_negN c (h2 c)
  · exact in_posN c (h1 c)
theorem in_tt {A B : Prop} (h : A) : if true = true then A else B := by rw [if_pos rfl]; exact h
theorem in_ff {A B : Prop} (h : B) : if false = true then A else B := by rw [if_neg Bool.false_ne_true]; exact h
theorem in_iteB {b : Bool} {A B : Prop} (h1 : b = true → A) (h2 : b = false → B) : if b = true then A else B := by
  cases b with
  | true => exact in_tt (h1 rfl)
  | false => exact in_ff (h2 rfl)
theorem GetAt.f {xs : List V} {o : Obj} (h : H p = some (.frz o (.lst xs))) (e : atI xs i = some v) : GetAt K H p (.int i) v := .l (SqL.frz h) e
theorem LenAt.f {xs : List V} {o : Obj} (h : H p = some (.frz o (.lst xs))) : LenAt K H p xs.length := .l (SqL.frz h)
end
theorem atI_ok {α : Type} {xs : List α} {i : Int} {x : α} (h : 0 ≤ i) (e : xs[i.toNat]? = some x) : atI xs i = some x := by
  have hl : i.toNat < xs.length := by
    by_cases hl : i.toNat < xs.length
    · exact hl
    · rw [List.getElem?_eq_none (by omega)] at e
      cases e
  unfold atI ixN
  rw [if_pos h, if_pos (by omega)]
  exact e
theorem atI_int {xs : List Int} {i : Int} (h : 0 ≤ i) (l : i < xs.length) : ∃ x, x ∈ xs ∧ xs[i.toNat]? = some x ∧ atI (xs.map V.int) i = some (.int x) := by
  have hl : i.toNat < xs.length := by omega
  refine ⟨xs[i.toNat], List.getElem_mem hl, List.getElem?_eq_getElem hl, atI_ok h ?_⟩
  rw [List.getElem?_map, List.getElem?_eq_getElem hl]
  rfl
theorem atI_str {xs : List Str} {i : Int} (h : 0 ≤ i) (l : i < xs.length) : ∃ x, x ∈ xs ∧ xs[i.toNat]? = some x ∧ atI (xs.map V.str) i = some (.str x) := by
  have hl : i.toNat < xs.length := by omega
  refine ⟨xs[i.toNat], List.getElem_mem hl, List.getElem?_eq_getElem hl, atI_ok h ?_⟩
  rw [List.getElem?_map, List.getElem?_eq_getElem hl]
  rfl
theorem Rd.but {a b : Addr} {H H' : Hp} {u : HO} (h : Rd H a u) (x : But b H H') (n : a ≠ b) : Rd H' a u := h.elim (fun e => .inl (x _ _ n e)) fun ⟨o, e⟩ => .inr ⟨o, x _ _ n e⟩
theorem Rd.same {a : Addr} {H H' : Hp} {u : HO} (h : Rd H a u) (x : Same H H') : Rd H' a u := h.elim (fun e => .inl (x _ _ e)) fun ⟨o, e⟩ => .inr ⟨o, x _ _ e⟩
theorem take_min {α : Type} (xs : List α) (n : Nat) : xs.take (min n xs.length) = xs.take n := by
  rcases Nat.le_total n xs.length with h | h
  · rw [Nat.min_eq_left h]
  · rw [Nat.min_eq_right h, List.take_length, List.take_of_length_le h]
theorem cutV_to {xs : List V} {j : Int} (h : 0 ≤ j) : cutV xs none (some j) = xs.take j.toNat := by
  obtain ⟨n, rfl⟩ := Int.eq_ofNat_of_zero_le h
  unfold cutV
  rw [HT.sIx_none, HT.sIx_nat, List.drop_zero, Nat.sub_zero, take_min]
  rfl
theorem drop_min {α : Type} (xs : List α) (n : Nat) : xs.drop (min n xs.length) = xs.drop n := by
  rcases Nat.le_total n xs.length with h | h
  · rw [Nat.min_eq_left h]
  · rw [Nat.min_eq_right h, List.drop_length, List.drop_of_length_le h]
theorem cutV_from {xs : List V} {j : Int} (h : 0 ≤ j) : cutV xs (some j) none = xs.drop j.toNat := by
  obtain ⟨n, rfl⟩ := Int.eq_ofNat_of_zero_le h
  unfold cutV
  rw [HT.sIx_none, HT.sIx_nat, drop_min]
  rw [List.take_of_length_le (by rw [List.length_drop]; omega)]
  rfl
theorem cutS_to {z : Str} {j : Int} (h : 0 ≤ j) : cutS z none (some j) = ⟨(z.cps.toList.take j.toNat).toArray⟩ := by
  obtain ⟨n, rfl⟩ := Int.eq_ofNat_of_zero_le h
  unfold cutS
  have e : z.length = z.cps.toList.length := by simp [Str.length]
  rw [HT.sIx_none, HT.sIx_nat, List.drop_zero, Nat.sub_zero, e, take_min]
  rfl
theorem cutS_from {z : Str} {j : Int} (h : 0 ≤ j) : cutS z (some j) none = ⟨(z.cps.toList.drop j.toNat).toArray⟩ := by
  obtain ⟨n, rfl⟩ := Int.eq_ofNat_of_zero_le h
  unfold cutS
  have e : z.length = z.cps.toList.length := by simp [Str.length]
  rw [HT.sIx_none, HT.sIx_nat, e, drop_min, List.take_of_length_le (by rw [List.length_drop]; omega)]
  rfl
theorem paired_map {α β : Type} {F : α → β → Prop} {g : β → α} (h : ∀ x, F (g x) x) : ∀ xs : List β, Paired F (xs.map g) xs
  | [] => .nil
  | x :: r => .cons (h x) (paired_map h r)
theorem Same.free {H H' : Hp} {b : Addr} (s : Same H H') (h : H' b = none) : H b = none := by
  cases e : H b with
  | none => rfl
  | some o =>
    rw [s _ _ e] at h
    cases h
end L2.Fk
set_option Elab.async false
set_option linter.all false
set_option maxRecDepth 100000
set_option maxHeartbeats 4000000
/-! names as texts -/
namespace L2.Fk
open PySem PySem.Spec PyProof.Rows
/-- letters only, at most 12 of them -/
def isNm (s : Str) : Prop := 1 ≤ s.cps.toList.length ∧ s.cps.toList.length ≤ 12 ∧ ∀ c ∈ s.cps.toList, 97 ≤ c ∧ c ≤ 122
theorem joinL_nil : ∀ ys : List (List Nat), TL.joinL [] ys = ys.flatten
  | [] => rfl
  | [p] => by simp [TL.joinL]
  | p :: q :: r => by
    show p ++ ([] ++ TL.joinL [] (q :: r)) = _
    rw [joinL_nil (q :: r)]
    rfl
theorem join_nil (ys : List (List Nat)) : Txt.join ("" : Str) (ys.map SX.S) = SX.S ys.flatten := by
  have e : ("" : Str) = SX.S [] := by decide +kernel
  rw [e, SX.join_S, joinL_nil]
theorem letter_at (i : Int) (h : 0 ≤ i) (l : i < 26) : ∃ c, atI (Str.cps "qwertyuiopasdfghjklzxcvbnm").toList i = some c ∧ 97 ≤ c ∧ c ≤ 122 := by
  obtain ⟨n, rfl⟩ := Int.eq_ofNat_of_zero_le h
  have key : ∀ n : Nat, n < 26 → (match atI (Str.cps "qwertyuiopasdfghjklzxcvbnm").toList (n : Int) with | some c => decide (97 ≤ c ∧ c ≤ 122) | none => false) = true := by decide +kernel
  have k := key n (by omega)
  split at k
  · rename_i c e
    exact ⟨c, e, of_decide_eq_true k⟩
  · cases k
theorem erase_len {α : Type} [DecidableEq α] {l : List α} {a : α} (h : a ∈ l) : (l.erase a).length + 1 = l.length := by
  have := List.length_erase_of_mem h
  have : 0 < l.length := List.length_pos_of_mem h
  omega
theorem nodup_le {α : Type} [DecidableEq α] : ∀ {l ns : List α}, l.Nodup → (∀ x ∈ l, x ∈ ns) → l.length ≤ ns.length
  | [], _, _, _ => Nat.zero_le _
  | a :: l, ns, hd, hs => by
    have hd' := List.nodup_cons.mp hd
    have ih := nodup_le (l := l) (ns := ns.erase a) hd'.2 (fun x hx => (List.mem_erase_of_ne (fun z => hd'.1 (by rw [← z]; exact hx))).mpr (hs x (List.mem_cons_of_mem _ hx)))
    have := erase_len (hs a List.mem_cons_self)
    simp only [List.length_cons]
    omega
theorem inV_str (s : Str) : ∀ ns : List Str, inV (.str s) (ns.map V.str) = decide (s ∈ ns)
  | [] => rfl
  | n :: ns => by
    have ih := inV_str s ns
    unfold inV at ih ⊢
    rw [List.map_cons, List.any_cons, ih]
    show (n == s || decide (s ∈ ns)) = _
    by_cases e : n = s
    · subst e; simp
    · have e' : ¬ s = n := fun z => e z.symm
      simp [e, e']
theorem flat_strs (ns : List Str) : (ns.map V.str).all flatV = true := by
  rw [List.all_eq_true]
  intro x hx
  obtain ⟨s, _, rfl⟩ := List.mem_map.mp hx
  rfl
theorem flat_ints (ns : List Int) : (ns.map V.int).all flatV = true := by
  rw [List.all_eq_true]
  intro x hx
  obtain ⟨s, _, rfl⟩ := List.mem_map.mp hx
  rfl
theorem mul4 (l : List Nat) : (Txt.mul (SX.S l) 4).cps.toList = l ++ (l ++ (l ++ l)) := by
  unfold Txt.mul
  rw [if_neg (by decide)]
  by_cases h : l = []
  · subst h; rfl
  · have hl : ((4 : Int) == 1 || (SX.S l).length == 0) = false := by
      have : l.length ≠ 0 := fun z => h (List.length_eq_zero_iff.mp z)
      rw [SX.S_len]
      simp [this]
    rw [hl, if_neg Bool.false_ne_true]
    show ((((#[] ++ l.toArray) ++ l.toArray) ++ l.toArray) ++ l.toArray).toList = _
    simp
/-- the first of a pool that isn't among ns -/
theorem pool_head {ns : List Str} {a : Str} {l : List Str} (hd : l.Nodup) (hl : ns.length < l.length) : ∃ s r, ((a :: l).filter fun x => !decide (x ∈ ns)) = s :: r ∧ s ∈ a :: l ∧ s ∉ ns := by
  cases e : (a :: l).filter fun x => !decide (x ∈ ns) with
  | nil =>
    have h : ∀ x ∈ l, x ∈ ns := fun x hx => by
      have := List.filter_eq_nil_iff.mp e x (List.mem_cons_of_mem _ hx)
      simpa using this
    have := nodup_le hd h
    omega
  | cons s r =>
    have hs : s ∈ (a :: l).filter fun x => !decide (x ∈ ns) := by rw [e]; exact List.mem_cons_self
    have := List.mem_filter.mp hs
    exact ⟨s, r, rfl, this.1, by simpa using this.2⟩
/-- name[:3] + letter -/
theorem nm_more {z : Str} (h : isNm z) {c : Nat} (hc : 97 ≤ c ∧ c ≤ 122) : isNm (cutS z none (some 3) ++ ⟨#[c]⟩) := by
  rw [cutS_to (by omega)]
  have e : ((⟨(z.cps.toList.take (Int.toNat 3)).toArray⟩ : Str) ++ (⟨#[c]⟩ : Str)).cps.toList = z.cps.toList.take 3 ++ [c] := by
    show ((z.cps.toList.take 3).toArray ++ #[c]).toList = _
    simp
  unfold isNm
  rw [e]
  refine ⟨by simp, ?_, fun x hx => ?_⟩
  · rw [List.length_append, List.length_take]
    simp only [List.length_cons, List.length_nil]
    omega
  · rcases List.mem_append.mp hx with h1 | h1
    · exact h.2.2 x (List.mem_of_mem_take h1)
    · rw [List.mem_singleton.mp h1]
      exact hc
theorem more_inj {z : Str} {c d : Nat} (h : cutS z none (some 3) ++ (⟨#[c]⟩ : Str) = cutS z none (some 3) ++ ⟨#[d]⟩) : c = d := by
  have e : ∀ (y : Str) (c : Nat), (y ++ (⟨#[c]⟩ : Str)).cps.toList = y.cps.toList ++ [c] := fun y c => by
    show (y.cps ++ #[c]).toList = _
    simp
  have h2 := congrArg (fun x : Str => x.cps.toList) h
  simp only [e] at h2
  simpa using h2
theorem nodup_map {α β : Type} {f : α → β} (hf : ∀ a b, f a = f b → a = b) : ∀ {l : List α}, l.Nodup → (l.map f).Nodup
  | [], _ => by simp
  | a :: l, h => by
    have h' := List.nodup_cons.mp h
    rw [List.map_cons]
    refine List.nodup_cons.mpr ⟨fun z => ?_, nodup_map hf h'.2⟩
    obtain ⟨b, hb, e⟩ := List.mem_map.mp z
    exact h'.1 (by rw [← hf _ _ e]; exact hb)
theorem low_letters : ∀ c ∈ (Str.cps "abcdefghijkl").toList, 97 ≤ c ∧ c ≤ 122 := by decide +kernel
theorem low_nodup : (Str.cps "abcdefghijkl").toList.Nodup := by decide +kernel
theorem low_len : (Str.cps "abcdefghijkl").toList.length = 12 := by decide +kernel
/-- joined letters -/
theorem nm_join {ls : List Nat} (h : ∀ c ∈ ls, 97 ≤ c ∧ c ≤ 122) {k : Nat} (h1 : 1 ≤ k) (h2 : ls.length ≤ 12) (h3 : 1 ≤ ls.length) : isNm (Txt.join ("" : Str) (((ls.map fun c => [c]).take k).map SX.S)) := by
  rw [join_nil, ← List.map_take]
  have e : ((ls.take k).map fun c => [c]).flatten = ls.take k := by
    induction ls.take k with
    | nil => rfl
    | cons a r ih => simp [ih]
  rw [e]
  refine ⟨?_, ?_, fun c hc => h c (List.mem_of_mem_take (by simpa using hc))⟩
  · simp; omega
  · simp; omega
theorem nm_mul {ls : List Nat} (h : ∀ c ∈ ls, 97 ≤ c ∧ c ≤ 122) (h3 : 1 ≤ ls.length) : isNm (cutS (Txt.mul (SX.S ls) 4) none (some 12)) := by
  rw [cutS_to (by omega)]
  have e := mul4 ls
  have e2 : ((⟨((Txt.mul (SX.S ls) 4).cps.toList.take (Int.toNat 12)).toArray⟩ : Str)).cps.toList = (ls ++ (ls ++ (ls ++ ls))).take 12 := by
    rw [e]; simp
  unfold isNm
  rw [e2]
  refine ⟨?_, ?_, fun c hc => ?_⟩
  · rw [List.length_take, List.length_append]; omega
  · rw [List.length_take]; omega
  · have := List.mem_of_mem_take hc
    simp only [List.mem_append, or_self] at this
    exact h c this
end L2.Fk
set_option Elab.async false
set_option linter.all false
set_option maxRecDepth 100000
set_option maxHeartbeats 4000000
/-! the rules again, the fragment K by its name -/
namespace L2.Fk
open PySem PySem.Spec PyProof.Rows
section
variable {X : Cx} {K : PySem.W.Frag}
theorem op_addK (hK : X.K = K) : OpR X (binaryOp .Add) (rAddG K) := hK ▸ op_addG
theorem op_eqK (hK : X.K = K) (hu : X.A.units + 66 < cLine) : OpR X (compareOp .Eq) (rEqM K) := hK ▸ op_eqM hu
theorem op_neK (hK : X.K = K) (hu : X.A.units + 66 < cLine) : OpR X (compareOp .NotEq) (rNeM K) := hK ▸ op_neM hu
/-- in, by cases -/
def rInM (K : PySem.W.Frag) (neg : Bool) : R2 := fun x y H Q => match x, y with
  | .str a, .str z => (∃ c : Nat, a = ⟨#[c]⟩ ∧ Q (.bl (if neg then !decide (c ∈ z.cps.toList) else decide (c ∈ z.cps.toList))) H)
  | x, y => rInG K neg x y H Q
theorem rInM_G {neg : Bool} {x y : V} {H : Hp} {Q : VK} (h : rInM K neg x y H Q) : rInG K neg x y H Q := by
  unfold rInM at h
  split at h
  · obtain ⟨c, rfl, q⟩ := h
    exact .inl ⟨c, _, rfl, rfl, q⟩
  · exact h
theorem op_inK (hK : X.K = K) (hu : X.A.units + 66 < cLine) : OpR X (compareOp .In) (rInM K false) := fun pins s σ H x y v u Q I rx ry h => op_inG hu pins s σ H x y v u Q I rx ry (hK ▸ rInM_G h)
theorem op_notInK (hK : X.K = K) (hu : X.A.units + 66 < cLine) : OpR X (compareOp .NotIn) (rInM K true) := fun pins s σ H x y v u Q I rx ry h => op_notInG hu pins s σ H x y v u Q I rx ry (hK ▸ rInM_G h)
theorem ix_K (hK : X.K = K) (hu : X.A.units + 66 < cLine) : IxR X (rIxM K) := hK ▸ ix_M hu
theorem sl_K (hK : X.K = K) : SlR X (rSlM K) := hK ▸ sl_M
theorem call_lenK (hK : X.K = K) : CallR X (.builtin "len") (rLenM K) := hK ▸ call_lenM
variable {tg l o e : Expr} {tl to te : TE}
theorem pi_listK (hK : X.K = K) (hl : PE X l tl) : PI X tg l (iListG K tl) := hK ▸ pi_listG hl
def rJoin (K : PySem.W.Frag) : V → List V → Hp → VK → Prop := fun x xs H Q => ∃ a p, ∃ ys : List Str, x = .str a ∧ xs = [.ref p] ∧ (SqL K H p (ys.map V.str) ∨ SqT K H p (ys.map V.str)) ∧ (ys.map (·.length)).sum + ys.length * a.length ≤ 16777216 ∧ Q (.str (Txt.join a ys)) H
theorem pe_joinK {apos pos : Pos} (hK : X.K = K) (ho : PE X o to) (he : PE X e te) (hs : starEach [e] X.env = [(false, eval e X.env)] := by rfl) (hbase : attributeBase o "join" X.env (eval o X.env) = eval o X.env := by rfl) (hline : (apos.endLine == pos.line) = true := by rfl) :
    PE X (.Call (.Attribute o "join" apos) [e] [] pos) (tM1 (rJoin K) to te) := hK ▸ pe_join ho he hs hbase hline
theorem pg_tupK {es : List Expr} {k : Nat} {t : TGs} {n : Nat} {pos : Pos} (hK : X.K = K) (hc : X.calm = true) (h : PGs X es t) (hn : (assignEach es X.env).length = n := by rfl) (hst : (assignEach es X.env).findIdx? (·.1) = none := by rfl) : PG X (.Tuple es k pos) (gTup K n t) := hK ▸ pg_tup hc h hn hst
theorem pi_enumK {p pos tpos : Pos} {elts : List Expr} {kk : Nat} {ta : TA} (hK : X.K = K) (hg : Gl X "enumerate") (hm : X.mg "enumerate" = none) (ha : PA X [e] ta) (hs : starEach [e] X.env = [(false, eval e X.env)] := by rfl) :
    PI X (.Tuple elts kk tpos) (.Call (.Name "enumerate" p) [e] [] pos) (iEnum K ta) := hK ▸ pi_enum hg hm ha hs
theorem pe_bmK {es : List Expr} {t : TA} {name : Str} {apos cpos : Pos} {T id : String} {r : V → List V → Hp → VK → Prop} (hK : X.K = K) (pa : PlainAttrs T) (slot : Slot T name id) (hty : typeOf (.builtin id) = pure (.type "method_descriptor")) (hm : MtR X id r) (ho : PE X o to) (ha : PA X (e :: es) t)
    (hbase : attributeBase o name X.env (eval o X.env) = eval o X.env := by rfl)
    (hfew : ((backTo cpos (starEach (e :: es) X.env)).all (fun x => !x.1) && (backToKw cpos (keywordEach [] X.env)).all (fun x => x.1.isSome)
      && decide ((e :: es).length + ([] : List Keyword).length + (if ([] : List Keyword).isEmpty then 0 else 1) < 30)) = true := by rfl)
    (hline : (apos.endLine == cpos.line) = true := by rfl) (hs : starEach (e :: es) X.env = (false, eval e X.env) :: starEach es X.env := by rfl) (hplain : (backTo cpos (starEach es X.env)).any (·.1) = false := by rfl) :
    PE X (.Call (.Attribute o name apos) (e :: es) [] cpos) (tBM K T r to t) := hK ▸ pe_bm pa slot hty hm ho ha hbase hfew hline hs hplain
end
theorem in_mulS {a : Str} {n : Int} {H : Hp} {Q : VK} (h1 : 1 ≤ n) (h2 : n ≤ 100) (h3 : a.length ≤ 1000) (h : Q (.str (Txt.mul a n)) H) : rMulG (.str a) (.int n) H Q := ⟨h1, h2, h3, h⟩
theorem in_catL {K : PySem.W.Frag} {a b : Addr} {xs ys : List V} {H : Hp} {Q : VK} (ha : Rd H a (.lst xs)) (hb : Rd H b (.lst ys)) (hl : xs.length + ys.length ≤ sizeLine) (h : ∀ p, H p = none → Q (.ref p) (upd H p (.lst (xs ++ ys)))) : rAddG K (.ref a) (.ref b) H Q := .inl ⟨a, b, xs, ys, rfl, rfl, ha, hb, hl, h⟩
theorem in_notInS {K : PySem.W.Frag} {p : Addr} {ns : List Str} {s : Str} {H : Hp} {Q : VK} (h : SqL K H p (ns.map V.str)) (q : Q (.bl (!decide (s ∈ ns))) H) : rInM K true (.str s) (.ref p) H Q := .inr (.inl ⟨p, _, rfl, .inl h, rfl, flat_strs ns, by rw [inV_str]; exact q⟩)
theorem in_inS {K : PySem.W.Frag} {p : Addr} {ns : List Str} {s : Str} {H : Hp} {Q : VK} (h : SqL K H p (ns.map V.str)) (q : Q (.bl (decide (s ∈ ns))) H) : rInM K false (.str s) (.ref p) H Q := .inr (.inl ⟨p, _, rfl, .inl h, rfl, flat_strs ns, by rw [inV_str]; exact q⟩)
theorem in_strT {a : Str} {P : Prop} (h : P) : (∃ b, V.str a = .str b) ∧ P := ⟨⟨a, rfl⟩, h⟩
theorem in_sub1 {K : PySem.W.Frag} {H : Hp} {p : Addr} {ys : List Str} {a : Str} {Q : VK} (h : SqL K H p (ys.map V.str)) (l : (ys.map (·.length)).sum + ys.length * a.length ≤ 16777216) (q : Q (.str (Txt.join a ys)) H) : rJoin K (.str a) [.ref p] H Q := ⟨a, p, ys, rfl, rfl, .inl h, l, q⟩
end L2.Fk
set_option Elab.async false
set_option linter.all false
set_option maxRecDepth 100000
set_option maxHeartbeats 4000000
/-! try with any number of clauses, each named or not -/
namespace L2.Fk
open PySem PySem.Spec PyProof.Rows
/-- what a clause does: the ends, the exception -/
abbrev ClF := Ends → Addr → Value → Option Addr → St → Hp → Prop
def clPlain (ts : Addr → Value → Option Addr → TS) : ClF := fun D a cls d σ H => ts a cls d D σ H
/-- the ends of a suite whose name goes behind it -/
def Ends.less (D : Ends) (i : Nat) : Ends := { nx := fun σ H => D.nx (σ.set i none) H, rt := D.rt, bk := fun σ H => D.bk (σ.set i none) H, ct := fun σ H => D.ct (σ.set i none) H }
def clAs (i : Nat) (ts : Addr → Value → Option Addr → TS) : ClF := fun D a cls d σ H => ts a cls d (Ends.less D i) (σ.set i (some (.ref a))) H
def wCl (K : PySem.W.Frag) (Wout : WX) (D : Ends) : List (Value × ClF) → WX
  | [] => Wout
  | (c, f) :: r => fun cls d σ H => ∃ b, PySem.W.exmOne K cls c = some b ∧ (b = true → ∀ a, H a = none → f D a cls d σ H) ∧ (b = false → wCl K Wout D r cls d σ H)
/-- the suite's text is read in the handled exception's context -/
def SuiteOk (X : Cx) (ss : List Stmt) (ts : Addr → Value → Option Addr → TS) : Prop :=
  ∀ (a : Addr) (oe : Obj) (cls : Value) (d : Option Addr) (pn : List (Addr × Obj)), L2N.Zn cls d oe → (∃ vs, oe.data = .fields vs) → PSs (X.suite a ((a, oe) :: pn)) ss (ts a cls d)
inductive ClsOk (X : Cx) : List ExceptHandler → List (Value × ClF) → Prop
  | nil : ClsOk X [] []
  | plain {x : Str} {c : Value} {ts : Addr → Value → Option Addr → TS} {b : Stmt} {ss : List Stmt} {np hp : Pos} {hds : List ExceptHandler} {l : List (Value × ClF)} (hc : Names X x c) (hs : SuiteOk X (b :: ss) ts) (r : ClsOk X hds l) :
      ClsOk X (.ExceptHandler (some (.Name x np)) none (b :: ss) hp :: hds) ((c, clPlain ts) :: l)
  | named {x n : Str} {c : Value} {i : Nat} {ts : Addr → Value → Option Addr → TS} {b : Stmt} {ss : List Stmt} {np hp : Pos} {hds : List ExceptHandler} {l : List (Value × ClF)} (hN : X.N.Nodup) (hi : X.N[i]? = some n) (hk : X.env.kindOf n = some .local) (hc : Names X x c)
      (hs : SuiteOk X (b :: ss) ts) (r : ClsOk X hds l) : ClsOk X (.ExceptHandler (some (.Name x np)) (some n) (b :: ss) hp :: hds) ((c, clAs i ts) :: l)
section
variable {X : Cx} {pins : List (Addr × Obj)} {σ : St} {H : Hp} {a : Addr} {cls : Value} {d : Option Addr}
/-- an exception in the clauses' hands -/
structure Held (X : Cx) (pins : List (Addr × Obj)) (σ : St) (H : Hp) (a : Addr) (cls : Value) (d : Option Addr) (s : Shared) : Prop where
  ex : ∃ (B : Heap) (s0 : Shared), Inv X pins σ H s0 ∧ (∀ b o, s0.heap.get? b = some o → b ∉ frs X.stack → B.get? b = some o) ∧ s0.heap.UpToSlots s.heap ∧ HandSPX.FlyingZ B (X.env :: X.outer) a (L2N.Zn cls d) s.heap ∧ s.os = s0.os ∧ AllBare s.gens
  na : H a = none
  fr : X.env.frame = some X.env.locals
variable {s : Shared}
theorem Held.inv (h : Held X pins σ H a cls d s) : Inv X pins σ H s := by
  obtain ⟨B, s0, I, nb, up, fl, os, ag⟩ := h.ex
  exact I.landed nb fl.1 up os ag
theorem Held.obj (h : Held X pins σ H a cls d s) : ∃ oe vs, s.heap.get? a = some oe ∧ L2N.Zn cls d oe ∧ oe.data = .fields vs ∧ a ≠ X.env.locals ∧ a ∉ X.fs := by
  obtain ⟨B, s0, I, nb, up, fl, os, ag⟩ := h.ex
  obtain ⟨oe, vs, e, z, dd⟩ := fl.there
  have nf : a ∉ frs (X.env :: X.outer) := fun m => by
    obtain ⟨_, o, e', hnf⟩ := fl.2.2.1.mem m
    rw [e] at e'
    cases e'
    exact hnf _ dd
  refine ⟨oe, vs, e, z, dd, fun q => nf (List.mem_filterMap.mpr ⟨X.env, List.mem_cons_self, by rw [h.fr, q]⟩), fun m => nf ?_⟩
  obtain ⟨en, m', q⟩ := List.mem_filterMap.mp m
  exact List.mem_filterMap.mpr ⟨en, List.mem_cons_of_mem _ m', q⟩
/-- the class that the clause names is looked at -/
theorem Held.test {x : Str} {c : Value} {np : Pos} {Q : Value → Shared → Prop} {E : Value → Shared → Prop} (h : Held X pins σ H a cls d s) (hc : Names X x c) (q : Q c s) : wpAny (model X.prog X.w) (X.A.mark (some (.ref a))) (eval (.Name x np) X.env) Q E s := by
  obtain ⟨oe, vs, e, z, dd, n1, n2⟩ := h.obj
  have S := h.inv.suite e dd h.na n1 n2
  obtain ⟨hg, hdb, hm | ⟨hm, hv, hn⟩⟩ := hc
  · exact ld_glob S hg hm q hdb
  · exact ld_blt S hg hm hv q hn hdb
/-- set aside for the suite -/
theorem Held.lay {M : Model} {A : Around} {Q : Unit → Shared → Prop} {E : Value → Shared → Prop} (h : Held X pins σ H a cls d s) (q : ∀ s', Held X pins σ H a cls d s' → Q () s') : wpAny M A (setFlight (.ref a) none) Q E s := by
  obtain ⟨B, s0, I, nb, up, fl, os, ag⟩ := h.ex
  exact HandSPX.lands_againZ fl fun h4 fl4 up4 => q _ ⟨⟨B, s0, I, nb, up.trans up4, fl4, os, ag⟩, h.na, h.fr⟩
theorem unsuiteSP {q : Addr × Obj} {D : Ends} {f : Flow} (ok : X.Ok) (h : SP (X.suite a (q :: (X.pn ++ pins))) [] D f s) : SP X pins D f s := by
  cases f with
  | next => exact let ⟨σ', H', S, z⟩ := h; ⟨σ', H', S.unsuite ok, z⟩
  | brk => exact let ⟨σ', H', S, z⟩ := h; ⟨σ', H', S.unsuite ok, z⟩
  | cont => exact let ⟨σ', H', S, z⟩ := h; ⟨σ', H', S.unsuite ok, z⟩
  | ret u => exact let ⟨v, σ', H', S, r, z⟩ := h; ⟨v, σ', H', S.unsuite ok, r, z⟩
theorem goneSP {q : Addr × Obj} {D : Ends} {f : Flow} {M : Model} {A : Around} {E : Value → Shared → Prop} {i : Nat} {n : Str} {hp : Pos} (ok : X.Ok) (hN : X.N.Nodup) (hi : X.N[i]? = some n) (hk : X.env.kindOf n = some .local) (h : SP (X.suite a (q :: (X.pn ++ pins))) [] (Ends.less D i) f s) :
    wpAny M A (do bindName X.env n .none; unbindBehindTheSuite X.env n hp) (fun _ s' => SP X pins D f s') E s := by
  cases f with
  | next => exact let ⟨σ', H', S, z⟩ := h; gone_ok (S.unsuite ok) hN hi hk fun s' J => ⟨_, _, J, z⟩
  | brk => exact let ⟨σ', H', S, z⟩ := h; gone_ok (S.unsuite ok) hN hi hk fun s' J => ⟨_, _, J, z⟩
  | cont => exact let ⟨σ', H', S, z⟩ := h; gone_ok (S.unsuite ok) hN hi hk fun s' J => ⟨_, _, J, z⟩
  | ret u => exact let ⟨v, σ', H', S, r, z⟩ := h; gone_ok (S.unsuite ok) hN hi hk fun s' J => ⟨_, _, _, J, r, z⟩
theorem Held.suite {c : Value} {D : Ends} {b : Stmt} {ss : List Stmt} {ts : Addr → Value → Option Addr → TS} {σ2 : St} {s2 : Shared} (h : Held X pins σ H a cls d s) (hs : SuiteOk X (b :: ss) ts) (oe : Obj) (vs : Array Value) (z : L2N.Zn cls d oe) (dd : oe.data = .fields vs)
    (I : Inv (X.suite a ((a, oe) :: (X.pn ++ pins))) [] σ2 H s2) (w : ts a cls d D σ2 H) {R : Flow → Shared → Prop} {E : Value → Shared → Prop} (q : ∀ f s', SP (X.suite a ((a, oe) :: (X.pn ++ pins))) [] D f s' → R f s') :
    wpAny (model X.prog X.w) (X.A.mark (some (.ref a))) (execs (b :: ss) X.env) R E s2 :=
  wpAny_mono ((hs a oe cls d (X.pn ++ pins) z ⟨vs, dd⟩).run [] s2 σ2 H D I w) q fun _ _ z => False.elim z
/-- the clauses, one behind another -/
theorem Held.go {Wout : WX} {D : Ends} (hst : X.stack = X.env :: X.outer) (tk : L2N.Takes X Wout) {hds : List ExceptHandler} {l : List (Value × ClF)} (hk : ClsOk X hds l) :
    ∀ {s : Shared}, Held X pins σ H a cls d s → wCl X.K Wout D l cls d σ H → wpAny (model X.prog X.w) X.A (handleBy (.ref a) X.env hds) (SP X pins D) X.xe s := by
  have looks : ∀ {s : Shared} {c : Value} {b : Bool}, Held X pins σ H a cls d s → PySem.W.exmOne X.K cls c = some b → PySem.W.Looks (model X.prog X.w) s.heap (excMatches (.ref a) c) b := fun {s c b} h e => by
    obtain ⟨oe, vs, eo, z, _⟩ := h.obj
    exact PySem.W.exm_one h.inv.kIn (fun A Q E s' k q => wpAny_typeOf_ref (k _ _ eo) (by rw [z.1]; exact q)) e
  induction hk with
  | nil =>
    intro s h w
    obtain ⟨B, s0, I, nb, up, fl, os, ag⟩ := h.ex
    refine wpAny_handleBy_nil ?_
    obtain ⟨_, _, _, oe, vs, T, _, _, he, _, hd, h1, _⟩ := id fl
    have away : wpAny (model X.prog X.w) X.A (setFlight (.ref a) X.env.frame) (fun _ s4 => wpAny (model X.prog X.w) X.A (throw (.ref a) : Sem Flow) (SP X pins D) X.xe s4) X.xe s := by
      rw [h.fr]
      exact HandSPX.setFlight_upZ fl fun h4 hh up4 => wpAny_throw (tk _ _ ⟨a, B, s0, pins, σ, H, cls, d, rfl, I, nb, up.trans up4, .inr (.inr (by rw [hst]; exact hh)), h.na, os, ag, w⟩)
    unfold PySem.passOn
    refine wpAny_bind (wpAny_field he hd h1 ?_)
    rw [if_neg (show ¬ ((Value.ref T == Value.none) = true) from by simp)]
    first
      | exact wpAny_bind (wpAny_pure (wpAny_bind away))
      | exact wpAny_bind away
  | plain hc hs r ih =>
    intro s h ⟨b, e, yes, no⟩
    refine wpAny_handleBy_cons (codeAny_handlers_test (h.test hc ((looks h e).here ?_))) (by intro q; cases q)
    cases b with
    | false => exact ih h (no rfl)
    | true =>
      refine codeAny_handlers_suite (h.lay fun s4 h4 => ?_)
      obtain ⟨oe, vs, eo, z, dd, n1, n2⟩ := h4.obj
      exact h4.suite (c := cls) hs oe vs z dd (h4.inv.suite eo dd h4.na n1 n2) (yes rfl a h4.na) fun f s' q => unsuiteSP h4.inv.ok q
  | named hN hi hl hc hs r ih =>
    intro s h ⟨b, e, yes, no⟩
    refine wpAny_handleBy_cons (codeAny_handlers_test (h.test hc ((looks h e).here ?_))) (by intro q; cases q)
    cases b with
    | false => exact ih h (no rfl)
    | true =>
      refine codeAny_handlers_suite_as (h.lay fun s4 h4 => ?_)
      obtain ⟨oe, vs, eo, z, dd, n1, n2⟩ := h4.obj
      have S4 := h4.inv.suite eo dd h4.na n1 n2
      refine store_ok (X := X.suite a ((a, oe) :: (X.pn ++ pins))) (v := .ref a) S4 hN hi (.inl hl) rfl (fun s5 S5 => ?_) (.inr hl)
      exact h4.suite (c := cls) hs oe vs z dd S5 (yes rfl a h4.na) fun f s' q => goneSP h4.inv.ok hN hi hl q
end
section
variable {X : Cx} {body : List Stmt} {h₀ : ExceptHandler} {hds : List ExceptHandler} {l : List (Value × ClF)} {pos : Pos} {tb : WX → TS} {Wout : WX}
theorem ps_tryG (hst : X.stack = X.env :: X.outer) (hf : X.env.frame = some X.env.locals) (tk : L2N.Takes X Wout)
    (hb : ∀ (W : WX) (pn : List (Addr × Obj)) (xe : Value → Shared → Prop), L2N.Takes (X.tr pn xe) W → PassesOwn (model X.prog X.w) X.A X.env xe → PSs (X.tr pn xe) body (tb W))
    (hk : ClsOk X (h₀ :: hds) l) : PS X (.Try body (h₀ :: hds) [] [] pos) (fun D σ H => tb (wCl X.K Wout D l) D σ H) := by
  refine ⟨fun pins s σ H D I h => ?_⟩
  have ok := I.ok
  have hfr : X.A.frames = some (X.env :: X.outer) := by rw [ok.frames, hst]
  refine wpAny_Try_except ?_
  refine wpAny_mono ((hb (wCl X.K Wout D l) (X.pn ++ pins) (fun e s1 => wpAny (model X.prog X.w) X.A (noteFrame e X.env) (fun _ s2 => wpAny (model X.prog X.w) X.A (setFlight e none) (fun _ s3 =>
    wpAny (model X.prog X.w) X.A (handleBy e X.env (h₀ :: hds)) (SP X pins D) X.xe s3) X.xe s2) X.xe s1) (fun u s' xx => ?_) PassesOwn.looking).run [] s σ H D (I.toTry _) h) (fun f s1 q => ?_) fun e s1 he => he
  · obtain ⟨a, B, sI, pins', σ', H', cls, d, rfl, J, nb, up, sky, na, os, ag, w⟩ := xx
    show wpAny (model X.prog X.w) X.A (noteFrame (.ref a) X.env) _ _ _
    have sky' : Sky B (X.env :: X.outer) a (L2N.Zn cls d) X.env.locals s'.heap := by rw [← hst]; exact sky
    exact L2N.Sky.land L2N.Zn.steady hfr hf sky' fun h3 fl up3 => Held.go hst tk hk ⟨⟨B, sI, J.ofTry ok, nb, up.trans up3, fl, os, ag⟩, na, hf⟩ w
  · cases f with
    | next => exact let ⟨σ', H', J, z⟩ := q; wpAny_execs_nil ⟨σ', H', J.ofTry ok, z⟩
    | brk => exact let ⟨σ', H', J, z⟩ := q; ⟨σ', H', J.ofTry ok, z⟩
    | cont => exact let ⟨σ', H', J, z⟩ := q; ⟨σ', H', J.ofTry ok, z⟩
    | ret u => exact let ⟨v, σ', H', J, r, z⟩ := q; ⟨v, σ', H', J.ofTry ok, r, z⟩
end
end L2.Fk
set_option Elab.async false
set_option linter.all false
set_option maxRecDepth 100000
set_option maxHeartbeats 4000000
/-! in an except suite: a comprehension over a range, isinstance of what was caught, its fields -/
namespace L2.Fk
open PySem PySem.Spec PyProof.Rows
/-- the block's context, the handled exception kept in sight -/
abbrev blkH (X : Cx) (s : Shared) (H : Hp) (sc : Scope) (ce : Env) (fp : List Addr) (p : Addr × Obj) : Cx := { X.blk s H sc ce fp with pn := [p] }
section
variable {X : Cx} {s0 : Shared} {H0 : Hp} {sc : Scope} {ce : Env} {fp : List Addr} {p : Addr × Obj} {pins : List (Addr × Obj)} {σ : St} {H : Hp} {s : Shared}
theorem toH (I : Inv (X.blk s0 H0 sc ce fp) (p :: pins) σ H s) : Inv (blkH X s0 H0 sc ce fp p) pins σ H s :=
  ⟨⟨I.ok.mod, I.ok.kind, I.ok.glob, I.ok.blt, I.ok.above, I.ok.inj, I.ok.has, I.ok.cab, I.ok.hd, I.ok.frames, I.ok.stk, I.ok.exf, I.ok.bs, I.ok.bsz, I.ok.noex, I.ok.exfs, I.ok.funs, I.ok.frf⟩, I.os, I.bare, I.base, I.loc, I.cell, I.free, I.freeC, I.pin, I.hok, I.len⟩
theorem ofH (I : Inv (blkH X s0 H0 sc ce fp p) pins σ H s) : Inv (X.blk s0 H0 sc ce fp) (p :: pins) σ H s :=
  ⟨⟨I.ok.mod, I.ok.kind, I.ok.glob, I.ok.blt, I.ok.above, I.ok.inj, I.ok.has, I.ok.cab, I.ok.hd, I.ok.frames, I.ok.stk, I.ok.exf, I.ok.bs, I.ok.bsz, I.ok.noex, I.ok.exfs, I.ok.funs, I.ok.frf⟩, I.os, I.bare, I.base, I.loc, I.cell, I.free, I.freeC, I.pin, I.hok, I.len⟩
end
open HotX L2H in
/-- [elt for tg in range(..) if ..] while an exception is handled -/
theorem pe_lcH {X : Cx} {elt tg iter : Expr} {ifs : List Expr} {scope : Scope} {own : List (Str × Nat)} {pos : Pos} {wi : TI} {g : TG} {tt : TT} {te : TE} {p : Addr × Obj} (hp : p ∈ X.pn) (hot : Hot1 X.A p) (hst : X.stack = X.env :: X.outer) (hfr : X.env.frame = some X.env.locals)
    (hN : X.N.Nodup) (hi : PIH X tg iter wi) (ok : BlkOk X.N X.env.scope scope own)
    (hg : ∀ (s : Shared) (H : Hp) (C : Addr) (cl : List (Str × Addr)) (fp : List Addr), PG (blkH X s H scope (compEnvC scope cl C X.env) fp p) tg g) (ht : ∀ (s : Shared) (H : Hp) (C : Addr) (cl : List (Str × Addr)) (fp : List Addr), PTs (blkH X s H scope (compEnvC scope cl C X.env) fp p) ifs tt)
    (he : ∀ (s : Shared) (H : Hp) (C : Addr) (cl : List (Str × Addr)) (fp : List Addr), PE (blkH X s H scope (compEnvC scope cl C X.env) fp p) elt te) (hs : ∀ x, foldedSetIterable iter X.env x = pure x := by intro _; rfl) :
    PE X (.ListComp elt [⟨tg, iter, ifs, 0⟩] scope pos) (tLc wi g tt te (own.map (·.2))) := by
  refine ⟨fun pins s σ H Q I h => ?_⟩
  rw [eval_ListComp]
  have hcl : ∀ y ∈ scope.names, y.2 = .free → ∃ c, X.env.cells.lookup y.1 = some c := fun y hy e => (ok.free y hy e).elim (fun k => I.ok.has _ (.inl k)) fun k => I.ok.has _ (.inr k)
  refine wpAny_comprehension_free (use := none) rfl hs (closure_ok hcl) ok.kind (fun y hy e => by rw [ok.uniq y hy, e]) (thn (hi.run pins s σ H _ I h) fun xv s1 hx => thn hx fun itv s2 ⟨it, fp, tn, J, H2, e, I2, T, st2, f2, q⟩ => ?_)
  subst e
  refine wpAny_newObj_type (newEnv_comp ?_) (by show 0 ≤ sizeLine; decide)
  have hDn : H2 s2.heap.objs.size = none := I2.fresh
  obtain ⟨W, ⟨m0, w0⟩, turn⟩ := q _ hDn
  have I3 := Inv.lnew (ys := []) (t' := s2.toks) I2 .nil (Nat.zero_le _)
  obtain ⟨D, hD⟩ : ∃ D, D = s2.heap.objs.size := ⟨_, rfl⟩
  rw [← hD] at hDn w0 turn I3
  obtain ⟨s3, hs3⟩ : ∃ s3 : Shared, s3 = { s2 with heap := s2.heap.push { cls := .type "list", data := .seq ([] : List Value).toArray } } := ⟨_, rfl⟩
  have k23 : ∀ b o, s2.heap.get? b = some o → s3.heap.get? b = some o := fun b o e => by rw [hs3]; exact Heap.get?_push_of_some _ e
  have sz3 : s3.heap.objs.size = s2.heap.objs.size + 1 := by rw [hs3]; exact Heap.size_push ..
  have fp3 : ∀ b ∈ fp, FpOk X pins (upd H2 D (.lst [])) b ∧ b < s3.heap.objs.size := fun b hb => by
    obtain ⟨o, eo, _⟩ := T.obj _ _ st2 b hb
    have lt := Heap.lt_size eo
    exact ⟨⟨by rw [upd_ne (by rw [hD]; exact Nat.ne_of_lt lt)]; exact (f2 b hb).1, (f2 b hb).2⟩, by rw [sz3]; exact Nat.lt_succ_of_lt lt⟩
  have st3 : tn 0 s3.heap := T.keep _ _ _ st2 fun b _ => k23 b
  have I3' : Inv X pins σ (upd H2 D (.lst [])) s3 := by rw [hs3]; exact I3
  have I4 := block_start I3' ok hN fp3
  obtain ⟨pe0, pe1, pe2, pe3, pe4⟩ := I3'.pin p (List.mem_append_left _ hp)
  have pg := hg s3 (upd H2 D (.lst [])) s3.heap.objs.size (cellsFrom (s3.heap.objs.size + 1) scope.names (cloFrom X.env.cells scope.names [])) fp
  have pt := ht s3 (upd H2 D (.lst [])) s3.heap.objs.size (cellsFrom (s3.heap.objs.size + 1) scope.names (cloFrom X.env.cells scope.names [])) fp
  have px := he s3 (upd H2 D (.lst [])) s3.heap.objs.size (cellsFrom (s3.heap.objs.size + 1) scope.names (cloFrom X.env.cells scope.names [])) fp
  have eL : (compEnvC scope (cellsFrom (s3.heap.objs.size + 1) scope.names (cloFrom X.env.cells scope.names [])) s3.heap.objs.size X.env).locals = s3.heap.objs.size := rfl
  rw [← hD, ← hs3]
  show codeAny _ _ (.compStart (.ListComp elt [⟨tg, iter, ifs, 0⟩] scope pos) 0 (.ref it) (.ref D) (compEnvC scope (cellsFrom (s3.heap.objs.size + 1) scope.names (cloFrom X.env.cells scope.names [])) s3.heap.objs.size X.env)) (compPost (model X.prog X.w) X.A X.xe none _ (.ref D) s3.heap.objs.size) { s3 with heap := pushCells (s3.heap.push { cls := .type "dict", data := .dict #[] }) scope.names }
  obtain ⟨ce, hce⟩ : ∃ ce, ce = compEnvC scope (cellsFrom (s3.heap.objs.size + 1) scope.names (cloFrom X.env.cells scope.names [])) s3.heap.objs.size X.env := ⟨_, rfl⟩
  obtain ⟨s4, hs4⟩ : ∃ s4 : Shared, s4 = { s3 with heap := pushCells (s3.heap.push { cls := .type "dict", data := .dict #[] }) scope.names } := ⟨_, rfl⟩
  rw [← hce] at I4 pg pt px eL ⊢
  rw [← hs4] at I4 ⊢
  have k34 : ∀ b o, s3.heap.get? b = some o → s4.heap.get? b = some o := fun b o e => by rw [hs4]; exact pushCells_keeps _ _ _ _ (Heap.get?_push_of_some _ e)
  have stk : ∀ b, b ∈ frs X.stack → b = X.env.locals ∨ b ∈ X.fs := fun b hb => by
    rw [hst] at hb
    obtain ⟨en, m, z⟩ := List.mem_filterMap.mp hb
    rcases List.mem_cons.mp m with rfl | m
    · rw [hfr] at z
      exact .inl (Option.some.inj z).symm
    · exact .inr (List.mem_filterMap.mpr ⟨en, m, z⟩)
  have Y4 : Inv (blkH X s3 (upd H2 D (.lst [])) scope ce fp p) [] (wipe σ (own.map (·.2))) (upd H2 D (.lst [])) s4 := by
    refine toH (I4.pins_of fun r hr => ?_)
    have hr' : r ∈ ([] : List (Addr × Obj)) ++ [p] := hr
    rw [List.nil_append] at hr'
    rw [List.mem_singleton.mp hr']
    refine ⟨k34 _ _ pe0, pe1, ?_, fun hm => (stk _ hm).elim pe2 pe3, pe4⟩
    show p.1 ≠ ce.locals
    rw [eL]
    exact Nat.ne_of_lt (Heap.lt_size pe0)
  have st4 : tn 0 s4.heap := T.keep _ _ _ st3 fun b _ => k34 b
  have hotY : HotC (blkH X s3 (upd H2 D (.lst [])) scope ce fp p) := ⟨p, hot, List.mem_singleton.mpr rfl⟩
  have stat : ∀ {σ' : St} {H' : Hp} {s' : Shared}, Inv (blkH X s3 (upd H2 D (.lst [])) scope ce fp p) [] σ' H' s' → (∀ b ∈ fp, H' b = none) → ∀ b ∈ fp, FpOk (blkH X s3 (upd H2 D (.lst [])) scope ce fp p) [] H' b := fun {σ' H' s'} I' hn b hb => by
    refine ⟨hn b hb, (I'.ok.exf b hb).1, I'.ok.exfs b hb, .inl hb, fun x c e => (I'.ok.exf b hb).2 x c e, fun r hr => ?_⟩
    have hr' : r ∈ ([p] : List (Addr × Obj)) ++ [] := hr
    rw [List.append_nil] at hr'
    rw [List.mem_singleton.mp hr']
    intro z
    exact (fp3 b hb).1.2.2.2.2.2 p (List.mem_append_left _ hp) z
  have loop : codeAny (model X.prog X.w) X.A (.compLoop (.ListComp elt [⟨tg, iter, ifs, 0⟩] scope pos) 0 (.ref it) (.ref D) ce) (compPost (model X.prog X.w) X.A X.xe none (EP X pins σ Q) (.ref D) s3.heap.objs.size) s4 := by
    refine compLoop_any (fun n s' => ∃ i H', Inv (blkH X s3 (upd H2 D (.lst [])) scope ce fp p) [] (wipe σ (own.map (·.2))) H' s' ∧ tn i s'.heap ∧ (∀ b ∈ fp, H' b = none) ∧ W i n H') ?_ m0 ⟨0, _, Y4, st4, fun b hb => (fp3 b hb).1.1, w0⟩
    rintro n s5 ⟨i, H5, I5, st5, n5, w5⟩
    rcases turn i n H5 w5 with ⟨stop, qq⟩ | ⟨go, Nx, hNx, step⟩
    · refine thnF (T.done (blkH X s3 (upd H2 D (.lst [])) scope ce fp p) rfl rfl rfl hotY i [] s5 _ H5 (fun _ _ => False) I5 (stat I5 n5) st5 stop) fun r s6 ⟨hr, I6⟩ => ?_
      subst hr
      have I7 : Inv X pins σ H5 s6 := I3'.call' (ch := fp) I6.os I6.base I6.hok I6.bare fun b hb => ⟨(fp3 b hb).1.2.2.2.1, (fp3 b hb).1.2.1, (fp3 b hb).1.2.2.2.2.1, (fp3 b hb).1.2.2.2.2.2⟩
      have nC : H5 s3.heap.objs.size = none := by rw [← eL]; exact I6.free
      obtain ⟨m, hn, _⟩ := I6.loc
      have hn' : s6.heap.Ns ce.locals m := hn
      rw [eL] at hn'
      obtain ⟨f0, f1, f2', f3, f4, f5⟩ := I3'.fpOk (Nat.le_refl _) nC
      exact ⟨m, hn', fun h'' sb => ⟨.ref D, H5, I7.turned (t' := s6.toks) (fun b o hb e => (sb.2 b hb).trans e) f0 f1 f3 f4 f5, rfl, qq⟩⟩
    · refine thnF (T.item (blkH X s3 (upd H2 D (.lst [])) scope ce fp p) rfl rfl rfl hotY i [] s5 _ H5 (fun _ _ => False) I5 (stat I5 n5) st5 go) fun r s6 ⟨u, hr, h6⟩ => ?_
      subst hr
      refine thnF h6 fun _ s7 ⟨x, H7, I7, r7, y7, st7, n7⟩ => ?_
      refine thnF (pg.run _ s7 _ H7 x u _ (I7.pinned (stat I7 n7) (T.obj _ _ st7)) r7 (step x H7 y7)) fun _ s8 ⟨σ8, H8, I8, hw8, q8⟩ => ?_
      refine thnF (pt.run _ s8 σ8 H8 _ I8 q8) fun b s9 ⟨H9, I9, q9⟩ => ?_
      have fin : ∀ {s' : Shared} {H' : Hp}, Inv (blkH X s3 (upd H2 D (.lst [])) scope ce fp p) ([] ++ pinsAt fp s7.heap) σ8 H' s' → Nx H' → ∃ m, m < n ∧ ∃ i H', Inv (blkH X s3 (upd H2 D (.lst [])) scope ce fp p) [] (wipe σ (own.map (·.2))) H' s' ∧ tn i s'.heap ∧ (∀ b ∈ fp, H' b = none) ∧ W i m H' := fun {s' H'} I' nx => by
        obtain ⟨m', hm, w'⟩ := hNx H' nx
        have kept : ∀ b ∈ fp, ∀ o, s7.heap.get? b = some o → s'.heap.get? b = some o ∧ H' b = none := fun b hb o e => ⟨(I'.pin (b, o) (List.mem_append_right _ (List.mem_append_right _ (mem_pinsAt hb e)))).1, (I'.pin (b, o) (List.mem_append_right _ (List.mem_append_right _ (mem_pinsAt hb e)))).2.1⟩
        refine ⟨m', hm, i + 1, H', I'.unpinned.weak (by rw [← hw8, wipe_length]) fun j v e => ?_, T.keep _ _ _ st7 fun b hb o e => (kept b hb o e).1, fun b hb => ?_, w'⟩
        · rw [← hw8] at e
          exact (wipe_some e).1
        · obtain ⟨o, e, _⟩ := T.obj _ _ st7 b hb
          exact (kept b hb o e).2
      cases b with
      | false => exact fin I9 q9
      | true => exact thnF (px.run _ s9 σ8 H9 _ I9 q9) fun z s10 ⟨yv, H10, I10, r10, acc, hD10, hz10, nx⟩ => app_ok (X := blkH X s3 (upd H2 D (.lst [])) scope ce fp p) I10 hD10 hz10 r10 fun s11 I11 => fin I11 nx
  exact codeAny_compStart_list loop (T.self X.A 0 _ _ _ st4 loop)

/-! ### isinstance of the caught exception, with a dict of its own or none -/
def XDict (H : Hp) (d : Option Addr) : Prop := d = none ∨ ∃ dd fs, d = some dd ∧ H dd = some (.xd fs)
def rIsX (K : PySem.W.Frag) (a : Addr) (cls : Value) (d : Option Addr) : List V → Hp → VK → Prop := fun xs H Q => ∃ (C : Addr) (c : V) (cv : Value) (b : Bool), xs = [.ref a, c] ∧ cls = .ref C ∧ ExcC K C ∧ XDict H d ∧ (∀ u, RelV c u → u = cv) ∧ PySem.W.kitOne K cls cv = some b ∧ Q (.bl b) H
theorem call_isX {X : Cx} {K : PySem.W.Frag} {a : Addr} {oe : Obj} {cls : Value} {d : Option Addr} {pn : List (Addr × Obj)} (hK : X.K = K) (hz : L2N.Zn cls d oe) (hf : ∃ vs, oe.data = .fields vs) : CallR (X.suite a ((a, oe) :: pn)) (.builtin "isinstance") (rIsX K a cls d) := by
  subst hK
  intro pins s σ H xs us Q I r h
  obtain ⟨C, c, cv, b, rfl, rfl, EC, xd, hcv, e, q⟩ := h
  obtain ⟨u, v, rfl, ru, rv⟩ := Vals.two r
  obtain rfl : u = .ref a := ru
  obtain rfl := hcv _ rv
  obtain ⟨hget, _⟩ := I.pin (a, oe) (List.mem_append.mpr (.inl List.mem_cons_self))
  obtain ⟨vs, hv⟩ := hf
  have J : ∃ od, PySem.W.InstAt s.heap a oe C od := by
    rcases xd with rfl | ⟨dd, fs, rfl, hx⟩
    · exact ⟨none, hget, hz.1, by unfold PySem.W.notCls; rw [hv] <;> rfl, by rw [hz.2.1]; trivial⟩
    · obtain ⟨mA, hns, hr⟩ := (show ObjOk X.prog X.w H s.heap dd (.xd fs) from I.hok dd _ hx)
      obtain ⟨od, ho, hl⟩ := lookIn_ns hns
      exact ⟨some od, hget, hz.1, by unfold PySem.W.notCls; rw [hv] <;> rfl, by rw [hz.2.1]; exact ho⟩
  obtain ⟨od, J⟩ := J
  have hcl : (PySem.W.clsIn X.K C).isSome = true := by
    obtain ⟨cd, hc, _⟩ := PySem.W.any_some EC.hd
    rw [hc]; rfl
  exact PySem.W.kia_one (PySem.W.kitx_exc (od := od) hcl EC.hg EC.hk EC.hs EC.ha EC.hn EC.ht EC.hm) I.kIn J e (fun z => nomatch z) fun tk => ⟨.bl b, H, I.kept (t' := tk) fun _ _ z => z, rfl, q⟩
/-- e.f of what was caught -/
theorem pe_xfG {X : Cx} {K : PySem.W.Frag} {a C : Addr} {oe : Obj} {cls : Value} {d : Option Addr} {pn : List (Addr × Obj)} {e : Expr} {te : TE} {pos : Pos} {n : Str} (hK : X.K = K) (T : XfC K C) (hno : PySem.W.findIn K (.ref C) n = some none) (hz : L2N.Zn cls d oe) (hf : ∃ vs, oe.data = .fields vs) (he : PE (X.suite a ((a, oe) :: pn)) e te)
    (hb : attributeBase e n X.env (eval e X.env) = eval e X.env := by rfl) : PE (X.suite a ((a, oe) :: pn)) (.Attribute e n pos) (tXf a cls d C n te) := by
  subst hK
  exact pe_xf T hno ⟨hz.1, hz.2.1⟩ hf he hb
end L2.Fk
set_option Elab.async false
set_option linter.all false
set_option maxRecDepth 100000
set_option maxHeartbeats 4000000
/-! the errors of the text, by name -/
namespace L2.Fk
open PySem PySem.Spec PyProof.Rows
/-- where a module's name points -/
def cOf (mg : Str → Option Value) (x : Str) : Addr := match mg x with
  | some (.ref a) => a
  | _ => 0
/-- an error class of the text -/
structure ErrX (K : PySem.W.Frag) (mg : Str → Option Value) (x : Str) (fs : List Str) : Prop where
  g : mg x = some (.ref (cOf mg x))
  xf : XfC K (cOf mg x)
  ec : ExcC K (cOf mg x)
  no : ∀ f ∈ fs, PySem.W.findIn K (.ref (cOf mg x)) f = some none
open L2H in
theorem hot_of {A : Around} {a : Addr} {oe : Obj} {cls : Value} {d : Option Addr} (hz : L2N.Zn cls d oe) (hf : ∃ vs, oe.data = .fields vs) : Hot1 (A.mark (some (.ref a))) (a, oe) := by
  obtain ⟨vs, e⟩ := hf
  exact ⟨rfl, vs, e, hz.2.2 vs e⟩
theorem boot_isinstance : bootBuiltins "isinstance" = some (.builtin "isinstance") := by decide +kernel
section
variable {σ : St} {H : Hp} {D : Ends} {ta : TA}
theorem in_raise {W : WX} {t : St → Hp → XK → Prop} (h : t σ H fun c d H' => W c d σ H') : sRaise W t D σ H := h
theorem in_mkx {T : TbX} {x : Str} {sp : SpX} {Q : XK} (e : T x sp) (h : ta σ H fun vs H1 => sp vs H1 Q) : tMkX T x ta σ H Q := ⟨sp, e, h⟩
theorem in_clAs {i : Nat} {ts : Addr → Value → Option Addr → TS} {a : Addr} {cls : Value} {d : Option Addr} (h : ts a cls d (Ends.less D i) (σ.set i (some (.ref a))) H) : clAs i ts D a cls d σ H := h
theorem in_clPlain {ts : Addr → Value → Option Addr → TS} {a : Addr} {cls : Value} {d : Option Addr} (h : ts a cls d D σ H) : clPlain ts D a cls d σ H := h
theorem wCl_hit {K : PySem.W.Frag} {W : WX} {l : List (Value × ClF)} {c cls : Value} {f : ClF} {d : Option Addr} (e : PySem.W.exmOne K cls c = some true) (h : ∀ a, H a = none → f D a cls d σ H) : wCl K W D ((c, f) :: l) cls d σ H :=
  ⟨true, e, fun _ => h, fun z => by cases z⟩
theorem wCl_miss {K : PySem.W.Frag} {W : WX} {l : List (Value × ClF)} {c cls : Value} {f : ClF} {d : Option Addr} (e : PySem.W.exmOne K cls c = some false) (h : wCl K W D l cls d σ H) : wCl K W D ((c, f) :: l) cls d σ H :=
  ⟨false, e, (fun z => by cases z), fun _ => h⟩
theorem in_xf {a C : Addr} {cls : Value} {d : Option Addr} {f : Str} {te : TE} {Q : VK} (h : te σ H fun x H1 => x = .ref a ∧ cls = .ref C ∧ ∃ (dd : Addr) (fs : List (Str × V)) (v : V), d = some dd ∧ H1 dd = some (.xd fs) ∧ fs.lookup f = some v ∧ Q v H1) : tXf a cls d C f te σ H Q := h
theorem in_xfv {a C dd : Addr} {f : Str} {Q : VK} {fs : List (Str × V)} {v : V} (h : H dd = some (.xd fs)) (l : fs.lookup f = some v) (q : Q v H) : V.ref a = .ref a ∧ Value.ref C = .ref C ∧ ∃ (d' : Addr) (fs : List (Str × V)) (v : V), some dd = some d' ∧ H d' = some (.xd fs) ∧ fs.lookup f = some v ∧ Q v H :=
  ⟨rfl, rfl, dd, fs, v, rfl, h, l, q⟩
end
theorem XDict.new {H : Hp} {d : Option Addr} {p : Addr} {o : HO} (h : XDict H d) (hp : H p = none) : XDict (upd H p o) d := by
  rcases h with h | ⟨dd, fs, e, q⟩
  · exact .inl h
  · exact .inr ⟨dd, fs, e, (upd_ne (ne_of_none q hp)).trans q⟩
theorem XDict.same {H H' : Hp} {d : Option Addr} (h : XDict H d) (s : Same H H') : XDict H' d := by
  rcases h with h | ⟨dd, fs, e, q⟩
  · exact .inl h
  · exact .inr ⟨dd, fs, e, s _ _ q⟩
theorem in_isx {K : PySem.W.Frag} {a C D : Addr} {d : Option Addr} {b : Bool} {H : Hp} {Q : VK} (ec : ExcC K C) (k : PySem.W.kitOne K (.ref C) (.ref D) = some b) (x : XDict H d) (q : Q (.bl b) H) : rIsX K a (.ref C) d [.ref a, .ref D] H Q :=
  ⟨C, .ref D, .ref D, b, rfl, rfl, ec, x, fun u h => h, k, q⟩
theorem in_isxT {K : PySem.W.Frag} {a C : Addr} {T : String} {d : Option Addr} {b : Bool} {H : Hp} {Q : VK} (ec : ExcC K C) (k : PySem.W.kitOne K (.ref C) (.type T) = some b) (x : XDict H d) (q : Q (.bl b) H) : rIsX K a (.ref C) d [.ref a, .ty T] H Q :=
  ⟨C, .ty T, .type T, b, rfl, rfl, ec, x, fun u h => h, k, q⟩
theorem ne_new {H : Hp} {a p : Addr} {o : HO} (h : H p = none) (e : H a = some o) : a ≠ p := ne_of_none e h
theorem ne_old {H : Hp} {a p : Addr} {o : HO} (h : H p = none) (e : H a = some o) : p ≠ a := Ne.symm (ne_of_none e h)
end L2.Fk
set_option Elab.async false
set_option linter.all false
set_option maxRecDepth 100000
set_option maxHeartbeats 4000000
/-! lists of plain values compared -/
namespace L2.Fk
open PySem PySem.Spec PyProof.Rows
def okV : V → Bool
  | .non => true
  | .bl _ => true
  | .int _ => true
  | .str x => PyData.canLay0 (.str x)
  | _ => false
def dV : V → PyData
  | .bl b => .bool b
  | .int i => .int i
  | .str x => .str x
  | _ => .none
section
variable {K : PySem.W.Frag} {H : Hp}
theorem dp_ok : ∀ {v : V}, okV v = true → Dp K H v (dV v)
  | .non, _ => .non
  | .bl b, _ => .bl b
  | .int i, _ => .int i
  | .str x, _ => .str x
theorem lay_ok : ∀ {v : V}, okV v = true → (dV v).canLay0 = true ∧ (dV v).depth = 0 ∧ PyData.eqv (dV v) (dV v) = true
  | .non, _ => ⟨rfl, rfl, rfl⟩
  | .bl b, _ => ⟨rfl, rfl, by cases b <;> rfl⟩
  | .int i, _ => ⟨rfl, rfl, by show (i == i) = true; exact beq_self_eq_true i⟩
  | .str x, h => ⟨h, rfl, by show (x == x) = true; exact beq_self_eq_true x⟩
theorem dpAll_ok : ∀ {xs : List V}, xs.all okV = true → DpAll K H xs (xs.map dV)
  | [], _ => .nil
  | v :: r, h => by
    rw [List.all_cons, Bool.and_eq_true] at h
    exact .cons (dp_ok h.1) (dpAll_ok h.2)
theorem layAll_ok : ∀ {xs : List V}, xs.all okV = true → PyData.canLayAll0 (xs.map dV) = true ∧ PyData.depthAll (xs.map dV) = 0 ∧ PyData.eqvAll (xs.map dV) (xs.map dV) = true
  | [], _ => ⟨rfl, rfl, rfl⟩
  | v :: r, h => by
    rw [List.all_cons, Bool.and_eq_true] at h
    obtain ⟨a, b, c⟩ := lay_ok h.1
    obtain ⟨a2, b2, c2⟩ := layAll_ok h.2
    refine ⟨?_, ?_, ?_⟩
    · show (PyData.canLay0 (dV v) && PyData.canLayAll0 (r.map dV)) = true
      rw [a, a2]; rfl
    · show max (PyData.depth (dV v)) (PyData.depthAll (r.map dV)) = 0
      rw [b, b2]; rfl
    · show (PyData.eqv (dV v) (dV v) && PyData.eqvAll (r.map dV) (r.map dV)) = true
      rw [c, c2]; rfl
theorem shaped_ok {xs : List V} (h : xs.all okV = true) : SeqAt.shaped (.list (xs.map dV)) = true := by
  obtain ⟨a, b, _⟩ := layAll_ok h
  unfold SeqAt.shaped
  have h1 : PyData.canLay0 (.list (xs.map dV)) = true := by rw [PyData.canLay0]; exact a
  have h2 : PyData.depth (.list (xs.map dV)) = 1 := by rw [PyData.depth, b]
  rw [h1, h2]
  rfl
/-- two lists of the same plain values -/
theorem in_neL {p q : Addr} {xs : List V} {Q : VK} (h1 : SqL K H p xs) (h2 : SqL K H q xs) (ok : xs.all okV = true) (h : Q (.bl false) H) : rNeM K (.ref p) (.ref q) H Q := by
  refine .inr ⟨.list (xs.map dV), .list (xs.map dV), .lst h1 (dpAll_ok ok), .lst h2 (dpAll_ok ok), shaped_ok ok, shaped_ok ok, ?_⟩
  have e : PyData.eqv (.list (xs.map dV)) (.list (xs.map dV)) = true := by rw [PyData.eqv]; exact (layAll_ok ok).2.2
  rw [e]
  exact h
end
theorem nm_str {z : Str} (h : isNm z) : PyData.canLay0 (.str z) = true := by
  show (z.cps.all fun x => decide (x < 0x110000)) = true
  rw [← Array.all_toList, List.all_eq_true]
  intro c hc
  have := (h.2.2 c hc).2
  exact decide_eq_true (by omega)
/-- a def keeps its promise, as the law's own def is asked for -/
theorem okOf {P : Program} {w : World} {K : PySem.W.Frag} {mg : Str → Option Value} {base : Heap} {k : Nat} {x : Str} {st : Stmt} {N ps : List Str} {sp : Sp} {f : Addr} {fd : FuncData} (F : FnP K x x st f fd) (S : FnScope N ps (defScope st))
    (len : ∀ vs H Q E, sp vs H Q E → vs.length = ps.length)
    (hbody : ∀ (f : Addr) (cdv : Value) (A : Around) (outer : List Env) (s : Shared) (H : Hp) (vs : List V) (Q : VK) (E : XK), Room k (A.deeper (envOfC x (defScope st) s.heap.objs.size f cdv)) →
      Gd (cxOf (L2N.CX P w) P w K mg base N x (defScope st) f cdv A outer s H E) (tbAt P w K mg base k) (fun cls d _ H => E cls d H) →
      GdX (cxOf (L2N.CX P w) P w K mg base N x (defScope st) f cdv A outer s H E) (tbxAt P w K mg base k) → sp vs H Q E →
      ∃ t, PSs (cxOf (L2N.CX P w) P w K mg base N x (defScope st) f cdv A outer s H E) (defBody st) t ∧ t { nx := fun _ H' => Q .non H', rt := Q } (start N vs) H) : FnOk P w K mg base (L2N.CX P w) (k + 1) f fd ps sp :=
  F.ok S len fun cdv A outer s H vs Q E hr h => hbody f cdv A outer s H vs Q E hr ⟨⟨k, hr, tbAt.ok⟩, L2N.takes_of rfl rfl rfl rfl⟩ ⟨⟨k, hr, fun _ _ h => h⟩⟩ h
end L2.Fk
set_option Elab.async false
set_option linter.all false
set_option maxRecDepth 100000
set_option maxHeartbeats 4000000
/-! what the run of the text's top leaves: one hook, checks that are computed -/
namespace L2.Fk
open PySem PySem.Spec PyProof.Rows
def clsBody : Stmt → List Stmt
  | .ClassDef _ _ _ b _ _ _ _ _ _ _ => b
  | _ => []
def inClass (st : Stmt) (j : Nat) : Stmt := (clsBody st).getD j (.Pass ⟨0, 0, 0, 0⟩)
/-! ### the hook -/
def asX (g : Addr → Option Obj) : Nat → List Addr
  | 0 => [mainGlobals, cStatics]
  | n + 1 => He.growD g (asX g n)
abbrev FnE : Type := Option (Str × Str × Arguments × FuncBody × Scope × Addr × List Str × Addr)
/-- an error class's __init__ -/
def fnE (K : PySem.W.Frag) (x : Str) : FnE := match K.lookup (He.ma K (He.ga K x) "__init__") with
  | some ⟨_, _, .func fd, _⟩ => some (fd.name, fd.qualname, fd.params, fd.body, fd.scope, fd.globals, fd.closure.map (·.1), fd.builtins)
  | _ => none
def valE (st : Stmt) (q : Str) : FnE := some ("__init__", q, defArgs st, .stmts (defBody st), defScope st, mainGlobals, ["__class__"], builtinsNs)
/-- what is known of a fragment: defs, facts, a check, the error classes' __init__s -/
structure Kn where
  fa : List He.Fa
  fn : List He.DefD
  chk : PySem.W.Frag → Bool
  er : List (Str × Str × Stmt)
abbrev AlX : Type := He.AlD × Bool × List FnE
def Kn.obs (k : Kn) (K : PySem.W.Frag) : AlX := (He.obsD k.fa k.fn K, k.chk K, k.er.map fun e => fnE K e.1)
def Kn.val (k : Kn) : AlX := (He.valD k.fn, true, k.er.map fun e => valE e.2.2 e.2.1)
def Kn.obsG (k : Kn) (n : Nat) (g : Addr → Option Obj) : AlX := k.obs (He.frG g (asX g n))
def hookX (n : Nat) (k : Kn) : PySem.W.Hook where
  α := AlX
  obs := fun s => k.obsG n s.heap.get?
  val := fun _ => k.val
  says := fun _ h => ∃ K : PySem.W.Frag, K.In h ∧ k.obs K = k.val
  of := fun _ _ e => ⟨_, He.frG_in, e⟩
  keeps := fun _ _ _ ⟨K, hK, c⟩ kk => ⟨K, PySem.W.Frag.In.keeps hK kk, c⟩
theorem obsX_eq {n : Nat} {k : Kn} {g : Addr → Option Obj} {s : Shared} (h : ∀ a, g a = s.heap.get? a) : k.obsG n g = (hookX n k).obs s := by
  have e : g = s.heap.get? := funext h
  rw [e] <;> rfl
section
variable {k : Kn} {K : PySem.W.Frag}
theorem Kn.says (c : k.obs K = k.val) : He.SaysD k.fa k.fn K := congrArg (fun z : AlX => z.1) c
theorem Kn.check (c : k.obs K = k.val) : k.chk K = true := congrArg (fun z : AlX => z.2.1) c
theorem Kn.init (c : k.obs K = k.val) (i : Nat) {x q : Str} {st : Stmt} (h : k.er[i]? = some (x, q, st)) : fnE K x = valE st q := by
  have e : k.er.map (fun e => fnE K e.1) = k.er.map fun e => valE e.2.2 e.2.1 := congrArg (fun z : AlX => z.2.2) c
  have e2 := congrArg (fun l : List FnE => l[i]?) e
  simpa [List.getElem?_map, h] using e2
end
/-! ### error classes -/
def excCB (K : PySem.W.Frag) (C : Addr) : Bool := decide (PySem.W.findIn K (.ref C) "__getattribute__" = some (some (.builtin "BaseException.__getattribute__"))) && (decide (PySem.W.findIn K (.ref C) "__getattr__" = some none) && (decide (PySem.W.subIn K (.ref C) (.type "BaseException") = some true) &&
  (PySem.W.hasDictIn K C && (decide (PySem.W.findIn K (.ref C) "__class__" = some (some (.builtin "object.__class__"))) && (decide (PySem.W.specialIn K (.builtin "object.__class__") "__get__" = some (some (.builtin "getset_descriptor.__get__"))) &&
  (decide (PySem.W.takesIn K (.builtin "object.__class__") = some true) && decide (PySem.W.mroIn K C (.type "object") = some true)))))))
theorem excCB_ok {K : PySem.W.Frag} {C : Addr} (h : excCB K C = true) : ExcC K C := by
  obtain ⟨h1, h⟩ := He.ba h
  obtain ⟨h2, h⟩ := He.ba h
  obtain ⟨h3, h⟩ := He.ba h
  obtain ⟨h4, h⟩ := He.ba h
  obtain ⟨h5, h⟩ := He.ba h
  obtain ⟨h6, h⟩ := He.ba h
  obtain ⟨h7, h8⟩ := He.ba h
  exact ⟨of_decide_eq_true h1, of_decide_eq_true h2, of_decide_eq_true h3, h4, of_decide_eq_true h5, of_decide_eq_true h6, of_decide_eq_true h7, of_decide_eq_true h8⟩
def errB (K : PySem.W.Frag) (x : Str) (fs : List Str) : Bool := He.eqO (PySem.W.nsIn K mainGlobals x) (some (some (.ref (He.ga K x)))) && (xfB K (He.ga K x) && (excCB K (He.ga K x) && fs.all fun f => He.eqO (PySem.W.findIn K (.ref (He.ga K x)) f) (some none)))
theorem errB_ok {K : PySem.W.Frag} {h : Heap} {mg : Str → Option Value} {x : Str} {fs : List Str} (X : K.In h) (G : h.Ns mainGlobals mg) (c : errB K x fs = true) : cOf mg x = He.ga K x ∧ ErrX K mg x fs := by
  obtain ⟨h1, c⟩ := He.ba c
  obtain ⟨h2, c⟩ := He.ba c
  obtain ⟨h3, h4⟩ := He.ba c
  have e : mg x = some (.ref (He.ga K x)) := PySem.W.mg_of X G (He.eqO_ok h1)
  have e2 : cOf mg x = He.ga K x := by unfold cOf; rw [e]
  refine ⟨e2, by rw [e2]; exact e, by rw [e2]; exact xfB_ok h2, by rw [e2]; exact excCB_ok h3, fun f hf => ?_⟩
  rw [e2]
  exact He.eqO_ok (List.all_eq_true.mp h4 f hf)
def clsB (K : PySem.W.Frag) (C : Addr) : Bool := match K.lookup C with
  | some ⟨.type "type", _, .cls cd, sl⟩ => (match cd.mro, sl.toList with
    | .ref C' :: bm, [_, _, _, _, some (.builtin n), _] => (C' == C) && ((n == "ValueError.__new__") && ((!cd.hasDel) && (cd.hasDict && HandSPX.refsVE bm)))
    | _, _ => false)
  | _ => false
def errClsB (K : PySem.W.Frag) (C : Addr) : Bool := clsB K C && (decide (PySem.W.findIn K (.ref C) "__setattr__" = some (some (.builtin "object.__setattr__"))) && (decide (PySem.W.subIn K (.ref C) (.type "BaseException") = some true) && (decide (PySem.W.typeIn K (.ref C) = some (.type "type")) && (PySem.W.keepIn K (.ref C) &&
  decide (PySem.W.ks_superIn K C C "__init__" = some (some (.builtin "ValueError.__init__")))))))
theorem errClsB_ok {K : PySem.W.Frag} {C : Addr} (h : errClsB K C = true) : ErrCls K C := by
  obtain ⟨h1, h⟩ := He.ba h
  obtain ⟨h2, h⟩ := He.ba h
  obtain ⟨h3, h⟩ := He.ba h
  obtain ⟨h4, h⟩ := He.ba h
  obtain ⟨h5, h6⟩ := He.ba h
  refine ⟨?_, of_decide_eq_true h2, of_decide_eq_true h3, of_decide_eq_true h4, h5, of_decide_eq_true h6⟩
  unfold clsB at h1
  split at h1
  · rename_i dd cd sl ho
    split at h1
    · rename_i C' bm k0 k1 k2 k3 n k5 hm hs
      obtain ⟨g1, h1⟩ := He.ba h1
      obtain ⟨g2, h1⟩ := He.ba h1
      obtain ⟨g3, h1⟩ := He.ba h1
      obtain ⟨g4, g5⟩ := He.ba h1
      replace g1 := beq_iff_eq.mp g1
      replace g2 := beq_iff_eq.mp g2
      replace g3 : cd.hasDel = false := by simpa using g3
      obtain ⟨nm, bs, mro, ns, qn, hd, sn, sub, ab, col, del⟩ := cd
      dsimp only at hm g3 g4
      subst g1 hm
      subst g2
      subst g3
      subst g4
      obtain ⟨l⟩ := sl
      dsimp only at hs
      subst hs
      exact ⟨_, _, _, _, _, _, _, _, _, _, _, _, _, _, _, ho, g5⟩
    · cases h1
  · cases h1
def initB (file : Str) (K : PySem.W.Frag) (C : Addr) (q : Str) : Bool := He.eqO (PySem.W.findIn K (.ref C) "__init__") (some (some (.ref (He.ma K C "__init__")))) && (decide (PySem.W.typeIn K (.ref (He.ma K C "__init__")) = some (.type "function")) &&
  (decide (PySem.W.mroIn K C (.ref C) = some true) && (He.eqO (PySem.W.nsIn K cStatics "thirdparty.any") (some none) && (match K.lookup (He.ma K C "__init__") with
  | some ⟨_, _, .func fd, _⟩ => (match fd.closure, fd.code, fd.defaults with
    | [(_, cc)], .ref cda, .none => PySem.W.codeIn K (.ref cda) q && ((match K.lookup cc with
      | some ⟨_, _, .cell (some (.ref C')), _⟩ => C' == C
      | _ => false) && (match K.lookup cda with
      | some ⟨_, _, .fields vs, _⟩ => (match (vs[2]? : Option Value) with
        | some (.str f _) => file == f
        | _ => false)
      | _ => false))
    | _, _, _ => false)
  | _ => false))))
/-- such an __init__ as the layer wants it -/
theorem initB_ok {P : Program} {K : PySem.W.Frag} {x q : Str} {st : Stmt} {ps : List Str} (T : ErrCls K (He.ga K x)) (hv : fnE K x = valE st q) (hb : initB P.main.file K (He.ga K x) q = true) (htop : (P.main.scope.names.lookup ("super" : Str)).isSome = false)
    (hself : ((defArgs st).posonlyargs ++ (defArgs st).args).head?.map (·.arg) = some ("self" : Str))
    (hbind : ∀ (kV doc pm : Value) (an : Option Addr) (cda : Addr) (ct : Value) (cc : Addr) (us : List Value), us.length = ps.length + 1 → bindArgs (PySem.W.ksFn "__init__" q (defArgs st) (defBody st) (defScope st) .none kV doc pm an (.ref cda) ct cc) ⟨us, []⟩ = pure ((("self" : Str) :: ps).zip us))
    (h1 : (defScope st).kind = .function) (h2 : (defScope st).isCoroutine = false) (h3 : (defScope st).isGenerator = false) (h4 : ∀ y ∈ (defScope st).names, y.2 ≠ .cell) (h5 : (defScope st).names.lookup ("self" : Str) = some .local)
    (h6 : ∀ f ∈ ps, (defScope st).names.lookup f = some .local ∧ (f == ("__debug__" : Str)) = false ∧ f ≠ "self") (h7 : (defScope st).names.lookup ("super" : Str) = some .globalImplicit) (h8 : (defScope st).names.lookup ("__class__" : Str) = some .free) :
    ErrInit P K (He.ga K x) (He.ma K (He.ga K x) "__init__") ps (defBody st) := by
  obtain ⟨b1, hb⟩ := He.ba hb
  obtain ⟨b2, hb⟩ := He.ba hb
  obtain ⟨b3, hb⟩ := He.ba hb
  obtain ⟨b4, hb⟩ := He.ba hb
  refine ⟨He.eqO_ok b1, of_decide_eq_true b2, ?_⟩
  unfold fnE valE at hv
  cases e : K.lookup (He.ma K (He.ga K x) "__init__") with
  | none => rw [e] at hv; cases hv
  | some o =>
    obtain ⟨oc, od, dt, osl⟩ := o
    rw [e] at hv hb
    cases dt with
    | func fd =>
      obtain ⟨n1, n2, n3, n4, n5, n6, n7, n8, n9, n10, n11, n12, n13, n14, n15⟩ := fd
      have e2 : (some (n1, n2, n3, n4, n5, n6, n7.map (·.1), n15) : FnE) = (some ("__init__", q, defArgs st, .stmts (defBody st), defScope st, mainGlobals, ["__class__"], builtinsNs) : FnE) := hv
      simp only [Option.some.injEq, Prod.mk.injEq] at e2
      obtain ⟨k1, k2, k3, k4, k5, k6, k7, k8⟩ := e2
      subst k1 k2 k3 k4 k5 k6 k8
      dsimp only at hb
      split at hb
      · rename_i a1 a2 a3 y cc cda
        have ky : y = "__class__" := by simpa using k7
        subst ky
        obtain ⟨b5, hb⟩ := He.ba hb
        obtain ⟨b6, b7⟩ := He.ba hb
        obtain ⟨cd, hc, _⟩ := T.clsIn
        refine ⟨cc, cda, n2, defArgs st, defScope st, .none, n9, n10, n11, n12, n14, oc, od, osl, ⟨⟨oc, od, osl, e⟩, ?_, ?_, ⟨cd, hc⟩, of_decide_eq_true b3, htop, He.eqO_ok b4⟩, by first | rfl | exact e, b5, hself, hbind _ _ _ _ _ _ _, h1, h2, h3, h4, h5, h6, h7, h8⟩
        · split at b6
          · rename_i a1 a2 C' a3 hlk
            have := beq_iff_eq.mp b6
            subst this
            exact ⟨_, _, _, hlk⟩
          · cases b6
        · split at b7
          · rename_i a1 a2 vs a3 hlk
            split at b7
            · rename_i f t hf
              exact ⟨_, _, _, _, f, t, hlk, hf, b7⟩
            · cases b7
          · cases b7
      · cases hb
    | _ => cases hv
section
variable {P : Program} {w : World} {K : PySem.W.Frag} {mg : Str → Option Value} {base : Heap}
theorem ex_of {k : Nat} {x : Str} {sp : Addr → SpX} (g : mg x = some (.ref (cOf mg x))) (kp : PySem.W.keepIn K (.ref (cOf mg x)) = true) (M : MkE P w K mg base k (.ref (cOf mg x)) (sp (cOf mg x))) : Ex P w K mg base k x (sp (cOf mg x)) := ⟨_, g, kp, M⟩
theorem defAt {h : Heap} {fa : List He.Fa} {fn : List He.DefD} {x : Str} {st : Stmt} (X : K.In h) (G : h.Ns mainGlobals mg) (c : He.SaysD fa fn K) (i j : Nat) (hi : fa[i]? = some (.glo x)) (hj : fn[j]? = some ⟨(x, none), x, x, defArgs st, defBody st, defScope st, [], []⟩) : DefAt K mg x st := by
  obtain ⟨fd, F⟩ := c.def_ j hj
  exact ⟨He.ga K x, fd, F, He.glo_ok X G (c.fact i hi)⟩
end
/-- nothing is let out -/
abbrev CXf : CXT := fun _ _ _ _ _ _ => False
theorem quiet {P : Program} {w : World} {K : PySem.W.Frag} {mg : Str → Option Value} {base : Heap} {k : Nat} {f : Addr} {fd : FuncData} {ps : List Str} {sp : Sp} (hE : ∀ vs H Q E E', sp vs H Q E → sp vs H Q E') (F : FnOk P w K mg base (L2N.CX P w) k f fd ps sp) : FnOk P w K mg base CXf k f fd ps sp :=
  ⟨F.len, fun A outer s H args us vs Q E hr he hb hv hs => codeAny_mono (F.run A outer s H args us vs Q (fun _ _ _ => False) hr he hb hv (hE _ _ _ _ _ hs)) fun r s' hq => by
    cases r with
    | error e =>
      obtain ⟨_, _, _, _, _, _, _, _, _, _, _, _, z⟩ := hq
      exact z.elim
    | ok fl => cases fl <;> exact hq⟩
end L2.Fk
set_option Elab.async false
set_option linter.all false
set_option maxRecDepth 100000
set_option maxHeartbeats 4000000
namespace L2.Fk
open PySem PySem.Spec PyProof.Rows
def top (i : Nat) : Stmt := PySem.Challenge.pw_forkbeats_k93_error_classes.main.body.getD i (.Pass ⟨0, 0, 0, 0⟩)
end L2.Fk
set_option Elab.async false
set_option linter.all false
set_option maxRecDepth 100000
set_option maxHeartbeats 4000000
namespace L2.Fk
open PySem PySem.Spec PyProof.Rows
local macro_rules | `(tactic| walk_at "same") => `(tactic| first | assumption | exact (fun _ _ h => h) | (refine Same.trans ?_ (Same.new (by assumption)); walk_at "same"))
local macro_rules | `(tactic| walk_at "xd") => `(tactic| first | assumption | exact XDict.new (by walk_at "xd") (by assumption))
local macro_rules | `(tactic| walk_at "hne") => `(tactic| first
  | assumption
  | exact Ne.symm (by assumption)
  | (apply ne_new; (focus (assumption)); (focus (first | assumption | exact upd_same | walk_at "hget")))
  | (apply ne_old; (focus (assumption)); (focus (first | assumption | exact upd_same | walk_at "hget"))))
local macro_rules | `(tactic| walk_at "hget") => `(tactic| first
  | assumption
  | exact upd_same
  | exact (upd_ne (by walk_at "hne")).trans (by walk_at "hget"))
local macro_rules | `(tactic| walk_at "sql") => `(tactic| first
  | assumption
  | exact SqL.of (by walk_at "hget")
  | exact SqL.frz (by walk_at "hget"))
local macro_rules | `(tactic| walk_at "getat") => `(tactic| (
  (first
    | with_reducible show GetAt _ _ _ (V.int (OfNat.ofNat _)) _
    | with_reducible show GetAt _ _ _ (V.int (Neg.neg (OfNat.ofNat _))) _)
  first
    | (apply GetAt.m; (focus (walk_at "hget")); (focus (exact rfl)))
    | (apply GetAt.f; (focus (walk_at "hget")); (focus (exact rfl)))
    | (apply GetAt.t; (focus (exact SqT.of (by walk_at "hget"))); (focus (exact rfl)))
    | (apply GetAt.l; (focus (assumption)); (focus (exact rfl)))))
local macro_rules | `(tactic| walk_at "side") => `(tactic| first
  | omega
  | exact mul_l (by omega)
  | exact mul_r (by omega)
  | exact div_lit (by decide)
  | exact wide_div (by omega) (by assumption) (by decide) (by decide)
  | exact ⟨by decide, by decide, by decide⟩
  | decide
  | assumption)
local macro_rules | `(tactic| walk_at "size") => `(tactic| first
  | assumption
  | (rw [sizeLine_eq]; first | decide | omega | decide +kernel | (simp; done) | (simp; omega)))
local macro_rules | `(tactic| walk_at "step") => `(tactic| first
  | with_reducible refine in_seqA ?_
  | with_reducible refine in_seqE ?_
  | ((with_reducible refine in_asg ?_); try dsimp only [Ends.less])
  | ((with_reducible refine in_name ?_); try simp only [upd_upd, List.set_cons_zero, List.set_cons_succ, Int.reduceToNat, Int.toNat_zero, List.length_cons, List.length_nil, Nat.reduceAdd])
  | ((with_reducible apply in_var); focus (exact rfl))
  | with_reducible refine in_c ?_
  | with_reducible refine in_op ?_
  | with_reducible refine in_un ?_
  | with_reducible refine in_cons ?_
  | with_reducible refine in_nil ?_
  | with_reducible refine in_cb ?_
  | ((with_reducible refine in_ret ?_); try dsimp only [Ends.less])
  | with_reducible refine in_ifS ?_
  | with_reducible refine in_test ?_
  | with_reducible refine in_tB ?_
  | with_reducible refine in_bl ?_
  | with_reducible refine in_int ?_
  | with_reducible refine in_str ?_
  | with_reducible refine in_rI0 ?_
  | ((with_reducible refine in_rI ?_ ?_); focus (walk_at "side"))
  | with_reducible refine in_rU ?_
  | ((with_reducible refine in_mul ?_ ?_); focus (walk_at "side"))
  | with_reducible refine in_addI ?_
  | ((with_reducible refine in_addS ?_ ?_); focus (walk_at "size"))
  | with_reducible refine in_intI ?_
  | with_reducible refine in_abs ?_
  | with_reducible refine in_max2 ?_
  | with_reducible refine in_min2 ?_
  | ((with_reducible refine in_lenS ?_ ?_); focus (walk_at "size"))
  | ((with_reducible apply in_lenR); focus (first | exact LenAt.m (by walk_at "hget") | exact LenAt.f (by walk_at "hget") | exact LenAt.l (by assumption)))
  | ((with_reducible apply in_ixR); focus (walk_at "getat"))
  | with_reducible refine in_eqI ?_
  | with_reducible refine in_eqS ?_
  | with_reducible refine in_neI ?_
  | with_reducible refine in_neS ?_
  | with_reducible refine in_sl ?_
  | with_reducible refine in_noPart ?_
  | with_reducible refine in_part ?_
  | ((with_reducible refine in_slS ?_ ?_); focus (walk_at "size"))
  | with_reducible refine in_gsub ?_
  | ((with_reducible apply in_setL); (focus (walk_at "hget")); (focus (exact rfl)); try simp only [upd_upd, List.set_cons_zero, List.set_cons_succ, Int.reduceToNat, Int.toNat_zero, List.length_cons, List.length_nil, Nat.reduceAdd])
  | ((with_reducible refine in_next ?_); try dsimp only [Ends.less])
  | ((with_reducible refine in_drop ?_); try dsimp only [Ends.less])
  | with_reducible refine in_and ?_
  | with_reducible refine in_or ?_
  | with_reducible refine in_not ?_
  | with_reducible refine in_andV ?_
  | with_reducible refine in_orV ?_
  | with_reducible refine in_notV ?_
  | with_reducible refine in_ifE ?_
  | with_reducible refine in_isN ?_
  | with_reducible refine in_notN ?_
  | with_reducible refine in_tt ?_
  | with_reducible refine in_ff ?_
  | with_reducible refine in_pos (by first | omega | decide | assumption) ?_
  | with_reducible refine in_neg (by first | omega | decide | assumption) ?_
  | with_reducible refine in_posN (by first | omega | decide | assumption) ?_
  | with_reducible refine in_negN (by first | omega | decide | assumption) ?_
  | ((with_reducible apply in_call); focus (assumption))
  | with_reducible refine in_lst ?_
  | with_reducible refine in_tup ?_
  | ((with_reducible refine in_new ?_ ?_); focus (simp only [List.length_cons, List.length_nil]; first | done | decide | omega))
  | with_reducible refine in_for ?_
  | with_reducible refine in_lc ?_
  | with_reducible refine in_iList ?_
  | with_reducible refine in_iStr ?_
  | with_reducible refine in_iRng1 ?_
  | with_reducible refine in_iRng2 ?_
  | ((with_reducible refine in_rng1 ?_ ?_ ?_); (focus (omega)); (focus (omega)))
  | ((with_reducible refine in_rng2 ?_ ?_); focus (omega))
  | ((with_reducible refine in_retN ?_); try dsimp only [Ends.less])
  | ((with_reducible refine in_brk ?_); try dsimp only [Ends.less])
  | ((with_reducible refine in_ct ?_); try dsimp only [Ends.less])
  | with_reducible refine in_yes ?_
  | with_reducible refine in_bm ?_
  | with_reducible refine in_m1 ?_
  | with_reducible refine in_strT ?_
  | ((with_reducible refine in_clAs ?_); try simp only [List.set_cons_zero, List.set_cons_succ])
  | with_reducible refine in_clPlain ?_
  | with_reducible refine in_xf ?_
  | ((with_reducible refine in_raise ?_); try dsimp only [Ends.less])
  | ((with_reducible apply in_mkx); focus (assumption)))
local macro_rules | `(tactic| walk_at "begin") => `(tactic| simp only [start, List.map_cons, List.map_nil, List.length_cons, List.length_nil, List.replicate_succ, List.replicate_zero, List.cons_append, List.nil_append, List.append_nil, Nat.reduceAdd, Nat.reduceSub])
local macro_rules | `(tactic| walk_at "go") => `(tactic| repeat (walk_at "step"))
section
variable {P : Program} {w : World} {K : PySem.W.Frag} {mg : Str → Option Value} {base : Heap} {k : Nat}
abbrev s__law_mixed : Stmt := top 23
theorem sc__law_mixed : FnScope ["_law_cell", "_law_turn", "_law_number"] ["_law_cell", "_law_turn"] (defScope s__law_mixed) := ⟨rfl, rfl, rfl, by decide +kernel, rfl, by decide +kernel, by decide +kernel⟩
theorem b__law_mixed {K : PySem.W.Frag} {f : Addr} {fd : FuncData} (F : FnP K "_law_mixed" "_law_mixed" s__law_mixed f fd) : Binds K fd ["_law_cell", "_law_turn"] [] := F.bindsN fun _ _ _ _ _ _ us hl => match us, hl with | [_, _], _ => rfl
/-- a mix of a small number and the turn: not negative -/
def spMixed : Sp := fun vs H Q _ => ∃ c t : Int, vs = [.int c, .int t] ∧ 0 ≤ c ∧ c < 2 ^ 63 ∧ 0 ≤ t ∧ t < 2 ^ 40 ∧ ∀ r : Int, 0 ≤ r → Q (.int r) H
theorem fx_mixed (d : DefAt K mg "_law_mixed" s__law_mixed) (fr : Free mg) : Fx P w K mg base (k + 1) "_law_mixed" (spP spMixed) := by
  refine Fx.of d sc__law_mixed b__law_mixed (fun vs H Q E h => ?_) fun f cdv A outer s H vs Q E hr gd gx h => ⟨_,
    (pss_cons (ps_set (i := 2) sc__law_mixed.nd rfl (by first | exact Or.inl rfl | exact Or.inr rfl) (pe_op op_mod (pe_callTy call_intM rfl fr.int boot_int (pa_cons (pe_op op_mulG (pv 0) (pe_op (op_addK (K := K) rfl) (pe_op op_mulG pe_int (pv 1)) pe_int)) pa_nil)) pe_int))
    (pss_cons (ps_set (i := 2) sc__law_mixed.nd rfl (by first | exact Or.inl rfl | exact Or.inr rfl) (pe_op op_mod (pe_callTy call_intM rfl fr.int boot_int (pa_cons (pe_op (op_addK (K := K) rfl) (pe_op op_mulG (pv 2) pe_int) (pe_op op_fdivW (pv 2) pe_int)) pa_nil)) pe_int))
    (pss_one (ps_ret (pe_op op_fdivW (pv 2) pe_int))))), ?_⟩
  · obtain ⟨c, t, rfl, _⟩ := h
    rfl
  · obtain ⟨c, t, rfl, h1, h2, h3, h4, q⟩ := h
    walk_at "go"
    refine q _ ?_
    exact Int.ediv_nonneg (Int.emod_nonneg _ (by omega)) (by omega)
/-- the bag of a law: the turn, the rest of a large cell, how many cells are spent, a number of all cells, the cells -/
def Bag (H : Hp) (b : Addr) (n : Nat) : Prop := ∃ (d i m : Int) (c : Addr) (o : Obj) (cs : List Int), H b = some (.lst [.int n, .int d, .int i, .int m, .ref c]) ∧ H c = some (.frz o (.lst (cs.map V.int))) ∧ 0 ≤ d ∧ 0 ≤ i ∧ 0 ≤ m ∧ m < 2 ^ 31 ∧ ∀ x ∈ cs, 0 ≤ x
abbrev s__law_take : Stmt := top 24
theorem sc__law_take : FnScope ["_law_bag_here", "_law_many", "_law_cell", "_law_digit"] ["_law_bag_here", "_law_many"] (defScope s__law_take) := ⟨rfl, rfl, rfl, by decide +kernel, rfl, by decide +kernel, by decide +kernel⟩
theorem b__law_take {K : PySem.W.Frag} {f : Addr} {fd : FuncData} (F : FnP K "_law_take" "_law_take" s__law_take f fd) : Binds K fd ["_law_bag_here", "_law_many"] [] := F.bindsN fun _ _ _ _ _ _ us hl => match us, hl with | [_, _], _ => rfl
/-- a number below the bound; nothing but the bag changes -/
def spTake : Sp := fun vs H Q _ => ∃ (b : Addr) (m : Int) (n : Nat), vs = [.ref b, .int m] ∧ Bag H b n ∧ n < 1000000 ∧ m.natAbs < 2 ^ 200 ∧ ∀ (r : Int) (H' : Hp), 0 ≤ r → r < max 1 m → But b H H' → Bag H' b (n + 1) → Q (.int r) H'
theorem fx_take (d : DefAt K mg "_law_take" s__law_take) (fr : Free mg) (tm : Fx P w K mg base k "_law_mixed" (spP spMixed)) : Fx P w K mg base (k + 1) "_law_take" (spP spTake) := by
  refine Fx.of d sc__law_take b__law_take (fun vs H Q E h => ?_) fun f cdv A outer s H vs Q E hr gd gx h => ⟨_,
    (pss_cons (ps_set (i := 1) sc__law_take.nd rfl (by first | exact Or.inl rfl | exact Or.inr rfl) (pe_callB (call_max2M rfl) rfl fr.max boot_max (pa_cons pe_int (pa_cons (pv 1) pa_nil))))
    (pss_cons (ps_asg (pe_op (op_addK (K := K) rfl) (pe_ix (ix_K (K := K) rfl (gd_hu hr)) (pv 0) pe_int fun _ _ => rfl) pe_int) (pg_sub (pv 0) pe_int (set_G (gd_hu hr))))
    (pss_cons (ps_if (PW.pt (pw_and (pt_cmpR op_lt (pe_ix (ix_K (K := K) rfl (gd_hu hr)) (pv 0) pe_int fun _ _ => rfl) (pv 1) (nomark _)) (pw_and1 (pt_cmpR op_lt (pe_ix (ix_K (K := K) rfl (gd_hu hr)) (pv 0) pe_int fun _ _ => rfl) (pe_callB (call_lenK (K := K) rfl) rfl fr.len boot_len (pa_cons (pe_ix (ix_K (K := K) rfl (gd_hu hr)) (pv 0) pe_int fun _ _ => rfl) pa_nil)) (nomark _)))))
      (pss_cons (ps_set (i := 2) sc__law_take.nd rfl (by first | exact Or.inl rfl | exact Or.inr rfl) (pe_ix (ix_K (K := K) rfl (gd_hu hr)) (pe_ix (ix_K (K := K) rfl (gd_hu hr)) (pv 0) pe_int fun _ _ => rfl) (pe_ix (ix_K (K := K) rfl (gd_hu hr)) (pv 0) pe_int fun _ _ => rfl) fun _ _ => rfl))
      (pss_cons (ps_asg (pe_op (op_addK (K := K) rfl) (pe_ix (ix_K (K := K) rfl (gd_hu hr)) (pv 0) pe_int fun _ _ => rfl) pe_int) (pg_sub (pv 0) pe_int (set_G (gd_hu hr))))
      (pss_cons (ps_if (pt_cmpR op_lt (pv 2) (pe_op op_pow pe_int pe_int) (nomark _))
        (pss_one (ps_ret (pe_op op_mod (pe_callTy call_intM rfl fr.int boot_int (pa_cons (pe_callG gd rfl (pa_cons (pv 2) (pa_cons (pe_ix (ix_K (K := K) rfl (gd_hu hr)) (pv 0) pe_int fun _ _ => rfl) pa_nil))) pa_nil)) (pv 1))))
        pss_nil)
      (pss_one (ps_asg (pv 2) (pg_sub (pv 0) pe_int (set_G (gd_hu hr))))))))
      pss_nil)
    (pss_cons (ps_if (pt_cmpR op_ge (pe_ix (ix_K (K := K) rfl (gd_hu hr)) (pv 0) pe_int fun _ _ => rfl) (pv 1) (nomark _))
      (pss_cons (ps_set (i := 3) sc__law_take.nd rfl (by first | exact Or.inl rfl | exact Or.inr rfl) (pe_op op_mod (pe_callTy call_intM rfl fr.int boot_int (pa_cons (pe_ix (ix_K (K := K) rfl (gd_hu hr)) (pv 0) pe_int fun _ _ => rfl) pa_nil)) (pv 1)))
      (pss_cons (ps_asg (pe_op op_fdivW (pe_ix (ix_K (K := K) rfl (gd_hu hr)) (pv 0) pe_int fun _ _ => rfl) (pv 1)) (pg_sub (pv 0) pe_int (set_G (gd_hu hr))))
      (pss_one (ps_ret (pv 3)))))
      pss_nil)
    (pss_one (ps_ret (pe_op op_mod (pe_callTy call_intM rfl fr.int boot_int (pa_cons (pe_callG gd rfl (pa_cons (pe_ix (ix_K (K := K) rfl (gd_hu hr)) (pv 0) pe_int fun _ _ => rfl) (pa_cons (pe_ix (ix_K (K := K) rfl (gd_hu hr)) (pv 0) pe_int fun _ _ => rfl) pa_nil))) pa_nil)) (pv 1)))))))), ?_⟩
  · obtain ⟨c, t, n, rfl, _⟩ := h
    rfl
  · obtain ⟨b, m, n, rfl, ⟨d, i, m', c, o, cs, hb, hc, hd, hi, hm, hm2, hcs⟩, hn, hm3, q⟩ := h
    have hcb : c ≠ b := fun z => by rw [z, hb] at hc; cases hc
    walk_at "begin"
    walk_at "go"
    have hM : 1 ≤ max 1 m := by omega
    have hM2 : (max 1 m).natAbs < 2 ^ 200 := by omega
    generalize max 1 m = M at *
    refine in_seqK (fun σ' H' => ∃ d' i' : Int, ∃ x, σ' = [some (V.ref b), some (V.int M), x, none] ∧ H' b = some (.lst [.int (n + 1 : Nat), .int d', .int i', .int m', .ref c]) ∧ But b H H' ∧ 0 ≤ d' ∧ 0 ≤ i') (fun σ' H' ⟨d', i', x, es, hb', hB, h1, h2⟩ => ?_) (fun N hN => ?_)
    · subst es
      have bag : ∀ {H''} {d''}, But b H H'' → H'' b = some (.lst [.int (n + 1 : Nat), .int d'', .int i', .int m', .ref c]) → 0 ≤ d'' → Bag H'' b (n + 1) := fun {H'' d''} hB hb'' h =>
        ⟨d'', i', m', c, o, cs, hb'', hB _ _ (fun z => by rw [z, hb] at hc; cases hc) hc, h, h2, hm, hm2, hcs⟩
      have md : ∀ x : Int, 0 ≤ x % M ∧ x % M < M := fun x => ⟨Int.emod_nonneg _ (by omega), Int.emod_lt_of_pos _ (by omega)⟩
      refine in_seq ?_
      walk_at "go"
      refine in_ite (fun c1 => ?_) (fun c1 => ?_)
      · walk_at "go"
        exact q _ _ (md _).1 (md _).2 (hB.trans (But.put)) (bag (hB.trans But.put) upd_same (Int.ediv_nonneg h1 (by omega)))
      · walk_at "go"
        refine ⟨m', _, rfl, hm, by omega, by omega, by omega, fun r h0 _ => ?_⟩
        walk_at "go"
        exact q _ _ (md _).1 (md _).2 hB (bag hB hb' h1)
    · walk_at "go"
      have hB0 : ∀ l, But b H (upd H b l) := fun l => But.put
      refine in_ite (fun c1 => ?_) (fun c1 => ?_)
      · walk_at "go"
        refine in_ite (fun c2 => ?_) (fun c2 => ?_)
        · rw [List.length_map] at c2
          obtain ⟨x, hx, _, ex⟩ := atI_int hi c2
          have hx0 := hcs x hx
          walk_at "go"
          refine in_ixR (GetAt.f ((upd_ne hcb).trans hc) ex) ?_
          walk_at "go"
          refine in_seq ?_
          walk_at "go"
          refine in_ite (fun c3 => ?_) (fun c3 => ?_)
          · walk_at "go"
            have c3 : x < 10 ^ 18 := c3
            refine ⟨x, _, rfl, hx0, by omega, by omega, by omega, fun r h0 _ => ?_⟩
            walk_at "go"
            have md : ∀ x : Int, 0 ≤ x % M ∧ x % M < M := fun x => ⟨Int.emod_nonneg _ (by omega), Int.emod_lt_of_pos _ (by omega)⟩
            exact q _ _ (md _).1 (md _).2 But.put ⟨d, i + 1, m', c, o, cs, upd_same, (upd_ne hcb).trans hc, hd, by omega, hm, hm2, hcs⟩
          · walk_at "go"
            exact hN _ _ ⟨x, i + 1, _, rfl, upd_same, But.put, hx0, by omega⟩
        · walk_at "go"
          exact hN _ _ ⟨d, i, _, rfl, upd_same, But.put, hd, hi⟩
      · walk_at "go"
        exact hN _ _ ⟨d, i, _, rfl, upd_same, But.put, hd, hi⟩
theorem Bag.same {H H' : Hp} {b : Addr} {n : Nat} (h : Bag H b n) (s : Same H H') : Bag H' b n := by
  obtain ⟨d, i, m, c, o, cs, h1, h2, h3⟩ := h
  exact ⟨d, i, m, c, o, cs, s _ _ h1, s _ _ h2, h3⟩
abbrev s__law_pitch : Stmt := top 26
theorem sc__law_pitch : FnScope ["_law_bag_here", "_law_way"] ["_law_bag_here"] (defScope s__law_pitch) := ⟨rfl, rfl, rfl, by decide +kernel, rfl, by decide +kernel, by decide +kernel⟩
theorem b__law_pitch {K : PySem.W.Frag} {f : Addr} {fd : FuncData} (F : FnP K "_law_pitch" "_law_pitch" s__law_pitch f fd) : Binds K fd ["_law_bag_here"] [] := F.bindsN fun _ _ _ _ _ _ us hl => match us, hl with | [_], _ => rfl
/-- a pitch of at most 10 ^ 30 -/
def spPitch : Sp := fun vs H Q _ => ∃ (b : Addr) (n : Nat), vs = [.ref b] ∧ Bag H b n ∧ n < 900000 ∧ ∀ (r : Int) (n' : Nat) (H' : Hp), r.natAbs ≤ 10 ^ 30 → But b H H' → Bag H' b n' → n' ≤ n + 2 → Q (.int r) H'
theorem fx_pitch (d : DefAt K mg "_law_pitch" s__law_pitch) (fr : Free mg) (tt : Fx P w K mg base k "_law_take" (spP spTake)) : Fx P w K mg base (k + 1) "_law_pitch" (spP spPitch) := by
  refine Fx.of d sc__law_pitch b__law_pitch (fun vs H Q E h => ?_) fun f cdv A outer s H vs Q E hr gd gx h => ⟨_,
    (pss_cons (ps_set (i := 1) sc__law_pitch.nd rfl (by first | exact Or.inl rfl | exact Or.inr rfl) (pe_callG gd rfl (pa_cons (pv 0) (pa_cons pe_int pa_nil))))
    (pss_cons (ps_if (pt_cmpR (op_eqK (K := K) rfl (gd_hu hr)) (pv 1) pe_int (nomark _))
      (pss_one (ps_ret (pe_op op_sub (pe_callG gd rfl (pa_cons (pv 0) (pa_cons (pe_op (op_addK (K := K) rfl) (pe_op op_mulG pe_int (pe_op op_pow pe_int pe_int)) pe_int) pa_nil))) (pe_op op_pow pe_int pe_int))))
      pss_nil)
    (pss_cons (ps_if (pt_cmpR (op_eqK (K := K) rfl (gd_hu hr)) (pv 1) pe_int (nomark _))
      (pss_one (ps_ret (pe_ix (ix_K (K := K) rfl (gd_hu hr)) (pe_lst (pa_cons pe_int (pa_cons pe_int (pa_cons (pe_un un_neg pe_int) pa_nil)))) (pe_callG gd rfl (pa_cons (pv 0) (pa_cons pe_int pa_nil))) fun _ _ => rfl)))
      pss_nil)
    (pss_one (ps_ret (pe_op op_sub (pe_callG gd rfl (pa_cons (pv 0) (pa_cons pe_int pa_nil))) pe_int)))))), ?_⟩
  · obtain ⟨c, n, rfl, _⟩ := h
    rfl
  · obtain ⟨b, n, rfl, hb, hn, q⟩ := h
    walk_at "begin"
    walk_at "go"
    refine ⟨b, _, n, rfl, hb, by omega, by omega, fun r H1 h0 h1 b1 hb1 _ => ?_⟩
    walk_at "go"
    refine in_seq ?_
    walk_at "go"
    refine in_ite (fun c1 => ?_) (fun c1 => ?_)
    · walk_at "go"
      refine ⟨b, _, n + 1, rfl, hb1, by omega, by decide, fun r H2 h0 h1 b2 hb2 _ => ?_⟩
      walk_at "go"
      exact q _ _ _ (by simp at h1 ⊢; omega) (b1.trans b2) hb2 (by omega)
    walk_at "go"
    refine in_seq ?_
    walk_at "go"
    refine in_ite (fun c2 => ?_) (fun c2 => ?_)
    · walk_at "go"
      intro p hp
      walk_at "go"
      have sm : Same H1 (upd H1 p (.lst [.int 0, .int 1, .int (-1)])) := Same.new hp
      have npb : p ≠ b := by
        obtain ⟨d, i, m, c, o, cs, e, _⟩ := hb1
        exact Ne.symm (ne_of_none e hp)
      refine ⟨b, _, n + 1, rfl, hb1.same sm, by omega, by omega, fun r H2 h0 h1 b2 hb2 _ => ?_⟩
      walk_at "go"
      have e := b2 p _ npb upd_same
      have fin : ∀ x : Int, x.natAbs ≤ 1 → Q (.int x) H2 := fun x hx => q _ _ _ (by omega) ((b1.trans (But.of_same sm)).trans b2) hb2 (by omega)
      have h3 : r = 0 ∨ r = 1 ∨ r = 2 := by omega
      rcases h3 with rfl | rfl | rfl
      · exact in_ixR (GetAt.m e rfl) (fin _ (by decide))
      · exact in_ixR (GetAt.m e rfl) (fin _ (by decide))
      · exact in_ixR (GetAt.m e rfl) (fin _ (by decide))
    walk_at "go"
    refine ⟨b, _, n + 1, rfl, hb1, by omega, by omega, fun r H2 h0 h1 b2 hb2 _ => ?_⟩
    walk_at "go"
    exact q _ _ _ (by omega) (b1.trans b2) hb2 (by omega)
abbrev s__law_bag : Stmt := top 22
theorem sc__law_bag : FnScope ["_law_script", "_law_cells", "_law_base", "_law_cell"] ["_law_script"] (defScope s__law_bag) := ⟨rfl, rfl, rfl, by decide +kernel, rfl, by decide +kernel, by decide +kernel⟩
theorem b__law_bag {K : PySem.W.Frag} {f : Addr} {fd : FuncData} (F : FnP K "_law_bag" "_law_bag" s__law_bag f fd) : Binds K fd ["_law_script"] [] := F.bindsN fun _ _ _ _ _ _ us hl => match us, hl with | [_], _ => rfl
def spBag0 (K : PySem.W.Frag) : Sp := fun vs H Q _ => ∃ (a : Addr) (ns : List Int), vs = [.ref a] ∧ SqL K H a (ns.map V.int) ∧ ∀ (b c : Addr) (m : Int) (cs : List Int) (H' : Hp), Same H H' → H' b = some (.lst [.int 0, .int 0, .int 0, .int m, .ref c]) → H' c = some (.lst (cs.map V.int)) →
  H b = none → H c = none → c ≠ b → 0 ≤ m → m < 2 ^ 31 → (∀ x ∈ cs, 0 ≤ x) → Q (.ref b) H'
theorem fx_bag0 (d : DefAt K mg "_law_bag" s__law_bag) (fr : Free mg) : Fx P w K mg base (k + 1) "_law_bag" (spP (spBag0 K)) := by
  refine Fx.of d sc__law_bag b__law_bag (fun vs H Q E h => ?_) fun f cdv A outer s H vs Q E hr gd gx h => ⟨_,
    (pss_cons (by first | exact (ps_setLc (i := 1) (own := [("_law_cell", 3)]) rfl sc__law_bag.nd rfl rfl (sw_true rfl rfl rfl rfl) (pi_listK (K := K) rfl (pe_slice (sl_K (K := K) rfl) (pv 0) po_none (po_some pe_int))) (blkOk_by (N := ["_law_script", "_law_cells", "_law_base", "_law_cell"]) (sc := defScope s__law_bag) (by decide +kernel)) (fun _ _ _ _ _ => (pg_name (i := 3) sc__law_bag.nd rfl (by first | exact Or.inl rfl | exact Or.inr rfl))) (fun _ _ _ _ _ => pts_nil) (fun _ _ _ _ _ => (pe_callB call_absM rfl fr.abs boot_abs (pa_cons (pe_callTy call_intM rfl fr.int boot_int (pa_cons (pv 3) pa_nil)) pa_nil)))) | exact (ps_set (i := 1) sc__law_bag.nd rfl (by first | exact Or.inl rfl | exact Or.inr rfl) (pe_lc (own := [("_law_cell", 3)]) rfl sc__law_bag.nd (pi_listK (K := K) rfl (pe_slice (sl_K (K := K) rfl) (pv 0) po_none (po_some pe_int))) (blkOk_by (N := ["_law_script", "_law_cells", "_law_base", "_law_cell"]) (sc := defScope s__law_bag) (by decide +kernel)) (fun _ _ _ _ _ => (pg_name (i := 3) sc__law_bag.nd rfl (by first | exact Or.inl rfl | exact Or.inr rfl))) (fun _ _ _ _ _ => pts_nil) (fun _ _ _ _ _ => (pe_callB call_absM rfl fr.abs boot_abs (pa_cons (pe_callTy call_intM rfl fr.int boot_int (pa_cons (pv 3) pa_nil)) pa_nil))))))
    (pss_cons (ps_set (i := 2) sc__law_bag.nd rfl (by first | exact Or.inl rfl | exact Or.inr rfl) pe_int)
    (pss_cons (ps_for (passes_of rfl) rfl (pi_listK (K := K) rfl (pv 1)) (pg_name (i := 3) sc__law_bag.nd rfl (by first | exact Or.inl rfl | exact Or.inr rfl))
      (pss_one (ps_set (i := 2) sc__law_bag.nd rfl (by first | exact Or.inl rfl | exact Or.inr rfl) (pe_op op_mod (pe_callTy call_intM rfl fr.int boot_int (pa_cons (pe_op (op_addK (K := K) rfl) (pe_op op_mulG (pv 2) pe_int) (pv 3)) pa_nil)) pe_int))))
    (pss_one (ps_ret (pe_lst (pa_cons pe_int (pa_cons pe_int (pa_cons pe_int (pa_cons (pv 2) (pa_cons (pv 1) pa_nil))))))))))), ?_⟩
  · obtain ⟨c, n, rfl, _⟩ := h
    rfl
  · obtain ⟨a, ns, rfl, hq, q⟩ := h
    walk_at "begin"
    walk_at "go"
    refine in_slL hq fun p hp => ?_
    rw [cutV_to (by omega), ← List.map_take]
    refine ⟨_, _, rfl, SqL.of upd_same, fun hz => ?_⟩
    refine lcT (S := rInt) walks_list (ns.take (Int.toNat 63)) (fun _ => true) (fun x => (x.natAbs : Int)) (fun _ v x => v = .int x) (paired_map (F := fun v (x : Int) => v = V.int x) (g := V.int) (fun _ => rfl) _) hz (fun H' s' => SqL.of (s' _ _ upd_same)) (fun y x H' _ s' r v H2 hY T N hT _ => ?_) (fun c vs H2 s2 hc0 hc al => ?_)
    · obtain ⟨rfl, rfl⟩ := hY
      subst r
      walk_at "go"
      refine ⟨rfl, ?_⟩
      walk_at "go"
      exact hT rfl _ _ (fun _ _ h => h) rfl
    · walk_at "go"
      have e := All2.ints al
      subst e
      have s1 : Same H H2 := (Same.new hp).trans s2
      refine in_seq ?_
      walk_at "go"
      refine ⟨_, _, rfl, SqL.of hc, fun hz2 => ?_⟩
      refine forW walks_list (fun _ _ σ' H' => ∃ m : Int, ∃ x, σ' = [some (V.ref a), some (V.ref c), some (V.int m), x] ∧ H' = H2 ∧ 0 ≤ m ∧ m < 2 ^ 31) ⟨0, _, rfl, rfl, by omega, by omega⟩ (fun _ _ _ H' _ ⟨m, x, _, e, _⟩ => by rw [e]; exact SqL.of hc)
        (fun pre y post σ' H' e ⟨m, x, e1, e2, h0, h1⟩ v H3 hY => ?_) (fun σ' H' ⟨m, x, e1, e2, h0, h1⟩ => ?_)
      · obtain ⟨rfl, rfl⟩ := hY
        subst e1 e2
        have hv : v ∈ pre ++ v :: post := by simp
        rw [e] at hv
        obtain ⟨i, _, rfl⟩ := List.mem_map.mp hv
        walk_at "go"
        exact ⟨_, _, rfl, by trivial, Int.emod_nonneg _ (by omega), by have := Int.emod_lt_of_pos (m * 31 + i) (show (0 : Int) < 2147483647 by omega); omega⟩
      · subst e1 e2
        walk_at "go"
        intro b hb
        refine q b c m _ _ (s1.trans (Same.new hb)) upd_same ((upd_ne (ne_of_none hc hb)).trans hc) ?_ ?_ (ne_of_none hc hb) h0 h1 ?_
        · exact Same.free s1 hb
        · exact Same.free (Same.new hp) hc0
        · intro x hx
          obtain ⟨y, _, e⟩ := List.mem_map.mp hx
          omega
/-- a new bag -/
def spBag (K : PySem.W.Frag) : Sp := fun vs H Q _ => ∃ (a : Addr) (ns : List Int), vs = [.ref a] ∧ SqL K H a (ns.map V.int) ∧ ∀ (b : Addr) (H' : Hp), Same H H' → H b = none → Bag H' b 0 → Q (.ref b) H'
theorem fx_bag (d : DefAt K mg "_law_bag" s__law_bag) (fr : Free mg) : Fx P w K mg base (k + 1) "_law_bag" (spP (spBag K)) := by
  refine (fx_bag0 d fr).imp fun vs H Q E ⟨a, ns, e, hq, q⟩ => ⟨a, ns, e, hq, fun b c m cs H' s1 hb hc h1 h2 hne h3 h4 h5 pr => ?_⟩
  refine Gh.fzl hc fun o => ?_
  have np : Pres H' (upd H' c (.frz o (.lst (cs.map V.int)))) := Pres.put hc fun i => i
  refine q b _ (Same.local_ s1 h2) h1 ⟨0, 0, m, c, o, cs, (upd_ne (Ne.symm hne)).trans hb, upd_same, by omega, by omega, h3, h4, h5⟩ (pr.trans np)
end
end L2.Fk
set_option Elab.async false
set_option linter.all false
set_option maxRecDepth 100000
set_option maxHeartbeats 4000000
namespace L2.Fk
open PySem PySem.Spec PyProof.Rows
local macro_rules | `(tactic| walk_at "same") => `(tactic| first | assumption | exact (fun _ _ h => h) | (refine Same.trans ?_ (Same.new (by assumption)); walk_at "same"))
local macro_rules | `(tactic| walk_at "xd") => `(tactic| first | assumption | exact XDict.new (by walk_at "xd") (by assumption))
local macro_rules | `(tactic| walk_at "hne") => `(tactic| first
  | assumption
  | exact Ne.symm (by assumption)
  | (apply ne_new; (focus (assumption)); (focus (first | assumption | exact upd_same | walk_at "hget")))
  | (apply ne_old; (focus (assumption)); (focus (first | assumption | exact upd_same | walk_at "hget"))))
local macro_rules | `(tactic| walk_at "hget") => `(tactic| first
  | assumption
  | exact upd_same
  | exact (upd_ne (by walk_at "hne")).trans (by walk_at "hget"))
local macro_rules | `(tactic| walk_at "sql") => `(tactic| first
  | assumption
  | exact SqL.of (by walk_at "hget")
  | exact SqL.frz (by walk_at "hget"))
local macro_rules | `(tactic| walk_at "getat") => `(tactic| (
  (first
    | with_reducible show GetAt _ _ _ (V.int (OfNat.ofNat _)) _
    | with_reducible show GetAt _ _ _ (V.int (Neg.neg (OfNat.ofNat _))) _)
  first
    | (apply GetAt.m; (focus (walk_at "hget")); (focus (exact rfl)))
    | (apply GetAt.f; (focus (walk_at "hget")); (focus (exact rfl)))
    | (apply GetAt.t; (focus (exact SqT.of (by walk_at "hget"))); (focus (exact rfl)))
    | (apply GetAt.l; (focus (assumption)); (focus (exact rfl)))))
local macro_rules | `(tactic| walk_at "side") => `(tactic| first
  | omega
  | exact mul_l (by omega)
  | exact mul_r (by omega)
  | exact div_lit (by decide)
  | exact wide_div (by omega) (by assumption) (by decide) (by decide)
  | exact ⟨by decide, by decide, by decide⟩
  | decide
  | assumption)
local macro_rules | `(tactic| walk_at "size") => `(tactic| first
  | assumption
  | (rw [sizeLine_eq]; first | decide | omega | decide +kernel | (simp; done) | (simp; omega)))
local macro_rules | `(tactic| walk_at "step") => `(tactic| first
  | with_reducible refine in_seqA ?_
  | with_reducible refine in_seqE ?_
  | ((with_reducible refine in_asg ?_); try dsimp only [Ends.less])
  | ((with_reducible refine in_name ?_); try simp only [upd_upd, List.set_cons_zero, List.set_cons_succ, Int.reduceToNat, Int.toNat_zero, List.length_cons, List.length_nil, Nat.reduceAdd])
  | ((with_reducible apply in_var); focus (exact rfl))
  | with_reducible refine in_c ?_
  | with_reducible refine in_op ?_
  | with_reducible refine in_un ?_
  | with_reducible refine in_cons ?_
  | with_reducible refine in_nil ?_
  | with_reducible refine in_cb ?_
  | ((with_reducible refine in_ret ?_); try dsimp only [Ends.less])
  | with_reducible refine in_ifS ?_
  | with_reducible refine in_test ?_
  | with_reducible refine in_tB ?_
  | with_reducible refine in_bl ?_
  | with_reducible refine in_int ?_
  | with_reducible refine in_str ?_
  | with_reducible refine in_rI0 ?_
  | ((with_reducible refine in_rI ?_ ?_); focus (walk_at "side"))
  | with_reducible refine in_rU ?_
  | ((with_reducible refine in_mul ?_ ?_); focus (walk_at "side"))
  | with_reducible refine in_addI ?_
  | ((with_reducible refine in_addS ?_ ?_); focus (walk_at "size"))
  | with_reducible refine in_intI ?_
  | with_reducible refine in_abs ?_
  | with_reducible refine in_max2 ?_
  | with_reducible refine in_min2 ?_
  | ((with_reducible refine in_lenS ?_ ?_); focus (walk_at "size"))
  | ((with_reducible apply in_lenR); focus (first | exact LenAt.m (by walk_at "hget") | exact LenAt.f (by walk_at "hget") | exact LenAt.l (by assumption)))
  | ((with_reducible apply in_ixR); focus (walk_at "getat"))
  | with_reducible refine in_eqI ?_
  | with_reducible refine in_eqS ?_
  | with_reducible refine in_neI ?_
  | with_reducible refine in_neS ?_
  | with_reducible refine in_sl ?_
  | with_reducible refine in_noPart ?_
  | with_reducible refine in_part ?_
  | ((with_reducible refine in_slS ?_ ?_); focus (walk_at "size"))
  | with_reducible refine in_gsub ?_
  | ((with_reducible apply in_setL); (focus (walk_at "hget")); (focus (exact rfl)); try simp only [upd_upd, List.set_cons_zero, List.set_cons_succ, Int.reduceToNat, Int.toNat_zero, List.length_cons, List.length_nil, Nat.reduceAdd])
  | ((with_reducible refine in_next ?_); try dsimp only [Ends.less])
  | ((with_reducible refine in_drop ?_); try dsimp only [Ends.less])
  | with_reducible refine in_and ?_
  | with_reducible refine in_or ?_
  | with_reducible refine in_not ?_
  | with_reducible refine in_andV ?_
  | with_reducible refine in_orV ?_
  | with_reducible refine in_notV ?_
  | with_reducible refine in_ifE ?_
  | with_reducible refine in_isN ?_
  | with_reducible refine in_notN ?_
  | with_reducible refine in_tt ?_
  | with_reducible refine in_ff ?_
  | with_reducible refine in_pos (by first | omega | decide | assumption) ?_
  | with_reducible refine in_neg (by first | omega | decide | assumption) ?_
  | with_reducible refine in_posN (by first | omega | decide | assumption) ?_
  | with_reducible refine in_negN (by first | omega | decide | assumption) ?_
  | ((with_reducible apply in_call); focus (assumption))
  | with_reducible refine in_lst ?_
  | with_reducible refine in_tup ?_
  | ((with_reducible refine in_new ?_ ?_); focus (simp only [List.length_cons, List.length_nil]; first | done | decide | omega))
  | with_reducible refine in_for ?_
  | with_reducible refine in_lc ?_
  | with_reducible refine in_iList ?_
  | with_reducible refine in_iStr ?_
  | with_reducible refine in_iRng1 ?_
  | with_reducible refine in_iRng2 ?_
  | ((with_reducible refine in_rng1 ?_ ?_ ?_); (focus (omega)); (focus (omega)))
  | ((with_reducible refine in_rng2 ?_ ?_); focus (omega))
  | ((with_reducible refine in_retN ?_); try dsimp only [Ends.less])
  | ((with_reducible refine in_brk ?_); try dsimp only [Ends.less])
  | ((with_reducible refine in_ct ?_); try dsimp only [Ends.less])
  | with_reducible refine in_yes ?_
  | with_reducible refine in_bm ?_
  | with_reducible refine in_m1 ?_
  | with_reducible refine in_strT ?_
  | ((with_reducible refine in_clAs ?_); try simp only [List.set_cons_zero, List.set_cons_succ])
  | with_reducible refine in_clPlain ?_
  | with_reducible refine in_xf ?_
  | ((with_reducible refine in_raise ?_); try dsimp only [Ends.less])
  | ((with_reducible apply in_mkx); focus (assumption)))
local macro_rules | `(tactic| walk_at "begin") => `(tactic| simp only [start, List.map_cons, List.map_nil, List.length_cons, List.length_nil, List.replicate_succ, List.replicate_zero, List.cons_append, List.nil_append, List.append_nil, Nat.reduceAdd, Nat.reduceSub])
local macro_rules | `(tactic| walk_at "go") => `(tactic| repeat (walk_at "step"))
section
variable {P : Program} {w : World} {K : PySem.W.Frag} {mg : Str → Option Value} {base : Heap} {k : Nat}
abbrev s__law_name : Stmt := top 25
theorem sc__law_name : FnScope ["_law_bag_here", "_law_names", "_law_letters", "_law_number", "_law_row", "_law_name_here", "_law_pool", "_law_letter", "_law_one"] ["_law_bag_here", "_law_names"] (defScope s__law_name) := ⟨rfl, rfl, rfl, by decide +kernel, rfl, by decide +kernel, by decide +kernel⟩
theorem b__law_name {K : PySem.W.Frag} {f : Addr} {fd : FuncData} (F : FnP K "_law_name" "_law_name" s__law_name f fd) : Binds K fd ["_law_bag_here", "_law_names"] [] := F.bindsN fun _ _ _ _ _ _ us hl => match us, hl with | [_, _], _ => rfl
/-- a name that is not among ns -/
def spName : Sp := fun vs H Q _ => ∃ (b x : Addr) (n : Nat) (ns : List Str), vs = [.ref b, .ref x] ∧ Bag H b n ∧ n < 900000 ∧ Rd H x (.lst (ns.map V.str)) ∧ ns.length ≤ 11 ∧ ∀ (s : Str) (H' : Hp), isNm s → s ∉ ns → But b H H' → Bag H' b (n + 1) → Q (.str s) H'
theorem fx_name (d : DefAt K mg "_law_name" s__law_name) (fr : Free mg) (tt : Fx P w K mg base k "_law_take" (spP spTake)) : Fx P w K mg base (k + 1) "_law_name" (spP spName) := by
  refine Fx.of d sc__law_name b__law_name (fun vs H Q E h => ?_) fun f cdv A outer s H vs Q E hr gd gx h => ⟨_,
    (pss_cons (ps_set (i := 2) sc__law_name.nd rfl (by first | exact Or.inl rfl | exact Or.inr rfl) pe_str)
    (pss_cons (ps_set (i := 3) sc__law_name.nd rfl (by first | exact Or.inl rfl | exact Or.inr rfl) (pe_callG gd rfl (pa_cons (pv 0) (pa_cons (pe_op op_mulG (pe_op op_mulG (pe_op op_mulG pe_int pe_int) pe_int) pe_int) pa_nil))))
    (pss_cons (ps_set (i := 4) sc__law_name.nd rfl (by first | exact Or.inl rfl | exact Or.inr rfl) (pe_lst (pa_cons (pe_ix (ix_K (K := K) rfl (gd_hu hr)) (pv 2) (pe_op op_mod (pe_callTy call_intM rfl fr.int boot_int (pa_cons (pe_op op_fdivW (pv 3) pe_int) pa_nil)) pe_int) fun _ _ => rfl) (pa_cons (pe_ix (ix_K (K := K) rfl (gd_hu hr)) (pv 2) (pe_op op_mod (pe_callTy call_intM rfl fr.int boot_int (pa_cons (pe_op op_fdivW (pv 3) pe_int) pa_nil)) pe_int) fun _ _ => rfl) (pa_cons (pe_ix (ix_K (K := K) rfl (gd_hu hr)) (pv 2) (pe_op op_mod (pe_callTy call_intM rfl fr.int boot_int (pa_cons (pe_op op_fdivW (pv 3) pe_int) pa_nil)) pe_int) fun _ _ => rfl) pa_nil)))))
    (pss_cons (ps_set (i := 5) sc__law_name.nd rfl (by first | exact Or.inl rfl | exact Or.inr rfl) (pe_joinK (K := K) rfl pe_str (pe_slice (sl_K (K := K) rfl) (pv 4) po_none (po_some (pe_op (op_addK (K := K) rfl) pe_int (pe_op op_mod (pe_callTy call_intM rfl fr.int boot_int (pa_cons (pv 3) pa_nil)) pe_int))))))
    (pss_cons (ps_if (pt_cmpR (op_eqK (K := K) rfl (gd_hu hr)) (pe_op op_mod (pe_callTy call_intM rfl fr.int boot_int (pa_cons (pv 3) pa_nil)) pe_int) pe_int (nomark _))
      (pss_one (ps_set (i := 5) sc__law_name.nd rfl (by first | exact Or.inl rfl | exact Or.inr rfl) (pe_slice (sl_K (K := K) rfl) (pe_op op_mulG (pe_joinK (K := K) rfl pe_str (pv 4)) pe_int) po_none (po_some pe_int))))
      pss_nil)
    (pss_cons (ps_set (i := 6) sc__law_name.nd rfl (by first | exact Or.inl rfl | exact Or.inr rfl) (pe_op (op_addK (K := K) rfl) (pe_lst (pa_cons (pv 5) pa_nil)) (pe_lc (own := [("_law_letter", 7)]) rfl sc__law_name.nd (pi_str pe_str) (blkOk_by (N := ["_law_bag_here", "_law_names", "_law_letters", "_law_number", "_law_row", "_law_name_here", "_law_pool", "_law_letter", "_law_one"]) (sc := defScope s__law_name) (by decide +kernel)) (fun _ _ _ _ _ => (pg_name (i := 7) sc__law_name.nd rfl (by first | exact Or.inl rfl | exact Or.inr rfl))) (fun _ _ _ _ _ => pts_nil) (fun _ _ _ _ _ => (pe_op (op_addK (K := K) rfl) (pe_slice (sl_K (K := K) rfl) (pv 5) po_none (po_some pe_int)) (pv 7))))))
    (pss_one (ps_ret (pe_ix (ix_K (K := K) rfl (gd_hu hr)) (pe_lc (own := [("_law_one", 8)]) rfl sc__law_name.nd (pi_listK (K := K) rfl (pv 6)) (blkOk_by (N := ["_law_bag_here", "_law_names", "_law_letters", "_law_number", "_law_row", "_law_name_here", "_law_pool", "_law_letter", "_law_one"]) (sc := defScope s__law_name) (by decide +kernel)) (fun _ _ _ _ _ => (pg_name (i := 8) sc__law_name.nd rfl (by first | exact Or.inl rfl | exact Or.inr rfl))) (fun _ _ _ _ _ => (pts_one (pt_cmpR (op_notInK (K := K) rfl (gd_hu hr)) (pv 8) (pv 1) rfl))) (fun _ _ _ _ _ => (pv 8))) pe_int fun _ _ => rfl))))))))), ?_⟩
  · obtain ⟨b, x, n, ns, rfl, _⟩ := h
    rfl
  · obtain ⟨b, x, n, ns, rfl, hb, hn, hx, hl, q⟩ := h
    walk_at "begin"
    walk_at "go"
    refine ⟨b, _, n, rfl, hb, by omega, by decide, fun r H1 h0 h1 b1 hb1 _ => ?_⟩
    have hx1 : Rd H1 x (.lst (ns.map V.str)) := by
      refine Rd.but hx b1 fun z => ?_
      obtain ⟨d, i, m, c, o, cs, e, _⟩ := hb
      subst z
      rcases hx with e2 | ⟨o, e2⟩
      · rw [e] at e2
        cases ns with
        | nil => cases e2
        | cons a l => cases e2
      · rw [e] at e2; cases e2
    walk_at "go"
    obtain ⟨c1, e1, g1⟩ := letter_at (r / 8 % 26) (Int.emod_nonneg _ (by omega)) (Int.emod_lt_of_pos _ (by omega))
    refine in_ixS e1 (by walk_at "size") ?_
    walk_at "go"
    obtain ⟨c2, e2, g2⟩ := letter_at (r / 208 % 26) (Int.emod_nonneg _ (by omega)) (Int.emod_lt_of_pos _ (by omega))
    refine in_ixS e2 (by walk_at "size") ?_
    walk_at "go"
    obtain ⟨c3, e3, g3⟩ := letter_at (r / 5408 % 26) (Int.emod_nonneg _ (by omega)) (Int.emod_lt_of_pos _ (by omega))
    refine in_ixS e3 (by walk_at "size") ?_
    walk_at "go"
    intro p hp
    walk_at "go"
    have hls : ∀ c ∈ [c1, c2, c3], 97 ≤ c ∧ c ≤ 122 := fun c hc => by
      simp only [List.mem_cons, List.not_mem_nil, or_false] at hc
      rcases hc with rfl | rfl | rfl <;> assumption
    walk_at "go"
    have hk0 : 0 ≤ 1 + r % 4 := by have := Int.emod_nonneg r (show (4 : Int) ≠ 0 by omega); omega
    have hk1 : 1 ≤ (1 + r % 4).toNat := by have := Int.emod_nonneg r (show (4 : Int) ≠ 0 by omega); omega
    have row : [V.str ⟨#[c1]⟩, V.str ⟨#[c2]⟩, V.str ⟨#[c3]⟩] = (([c1, c2, c3].map fun c => [c]).map SX.S).map V.str := rfl
    refine in_slL (SqL.of upd_same) fun p2 hp2 => ?_
    rw [cutV_to hk0, row, ← List.map_take, ← List.map_take]
    refine in_sub1 (SqL.of upd_same) ?_ ?_
    · rw [SX.lens]
      have e0 : ("" : Str).length = 0 := by decide +kernel
      rw [e0, ← List.map_take]
      have : ∀ l : List Nat, l.length ≤ 3 → ((l.map fun c => [c]).map (·.length)).sum ≤ 3 := fun l hl => by
        have : (l.map fun c => [c]).map (·.length) = List.replicate l.length 1 := by
          induction l with
          | nil => rfl
          | cons a r ih => simp only [List.map_cons, List.length_cons, List.length_nil, List.replicate_succ, ih (by simp at hl; omega)]
        rw [this]; simp; omega
      have := this ([c1, c2, c3].take (1 + r % 4).toNat) (by simp; omega)
      omega
    have hz := nm_join (ls := [c1, c2, c3]) hls hk1 (by simp) (by simp)
    generalize Txt.join _ _ = z at *
    walk_at "go"
    generalize hH : upd (upd H1 p _) p2 _ = H2
    have s12 : Same H1 H2 := by rw [← hH]; exact (Same.new hp).trans (Same.new hp2)
    have hpr : H2 p = some (.lst [V.str ⟨#[c1]⟩, V.str ⟨#[c2]⟩, V.str ⟨#[c3]⟩]) := by rw [← hH]; exact (upd_ne (ne_of_none upd_same hp2)).trans upd_same
    clear hH
    refine in_seqK (fun σ' H' => ∃ z, isNm z ∧ σ' = [some (V.ref b), some (V.ref x), some (V.str "qwertyuiopasdfghjklzxcvbnm"), some (V.int r), some (V.ref p), some (.str z), none, none, none] ∧ H' = H2) (fun σ' H' ⟨z, hz, e1, e2⟩ => ?_) (fun N hN => ?_)
    · subst e1 e2
      walk_at "go"
      intro p3 hp3
      walk_at "go"
      refine lcT (S := rStr) walks_str (Str.cps "abcdefghijkl").toList (fun _ => true) (fun c => cutS z none (some 3) ++ ⟨#[c]⟩) (fun _ v c => v = .str ⟨#[c]⟩) (paired_map (F := fun v (c : Nat) => v = V.str ⟨#[c]⟩) (g := fun c => V.str ⟨#[c]⟩) (fun _ => rfl) _) (by rw [List.length_map, low_len, sizeLine_eq]; decide) (fun _ _ => trivial) (fun y c H3 _ s3 e v H4 hY T N hT _ => ?_) (fun p4 vs H3 s3 hp4 hv al => ?_)
      · obtain ⟨rfl, rfl⟩ := hY
        subst e
        have hzl : z.length ≤ 12 := by have := hz.2.1; simpa [Str.length] using this
        walk_at "go"
        refine ⟨rfl, ?_⟩
        walk_at "go"
        refine in_addS ?_ ?_
        · have : (cutS z none (some 3)).length ≤ 4 := by rw [cutS_to (by omega)]; simp [Str.length]; omega
          have : (⟨#[c]⟩ : Str).length = 1 := rfl
          rw [sizeLine_eq]; omega
        exact hT rfl _ _ (fun _ _ h => h) rfl
      have e := All2.strs al
      subst e
      have ft : (Str.cps "abcdefghijkl").toList.filter (fun _ => true) = (Str.cps "abcdefghijkl").toList := List.filter_eq_self.mpr fun _ _ => rfl
      rw [ft] at hv
      refine in_catL (.inl (s3 _ _ upd_same)) (.inl hv) (by simp only [List.length_cons, List.length_nil, List.length_map, low_len, sizeLine_eq]; decide) fun p5 hp5 => ?_
      walk_at "go"
      have pool : [V.str z] ++ ((Str.cps "abcdefghijkl").toList.map fun c => cutS z none (some 3) ++ ⟨#[c]⟩).map V.str = (z :: ((Str.cps "abcdefghijkl").toList.map fun c => cutS z none (some 3) ++ ⟨#[c]⟩)).map V.str := rfl
      rw [pool]
      refine ⟨_, _, rfl, SqL.of upd_same, fun hz6 => ?_⟩
      have s5 : Same H1 (upd H3 p5 (.lst ((z :: ((Str.cps "abcdefghijkl").toList.map fun c => cutS z none (some 3) ++ ⟨#[c]⟩)).map V.str))) := ((s12.trans (Same.new hp3)).trans s3).trans (Same.new hp5)
      refine lcT (S := rStr) walks_list (z :: ((Str.cps "abcdefghijkl").toList.map fun c => cutS z none (some 3) ++ ⟨#[c]⟩)) (fun s => !decide (s ∈ ns)) (fun s => s) (fun _ v c => v = .str c) (paired_map (F := fun v (c : Str) => v = V.str c) (g := V.str) (fun _ => rfl) _) hz6 (fun H' s' => SqL.of (s' _ _ upd_same)) (fun y c H6 hc s6 e v H7 hY T N hT hN => ?_) (fun p7 vs H7 s7 hp7 hv7 al => ?_)
      · obtain ⟨rfl, rfl⟩ := hY
        subst e
        walk_at "go"
        refine ⟨rfl, ?_⟩
        walk_at "go"
        refine in_notInS (.inl (Rd.same (Rd.same hx1 s5) s6)) ?_
        walk_at "go"
        refine in_iteN (fun c5 => ?_) (fun c5 => ?_)
        · walk_at "go"
          exact hT (by simp [c5]) _ _ (fun _ _ h => h) rfl
        · exact hN (by simp [c5]) _ (fun _ _ h => h)
      · have e := All2.strs al
        subst e
        have nd : ((Str.cps "abcdefghijkl").toList.map fun c => cutS z none (some 3) ++ (⟨#[c]⟩ : Str)).Nodup := nodup_map (fun _ _ => more_inj) low_nodup
        obtain ⟨sn, rn, e1, h1, h2⟩ := pool_head (ns := ns) (a := z) nd (by rw [List.length_map, low_len]; omega)
        rw [List.map_id', e1] at hv7
        walk_at "go"
        refine in_ixR (v := .str sn) (GetAt.m hv7 (atI_ok (by omega) rfl)) ?_
        refine q sn _ ?_ h2 (b1.trans (But.of_same (s5.trans s7))) (hb1.same (s5.trans s7))
        rcases List.mem_cons.mp h1 with rfl | h1
        · exact hz
        · obtain ⟨c, hc, rfl⟩ := List.mem_map.mp h1
          exact nm_more hz (low_letters c hc)
    · walk_at "go"
      refine in_ite (fun c4 => ?_) (fun c4 => ?_)
      · walk_at "go"
        refine in_sub1 (ys := [c1, c2, c3].map fun c => SX.S [c]) (SqL.of hpr) (by simp [SX.S_len]; decide +kernel) ?_
        have e : Txt.join ("" : Str) ([c1, c2, c3].map fun c => SX.S [c]) = SX.S [c1, c2, c3] := join_nil [[c1], [c2], [c3]]
        rw [e]
        walk_at "go"
        refine in_mulS (by omega) (by omega) (by rw [SX.S_len]; simp) ?_
        walk_at "go"
        refine in_slS ?_ ?_
        · have := mul4 [c1, c2, c3]
          have : (Txt.mul (SX.S [c1, c2, c3]) 4).length = 12 := by
            show (Txt.mul (SX.S [c1, c2, c3]) 4).cps.size = 12
            rw [← Array.length_toList, this]; rfl
          rw [this, sizeLine_eq]; decide
        walk_at "go"
        exact hN _ _ ⟨_, nm_mul hls (by simp), rfl, rfl⟩
      · walk_at "go"
        exact hN _ _ ⟨z, hz, rfl, rfl⟩
end
end L2.Fk
set_option Elab.async false
set_option linter.all false
set_option maxRecDepth 100000
set_option maxHeartbeats 4000000
namespace L2.Fk
open PySem PySem.Spec PyProof.Rows
local macro_rules | `(tactic| walk_at "same") => `(tactic| first | assumption | exact (fun _ _ h => h) | (refine Same.trans ?_ (Same.new (by assumption)); walk_at "same"))
local macro_rules | `(tactic| walk_at "xd") => `(tactic| first | assumption | exact XDict.new (by walk_at "xd") (by assumption))
local macro_rules | `(tactic| walk_at "hne") => `(tactic| first
  | assumption
  | exact Ne.symm (by assumption)
  | (apply ne_new; (focus (assumption)); (focus (first | assumption | exact upd_same | walk_at "hget")))
  | (apply ne_old; (focus (assumption)); (focus (first | assumption | exact upd_same | walk_at "hget"))))
local macro_rules | `(tactic| walk_at "hget") => `(tactic| first
  | assumption
  | exact upd_same
  | exact (upd_ne (by walk_at "hne")).trans (by walk_at "hget"))
local macro_rules | `(tactic| walk_at "sql") => `(tactic| first
  | assumption
  | exact SqL.of (by walk_at "hget")
  | exact SqL.frz (by walk_at "hget"))
local macro_rules | `(tactic| walk_at "getat") => `(tactic| (
  (first
    | with_reducible show GetAt _ _ _ (V.int (OfNat.ofNat _)) _
    | with_reducible show GetAt _ _ _ (V.int (Neg.neg (OfNat.ofNat _))) _)
  first
    | (apply GetAt.m; (focus (walk_at "hget")); (focus (exact rfl)))
    | (apply GetAt.f; (focus (walk_at "hget")); (focus (exact rfl)))
    | (apply GetAt.t; (focus (exact SqT.of (by walk_at "hget"))); (focus (exact rfl)))
    | (apply GetAt.l; (focus (assumption)); (focus (exact rfl)))))
local macro_rules | `(tactic| walk_at "side") => `(tactic| first
  | omega
  | exact mul_l (by omega)
  | exact mul_r (by omega)
  | exact div_lit (by decide)
  | exact wide_div (by omega) (by assumption) (by decide) (by decide)
  | exact ⟨by decide, by decide, by decide⟩
  | decide
  | assumption)
local macro_rules | `(tactic| walk_at "size") => `(tactic| first
  | assumption
  | (rw [sizeLine_eq]; first | decide | omega | decide +kernel | (simp; done) | (simp; omega)))
local macro_rules | `(tactic| walk_at "step") => `(tactic| first
  | with_reducible refine in_seqA ?_
  | with_reducible refine in_seqE ?_
  | ((with_reducible refine in_asg ?_); try dsimp only [Ends.less])
  | ((with_reducible refine in_name ?_); try simp only [upd_upd, List.set_cons_zero, List.set_cons_succ, Int.reduceToNat, Int.toNat_zero, List.length_cons, List.length_nil, Nat.reduceAdd])
  | ((with_reducible apply in_var); focus (exact rfl))
  | with_reducible refine in_c ?_
  | with_reducible refine in_op ?_
  | with_reducible refine in_un ?_
  | with_reducible refine in_cons ?_
  | with_reducible refine in_nil ?_
  | with_reducible refine in_cb ?_
  | ((with_reducible refine in_ret ?_); try dsimp only [Ends.less])
  | with_reducible refine in_ifS ?_
  | with_reducible refine in_test ?_
  | with_reducible refine in_tB ?_
  | with_reducible refine in_bl ?_
  | with_reducible refine in_int ?_
  | with_reducible refine in_str ?_
  | with_reducible refine in_rI0 ?_
  | ((with_reducible refine in_rI ?_ ?_); focus (walk_at "side"))
  | with_reducible refine in_rU ?_
  | ((with_reducible refine in_mul ?_ ?_); focus (walk_at "side"))
  | with_reducible refine in_addI ?_
  | ((with_reducible refine in_addS ?_ ?_); focus (walk_at "size"))
  | with_reducible refine in_intI ?_
  | with_reducible refine in_abs ?_
  | with_reducible refine in_max2 ?_
  | with_reducible refine in_min2 ?_
  | ((with_reducible refine in_lenS ?_ ?_); focus (walk_at "size"))
  | ((with_reducible apply in_lenR); focus (first | exact LenAt.m (by walk_at "hget") | exact LenAt.f (by walk_at "hget") | exact LenAt.l (by assumption)))
  | ((with_reducible apply in_ixR); focus (walk_at "getat"))
  | with_reducible refine in_eqI ?_
  | with_reducible refine in_eqS ?_
  | with_reducible refine in_neI ?_
  | with_reducible refine in_neS ?_
  | with_reducible refine in_sl ?_
  | with_reducible refine in_noPart ?_
  | with_reducible refine in_part ?_
  | ((with_reducible refine in_slS ?_ ?_); focus (walk_at "size"))
  | with_reducible refine in_gsub ?_
  | ((with_reducible apply in_setL); (focus (walk_at "hget")); (focus (exact rfl)); try simp only [upd_upd, List.set_cons_zero, List.set_cons_succ, Int.reduceToNat, Int.toNat_zero, List.length_cons, List.length_nil, Nat.reduceAdd])
  | ((with_reducible refine in_next ?_); try dsimp only [Ends.less])
  | ((with_reducible refine in_drop ?_); try dsimp only [Ends.less])
  | with_reducible refine in_and ?_
  | with_reducible refine in_or ?_
  | with_reducible refine in_not ?_
  | with_reducible refine in_andV ?_
  | with_reducible refine in_orV ?_
  | with_reducible refine in_notV ?_
  | with_reducible refine in_ifE ?_
  | with_reducible refine in_isN ?_
  | with_reducible refine in_notN ?_
  | with_reducible refine in_tt ?_
  | with_reducible refine in_ff ?_
  | with_reducible refine in_pos (by first | omega | decide | assumption) ?_
  | with_reducible refine in_neg (by first | omega | decide | assumption) ?_
  | with_reducible refine in_posN (by first | omega | decide | assumption) ?_
  | with_reducible refine in_negN (by first | omega | decide | assumption) ?_
  | ((with_reducible apply in_call); focus (assumption))
  | with_reducible refine in_lst ?_
  | with_reducible refine in_tup ?_
  | ((with_reducible refine in_new ?_ ?_); focus (simp only [List.length_cons, List.length_nil]; first | done | decide | omega))
  | with_reducible refine in_for ?_
  | with_reducible refine in_lc ?_
  | with_reducible refine in_iList ?_
  | with_reducible refine in_iStr ?_
  | with_reducible refine in_iRng1 ?_
  | with_reducible refine in_iRng2 ?_
  | ((with_reducible refine in_rng1 ?_ ?_ ?_); (focus (omega)); (focus (omega)))
  | ((with_reducible refine in_rng2 ?_ ?_); focus (omega))
  | ((with_reducible refine in_retN ?_); try dsimp only [Ends.less])
  | ((with_reducible refine in_brk ?_); try dsimp only [Ends.less])
  | ((with_reducible refine in_ct ?_); try dsimp only [Ends.less])
  | with_reducible refine in_yes ?_
  | with_reducible refine in_bm ?_
  | with_reducible refine in_m1 ?_
  | with_reducible refine in_strT ?_
  | ((with_reducible refine in_clAs ?_); try simp only [List.set_cons_zero, List.set_cons_succ])
  | with_reducible refine in_clPlain ?_
  | with_reducible refine in_xf ?_
  | ((with_reducible refine in_raise ?_); try dsimp only [Ends.less])
  | ((with_reducible apply in_mkx); focus (assumption)))
local macro_rules | `(tactic| walk_at "begin") => `(tactic| simp only [start, List.map_cons, List.map_nil, List.length_cons, List.length_nil, List.replicate_succ, List.replicate_zero, List.cons_append, List.nil_append, List.append_nil, Nat.reduceAdd, Nat.reduceSub])
local macro_rules | `(tactic| walk_at "go") => `(tactic| repeat (walk_at "step"))
section
variable {P : Program} {w : World} {K : PySem.W.Frag} {mg : Str → Option Value} {base : Heap} {k : Nat}
/-- the classes by their number, what an instance keeps (as the dict stands) -/
def eName : List Str := ["BadName", "UnknownFork", "RepeatedFork", "BadCount", "BadLimit", "BadWord", "BadText", "BadStep", "BadLot", "TooDeep", "TooMany", "Clash", "Apart", "NoStrike", "NoBlock", "NoFitting", "NothingToUndo", "NothingToRedo", "LineError"]
def eFlds (nm ot : Str) (nu : Int) : List (Option (List (Str × V))) :=
  [some [("name", .str nm)], some [("name", .str nm)], some [("name", .str nm)], some [("count", .int nu)], some [("value", .int nu)], some [("word", .str nm)], some [("text", .str nm)], some [("step", .int nu)], some [("size", .int nu)], some [("depth", .int nu)],
    some [("most", .int nu), ("what", .str nm)], some [("name", .str nm)], some [("second", .str ot), ("first", .str nm)], some [("index", .int nu)], some [("index", .int nu)], none, none, none, some [("line", .str nm), ("index", .int nu)]]
/-- such an error leaves -/
def EOut (mg : Str → Option Value) (x : Str) (fs : Option (List (Str × V))) (H : Hp) (E : XK) : Prop := match fs with
  | some l => ∀ d, H d = none → E (.ref (cOf mg x)) (some d) (upd H d (.xd l))
  | none => E (.ref (cOf mg x)) none H
/-- way, name, other, number: error no. way leaves -/
def spWay (mg : Str → Option Value) (lo hi : Nat) : Sp := fun vs H Q E => ∃ (n : Nat) (nm ot : Str) (nu : Int) (x : Str) (fs : Option (List (Str × V))), vs = [.int n, .str nm, .str ot, .int nu] ∧ lo ≤ n ∧ n < hi ∧ eName[n]? = some x ∧ (eFlds nm ot nu)[n]? = some fs ∧ EOut mg x fs H E
structure EarlyX (P : Program) (w : World) (K : PySem.W.Frag) (mg : Str → Option Value) (base : Heap) (k : Nat) : Prop where
  e0 : Ex P w K mg base k "BadName" (spEx1 (cOf mg "BadName") "name")
  e1 : Ex P w K mg base k "UnknownFork" (spEx1 (cOf mg "UnknownFork") "name")
  e2 : Ex P w K mg base k "RepeatedFork" (spEx1 (cOf mg "RepeatedFork") "name")
  e3 : Ex P w K mg base k "BadCount" (spEx1 (cOf mg "BadCount") "count")
  e4 : Ex P w K mg base k "BadLimit" (spEx1 (cOf mg "BadLimit") "value")
  e5 : Ex P w K mg base k "BadWord" (spEx1 (cOf mg "BadWord") "word")
  e6 : Ex P w K mg base k "BadText" (spEx1 (cOf mg "BadText") "text")
  e7 : Ex P w K mg base k "BadStep" (spEx1 (cOf mg "BadStep") "step")
  e8 : Ex P w K mg base k "BadLot" (spEx1 (cOf mg "BadLot") "size")
  e9 : Ex P w K mg base k "TooDeep" (spEx1 (cOf mg "TooDeep") "depth")
structure LateX (P : Program) (w : World) (K : PySem.W.Frag) (mg : Str → Option Value) (base : Heap) (k : Nat) : Prop where
  e0 : Ex P w K mg base k "TooMany" (spEx2 (cOf mg "TooMany") "what" "most")
  e1 : Ex P w K mg base k "Clash" (spEx1 (cOf mg "Clash") "name")
  e2 : Ex P w K mg base k "Apart" (spEx2 (cOf mg "Apart") "first" "second")
  e3 : Ex P w K mg base k "NoStrike" (spEx1 (cOf mg "NoStrike") "index")
  e4 : Ex P w K mg base k "NoBlock" (spEx1 (cOf mg "NoBlock") "index")
  e5 : Ex P w K mg base k "NoFitting" (spEx0 (cOf mg "NoFitting"))
  e6 : Ex P w K mg base k "NothingToUndo" (spEx0 (cOf mg "NothingToUndo"))
  e7 : Ex P w K mg base k "NothingToRedo" (spEx0 (cOf mg "NothingToRedo"))
  e8 : Ex P w K mg base k "LineError" (spEx2 (cOf mg "LineError") "index" "line")
abbrev s__law_early : Stmt := top 27
theorem sc__law_early : FnScope ["_law_way", "_law_name_here", "_law_other", "_law_number"] ["_law_way", "_law_name_here", "_law_other", "_law_number"] (defScope s__law_early) := ⟨rfl, rfl, rfl, by decide +kernel, rfl, by decide +kernel, by decide +kernel⟩
theorem b__law_early {K : PySem.W.Frag} {f : Addr} {fd : FuncData} (F : FnP K "_law_early" "_law_early" s__law_early f fd) : Binds K fd ["_law_way", "_law_name_here", "_law_other", "_law_number"] [] := F.bindsN fun _ _ _ _ _ _ us hl => match us, hl with | [_, _, _, _], _ => rfl
theorem fx_early (d : DefAt K mg "_law_early" s__law_early) (fr : Free mg) (ex : EarlyX P w K mg base k) : Fx P w K mg base (k + 1) "_law_early" (spP (spWay mg 0 10)) := by
  obtain ⟨e0, e1, e2, e3, e4, e5, e6, e7, e8, e9⟩ := ex
  refine Fx.of d sc__law_early b__law_early (fun vs H Q E h => ?_) fun f cdv A outer s H vs Q E hr gd gx h => ⟨_,
    (pss_one (ps_if (pt_cmpR (op_eqK (K := K) rfl (gd_hu hr)) (pv 0) pe_int (nomark _))
      (pss_one (ps_raiseG rfl gd.tk (pmk_G gx rfl (pa_cons (pv 1) pa_nil))))
      (pss_one (ps_if (pt_cmpR (op_eqK (K := K) rfl (gd_hu hr)) (pv 0) pe_int (nomark _))
        (pss_one (ps_raiseG rfl gd.tk (pmk_G gx rfl (pa_cons (pv 1) pa_nil))))
        (pss_one (ps_if (pt_cmpR (op_eqK (K := K) rfl (gd_hu hr)) (pv 0) pe_int (nomark _))
          (pss_one (ps_raiseG rfl gd.tk (pmk_G gx rfl (pa_cons (pv 1) pa_nil))))
          (pss_one (ps_if (pt_cmpR (op_eqK (K := K) rfl (gd_hu hr)) (pv 0) pe_int (nomark _))
            (pss_one (ps_raiseG rfl gd.tk (pmk_G gx rfl (pa_cons (pv 3) pa_nil))))
            (pss_one (ps_if (pt_cmpR (op_eqK (K := K) rfl (gd_hu hr)) (pv 0) pe_int (nomark _))
              (pss_one (ps_raiseG rfl gd.tk (pmk_G gx rfl (pa_cons (pv 3) pa_nil))))
              (pss_one (ps_if (pt_cmpR (op_eqK (K := K) rfl (gd_hu hr)) (pv 0) pe_int (nomark _))
                (pss_one (ps_raiseG rfl gd.tk (pmk_G gx rfl (pa_cons (pv 1) pa_nil))))
                (pss_one (ps_if (pt_cmpR (op_eqK (K := K) rfl (gd_hu hr)) (pv 0) pe_int (nomark _))
                  (pss_one (ps_raiseG rfl gd.tk (pmk_G gx rfl (pa_cons (pv 1) pa_nil))))
                  (pss_one (ps_if (pt_cmpR (op_eqK (K := K) rfl (gd_hu hr)) (pv 0) pe_int (nomark _))
                    (pss_one (ps_raiseG rfl gd.tk (pmk_G gx rfl (pa_cons (pv 3) pa_nil))))
                    (pss_one (ps_if (pt_cmpR (op_eqK (K := K) rfl (gd_hu hr)) (pv 0) pe_int (nomark _))
                      (pss_one (ps_raiseG rfl gd.tk (pmk_G gx rfl (pa_cons (pv 3) pa_nil))))
                      (pss_one (ps_raiseG rfl gd.tk (pmk_G gx rfl (pa_cons (pv 3) pa_nil)))))))))))))))))))))), ?_⟩
  · obtain ⟨n, nm, ot, nu, x, fs, rfl, _⟩ := h
    rfl
  · obtain ⟨n, nm, ot, nu, x, fs, rfl, h1, h2, hx, hf, q⟩ := h
    walk_at "begin"
    have hn : n = 0 ∨ n = 1 ∨ n = 2 ∨ n = 3 ∨ n = 4 ∨ n = 5 ∨ n = 6 ∨ n = 7 ∨ n = 8 ∨ n = 9 := by omega
    rcases hn with rfl | rfl | rfl | rfl | rfl | rfl | rfl | rfl | rfl | rfl <;> (
      cases Option.some.inj hx
      cases Option.some.inj hf
      walk_at "go"
      exact ⟨_, rfl, fun d hd => q d hd⟩)
abbrev s__law_late : Stmt := top 28
theorem sc__law_late : FnScope ["_law_way", "_law_name_here", "_law_other", "_law_number"] ["_law_way", "_law_name_here", "_law_other", "_law_number"] (defScope s__law_late) := ⟨rfl, rfl, rfl, by decide +kernel, rfl, by decide +kernel, by decide +kernel⟩
theorem b__law_late {K : PySem.W.Frag} {f : Addr} {fd : FuncData} (F : FnP K "_law_late" "_law_late" s__law_late f fd) : Binds K fd ["_law_way", "_law_name_here", "_law_other", "_law_number"] [] := F.bindsN fun _ _ _ _ _ _ us hl => match us, hl with | [_, _, _, _], _ => rfl
theorem fx_late (d : DefAt K mg "_law_late" s__law_late) (fr : Free mg) (ex : LateX P w K mg base k) : Fx P w K mg base (k + 1) "_law_late" (spP (spWay mg 10 19)) := by
  obtain ⟨e0, e1, e2, e3, e4, e5, e6, e7, e8⟩ := ex
  refine Fx.of d sc__law_late b__law_late (fun vs H Q E h => ?_) fun f cdv A outer s H vs Q E hr gd gx h => ⟨_,
    (pss_one (ps_if (pt_cmpR (op_eqK (K := K) rfl (gd_hu hr)) (pv 0) pe_int (nomark _))
      (pss_one (ps_raiseG rfl gd.tk (pmk_G gx rfl (pa_cons (pv 1) (pa_cons (pv 3) pa_nil)))))
      (pss_one (ps_if (pt_cmpR (op_eqK (K := K) rfl (gd_hu hr)) (pv 0) pe_int (nomark _))
        (pss_one (ps_raiseG rfl gd.tk (pmk_G gx rfl (pa_cons (pv 1) pa_nil))))
        (pss_one (ps_if (pt_cmpR (op_eqK (K := K) rfl (gd_hu hr)) (pv 0) pe_int (nomark _))
          (pss_one (ps_raiseG rfl gd.tk (pmk_G gx rfl (pa_cons (pv 1) (pa_cons (pv 2) pa_nil)))))
          (pss_one (ps_if (pt_cmpR (op_eqK (K := K) rfl (gd_hu hr)) (pv 0) pe_int (nomark _))
            (pss_one (ps_raiseG rfl gd.tk (pmk_G gx rfl (pa_cons (pv 3) pa_nil))))
            (pss_one (ps_if (pt_cmpR (op_eqK (K := K) rfl (gd_hu hr)) (pv 0) pe_int (nomark _))
              (pss_one (ps_raiseG rfl gd.tk (pmk_G gx rfl (pa_cons (pv 3) pa_nil))))
              (pss_one (ps_if (pt_cmpR (op_eqK (K := K) rfl (gd_hu hr)) (pv 0) pe_int (nomark _))
                (pss_one (ps_raiseG rfl gd.tk (pmk_G0 gx rfl)))
                (pss_one (ps_if (pt_cmpR (op_eqK (K := K) rfl (gd_hu hr)) (pv 0) pe_int (nomark _))
                  (pss_one (ps_raiseG rfl gd.tk (pmk_G0 gx rfl)))
                  (pss_one (ps_if (pt_cmpR (op_eqK (K := K) rfl (gd_hu hr)) (pv 0) pe_int (nomark _))
                    (pss_one (ps_raiseG rfl gd.tk (pmk_G0 gx rfl)))
                    (pss_one (ps_raiseG rfl gd.tk (pmk_G gx rfl (pa_cons (pv 3) (pa_cons (pv 1) pa_nil))))))))))))))))))))), ?_⟩
  · obtain ⟨n, nm, ot, nu, x, fs, rfl, _⟩ := h
    rfl
  · obtain ⟨n, nm, ot, nu, x, fs, rfl, h1, h2, hx, hf, q⟩ := h
    walk_at "begin"
    have hn : n = 10 ∨ n = 11 ∨ n = 12 ∨ n = 13 ∨ n = 14 ∨ n = 15 ∨ n = 16 ∨ n = 17 ∨ n = 18 := by omega
    rcases hn with rfl | rfl | rfl | rfl | rfl | rfl | rfl | rfl | rfl <;> (
      cases Option.some.inj hx
      cases Option.some.inj hf
      walk_at "go"
      first | exact ⟨_, rfl, fun d hd => q d hd⟩ | exact ⟨_, _, rfl, fun d hd => q d hd⟩ | exact ⟨by decide, q⟩)
abbrev s__law_raise : Stmt := top 29
theorem sc__law_raise : FnScope ["_law_way", "_law_name_here", "_law_other", "_law_number"] ["_law_way", "_law_name_here", "_law_other", "_law_number"] (defScope s__law_raise) := ⟨rfl, rfl, rfl, by decide +kernel, rfl, by decide +kernel, by decide +kernel⟩
theorem b__law_raise {K : PySem.W.Frag} {f : Addr} {fd : FuncData} (F : FnP K "_law_raise" "_law_raise" s__law_raise f fd) : Binds K fd ["_law_way", "_law_name_here", "_law_other", "_law_number"] [] := F.bindsN fun _ _ _ _ _ _ us hl => match us, hl with | [_, _, _, _], _ => rfl
theorem fx_raise (d : DefAt K mg "_law_raise" s__law_raise) (fr : Free mg) (t1 : Fx P w K mg base k "_law_early" (spP (spWay mg 0 10))) (t2 : Fx P w K mg base k "_law_late" (spP (spWay mg 10 19))) : Fx P w K mg base (k + 1) "_law_raise" (spP (spWay mg 0 19)) := by
  refine Fx.of d sc__law_raise b__law_raise (fun vs H Q E h => ?_) fun f cdv A outer s H vs Q E hr gd gx h => ⟨_,
    (pss_one (ps_if (pt_cmpR op_lt (pv 0) pe_int (nomark _))
      (pss_one (ps_expr (pe_callG gd rfl (pa_cons (pv 0) (pa_cons (pv 1) (pa_cons (pv 2) (pa_cons (pv 3) pa_nil)))))))
      (pss_one (ps_expr (pe_callG gd rfl (pa_cons (pv 0) (pa_cons (pv 1) (pa_cons (pv 2) (pa_cons (pv 3) pa_nil))))))))), ?_⟩
  · obtain ⟨n, nm, ot, nu, x, fs, rfl, _⟩ := h
    rfl
  · obtain ⟨n, nm, ot, nu, x, fs, rfl, h1, h2, hx, hf, q⟩ := h
    walk_at "begin"
    walk_at "go"
    have pass : ∀ {F : XK}, (∀ c d H', E c d H' → F c d H') → EOut mg x fs H F := fun {F} hF => by
      cases fs with
      | none => exact hF _ _ _ q
      | some l => exact fun d hd => hF _ _ _ (q d hd)
    refine in_ite (fun c => ?_) (fun c => ?_)
    · walk_at "go"
      exact ⟨n, nm, ot, nu, x, fs, rfl, by omega, by omega, hx, hf, pass fun _ _ _ h _ => h⟩
    · walk_at "go"
      exact ⟨n, nm, ot, nu, x, fs, rfl, by omega, by omega, hx, hf, pass fun _ _ _ h _ => h⟩
end
end L2.Fk
set_option Elab.async false
set_option linter.all false
set_option maxRecDepth 100000
set_option maxHeartbeats 4000000
namespace L2.Fk
open PySem PySem.Spec PyProof.Rows
local macro_rules | `(tactic| walk_at "same") => `(tactic| first | assumption | exact (fun _ _ h => h) | (refine Same.trans ?_ (Same.new (by assumption)); walk_at "same"))
local macro_rules | `(tactic| walk_at "xd") => `(tactic| first | assumption | exact XDict.new (by walk_at "xd") (by assumption))
local macro_rules | `(tactic| walk_at "hne") => `(tactic| first
  | assumption
  | exact Ne.symm (by assumption)
  | (apply ne_new; (focus (assumption)); (focus (first | assumption | exact upd_same | walk_at "hget")))
  | (apply ne_old; (focus (assumption)); (focus (first | assumption | exact upd_same | walk_at "hget"))))
local macro_rules | `(tactic| walk_at "hget") => `(tactic| first
  | assumption
  | exact upd_same
  | exact (upd_ne (by walk_at "hne")).trans (by walk_at "hget"))
local macro_rules | `(tactic| walk_at "sql") => `(tactic| first
  | assumption
  | exact SqL.of (by walk_at "hget")
  | exact SqL.frz (by walk_at "hget"))
local macro_rules | `(tactic| walk_at "getat") => `(tactic| (
  (first
    | with_reducible show GetAt _ _ _ (V.int (OfNat.ofNat _)) _
    | with_reducible show GetAt _ _ _ (V.int (Neg.neg (OfNat.ofNat _))) _)
  first
    | (apply GetAt.m; (focus (walk_at "hget")); (focus (exact rfl)))
    | (apply GetAt.f; (focus (walk_at "hget")); (focus (exact rfl)))
    | (apply GetAt.t; (focus (exact SqT.of (by walk_at "hget"))); (focus (exact rfl)))
    | (apply GetAt.l; (focus (assumption)); (focus (exact rfl)))))
local macro_rules | `(tactic| walk_at "side") => `(tactic| first
  | omega
  | exact mul_l (by omega)
  | exact mul_r (by omega)
  | exact div_lit (by decide)
  | exact wide_div (by omega) (by assumption) (by decide) (by decide)
  | exact ⟨by decide, by decide, by decide⟩
  | decide
  | assumption)
local macro_rules | `(tactic| walk_at "size") => `(tactic| first
  | assumption
  | (rw [sizeLine_eq]; first | decide | omega | decide +kernel | (simp; done) | (simp; omega)))
local macro_rules | `(tactic| walk_at "step") => `(tactic| first
  | with_reducible refine in_seqA ?_
  | with_reducible refine in_seqE ?_
  | ((with_reducible refine in_asg ?_); try dsimp only [Ends.less])
  | ((with_reducible refine in_name ?_); try simp only [upd_upd, List.set_cons_zero, List.set_cons_succ, Int.reduceToNat, Int.toNat_zero, List.length_cons, List.length_nil, Nat.reduceAdd])
  | ((with_reducible apply in_var); focus (exact rfl))
  | with_reducible refine in_c ?_
  | with_reducible refine in_op ?_
  | with_reducible refine in_un ?_
  | with_reducible refine in_cons ?_
  | with_reducible refine in_nil ?_
  | with_reducible refine in_cb ?_
  | ((with_reducible refine in_ret ?_); try dsimp only [Ends.less])
  | with_reducible refine in_ifS ?_
  | with_reducible refine in_test ?_
  | with_reducible refine in_tB ?_
  | with_reducible refine in_bl ?_
  | with_reducible refine in_int ?_
  | with_reducible refine in_str ?_
  | with_reducible refine in_rI0 ?_
  | ((with_reducible refine in_rI ?_ ?_); focus (walk_at "side"))
  | with_reducible refine in_rU ?_
  | ((with_reducible refine in_mul ?_ ?_); focus (walk_at "side"))
  | with_reducible refine in_addI ?_
  | ((with_reducible refine in_addS ?_ ?_); focus (walk_at "size"))
  | with_reducible refine in_intI ?_
  | with_reducible refine in_abs ?_
  | with_reducible refine in_max2 ?_
  | with_reducible refine in_min2 ?_
  | ((with_reducible refine in_lenS ?_ ?_); focus (walk_at "size"))
  | ((with_reducible apply in_lenR); focus (first | exact LenAt.m (by walk_at "hget") | exact LenAt.f (by walk_at "hget") | exact LenAt.l (by assumption)))
  | ((with_reducible apply in_ixR); focus (walk_at "getat"))
  | with_reducible refine in_eqI ?_
  | with_reducible refine in_eqS ?_
  | with_reducible refine in_neI ?_
  | with_reducible refine in_neS ?_
  | with_reducible refine in_sl ?_
  | with_reducible refine in_noPart ?_
  | with_reducible refine in_part ?_
  | ((with_reducible refine in_slS ?_ ?_); focus (walk_at "size"))
  | with_reducible refine in_gsub ?_
  | ((with_reducible apply in_setL); (focus (walk_at "hget")); (focus (exact rfl)); try simp only [upd_upd, List.set_cons_zero, List.set_cons_succ, Int.reduceToNat, Int.toNat_zero, List.length_cons, List.length_nil, Nat.reduceAdd])
  | ((with_reducible refine in_next ?_); try dsimp only [Ends.less])
  | ((with_reducible refine in_drop ?_); try dsimp only [Ends.less])
  | with_reducible refine in_and ?_
  | with_reducible refine in_or ?_
  | with_reducible refine in_not ?_
  | with_reducible refine in_andV ?_
  | with_reducible refine in_orV ?_
  | with_reducible refine in_notV ?_
  | with_reducible refine in_ifE ?_
  | with_reducible refine in_isN ?_
  | with_reducible refine in_notN ?_
  | with_reducible refine in_tt ?_
  | with_reducible refine in_ff ?_
  | with_reducible refine in_pos (by first | omega | decide | assumption) ?_
  | with_reducible refine in_neg (by first | omega | decide | assumption) ?_
  | with_reducible refine in_posN (by first | omega | decide | assumption) ?_
  | with_reducible refine in_negN (by first | omega | decide | assumption) ?_
  | ((with_reducible apply in_call); focus (assumption))
  | with_reducible refine in_lst ?_
  | with_reducible refine in_tup ?_
  | ((with_reducible refine in_new ?_ ?_); focus (simp only [List.length_cons, List.length_nil]; first | done | decide | omega))
  | with_reducible refine in_for ?_
  | with_reducible refine in_lc ?_
  | with_reducible refine in_iList ?_
  | with_reducible refine in_iStr ?_
  | with_reducible refine in_iRng1 ?_
  | with_reducible refine in_iRng2 ?_
  | ((with_reducible refine in_rng1 ?_ ?_ ?_); (focus (omega)); (focus (omega)))
  | ((with_reducible refine in_rng2 ?_ ?_); focus (omega))
  | ((with_reducible refine in_retN ?_); try dsimp only [Ends.less])
  | ((with_reducible refine in_brk ?_); try dsimp only [Ends.less])
  | ((with_reducible refine in_ct ?_); try dsimp only [Ends.less])
  | with_reducible refine in_yes ?_
  | with_reducible refine in_bm ?_
  | with_reducible refine in_m1 ?_
  | with_reducible refine in_strT ?_
  | ((with_reducible refine in_clAs ?_); try simp only [List.set_cons_zero, List.set_cons_succ])
  | with_reducible refine in_clPlain ?_
  | with_reducible refine in_xf ?_
  | ((with_reducible refine in_raise ?_); try dsimp only [Ends.less])
  | ((with_reducible apply in_mkx); focus (assumption)))
local macro_rules | `(tactic| walk_at "begin") => `(tactic| simp only [start, List.map_cons, List.map_nil, List.length_cons, List.length_nil, List.replicate_succ, List.replicate_zero, List.cons_append, List.nil_append, List.append_nil, Nat.reduceAdd, Nat.reduceSub])
local macro_rules | `(tactic| walk_at "go") => `(tactic| repeat (walk_at "step"))
section
variable {P : Program} {w : World} {K : PySem.W.Frag} {mg : Str → Option Value} {base : Heap} {k : Nat}
structure ErrsAt (K : PySem.W.Frag) (mg : Str → Option Value) : Prop where
  er_BadName : ErrX K mg "BadName" ["name"]
  er_UnknownFork : ErrX K mg "UnknownFork" ["name"]
  er_RepeatedFork : ErrX K mg "RepeatedFork" ["name"]
  er_BadCount : ErrX K mg "BadCount" ["count"]
  er_BadLimit : ErrX K mg "BadLimit" ["value"]
  er_BadWord : ErrX K mg "BadWord" ["word"]
  er_BadText : ErrX K mg "BadText" ["text"]
  er_BadStep : ErrX K mg "BadStep" ["step"]
  er_BadLot : ErrX K mg "BadLot" ["size"]
  er_TooDeep : ErrX K mg "TooDeep" ["depth"]
  er_TooMany : ErrX K mg "TooMany" ["what", "most"]
  er_Clash : ErrX K mg "Clash" ["name"]
  er_Apart : ErrX K mg "Apart" ["first", "second"]
  er_NoStrike : ErrX K mg "NoStrike" ["index"]
  er_NoBlock : ErrX K mg "NoBlock" ["index"]
  er_NoFitting : ErrX K mg "NoFitting" []
  er_NothingToUndo : ErrX K mg "NothingToUndo" []
  er_NothingToRedo : ErrX K mg "NothingToRedo" []
  er_LineError : ErrX K mg "LineError" ["index", "line"]
  er_ForkError : ErrX K mg "ForkError" []
  ecs : ∀ x ∈ eName, ExcC K (cOf mg x)
  exm : ∀ x ∈ eName, ∀ y ∈ eName, PySem.W.exmOne K (.ref (cOf mg x)) (.ref (cOf mg y)) = some (decide (x = y))
  exf : ∀ x ∈ eName, PySem.W.exmOne K (.ref (cOf mg x)) (.ref (cOf mg "ForkError")) = some true
  kit : ∀ x ∈ eName, ∀ y ∈ eName, PySem.W.kitOne K (.ref (cOf mg x)) (.ref (cOf mg y)) = some (decide (x = y))
  kiv : ∀ x ∈ eName, PySem.W.kitOne K (.ref (cOf mg x)) (.type "ValueError") = some true
/-- what an instance keeps, in the order of its __init__ -/
def eVals (nm ot : Str) (nu : Int) : List (List V) :=
  [[.str nm], [.str nm], [.str nm], [.int nu], [.int nu], [.str nm], [.str nm], [.int nu], [.int nu], [.int nu], [.str nm, .int nu], [.str nm], [.str nm, .str ot], [.int nu], [.int nu], [], [], [], [.int nu, .str nm]]
def spKept (lo hi : Nat) : Sp := fun vs H Q _ => ∃ (n : Nat) (nm ot : Str) (nu : Int) (xs : List V), vs = [.int n, .str nm, .str ot, .int nu] ∧ lo ≤ n ∧ n < hi ∧ (eVals nm ot nu)[n]? = some xs ∧ ∀ (p : Addr) (H' : Hp), Same H H' → H p = none → H' p = some (.lst xs) → Q (.ref p) H'
abbrev s__law_kept_early : Stmt := top 30
theorem sc__law_kept_early : FnScope ["_law_way", "_law_name_here", "_law_other", "_law_number", "e"] ["_law_way", "_law_name_here", "_law_other", "_law_number"] (defScope s__law_kept_early) := ⟨rfl, rfl, rfl, by decide +kernel, rfl, by decide +kernel, by decide +kernel⟩
theorem b__law_kept_early {K : PySem.W.Frag} {f : Addr} {fd : FuncData} (F : FnP K "_law_kept_early" "_law_kept_early" s__law_kept_early f fd) : Binds K fd ["_law_way", "_law_name_here", "_law_other", "_law_number"] [] := F.bindsN fun _ _ _ _ _ _ us hl => match us, hl with | [_, _, _, _], _ => rfl
theorem fx_kept_early (d : DefAt K mg "_law_kept_early" s__law_kept_early) (fr : Free mg) (er : ErrsAt K mg) (t1 : Fx P w K mg base k "_law_early" (spP (spWay mg 0 10))) : Fx P w K mg base (k + 1) "_law_kept_early" (spP (spKept 0 10)) := by
  obtain ⟨er_BadName, er_UnknownFork, er_RepeatedFork, er_BadCount, er_BadLimit, er_BadWord, er_BadText, er_BadStep, er_BadLot, er_TooDeep, er_TooMany, er_Clash, er_Apart, er_NoStrike, er_NoBlock, er_NoFitting, er_NothingToUndo, er_NothingToRedo, er_LineError, er_ForkError, ecs, exm, exf, kit, kiv⟩ := er
  have eq : ∀ x, x ∈ eName → PySem.W.exmOne K (.ref (cOf mg x)) (.ref (cOf mg x)) = some true := fun x h => by rw [exm x h x h, decide_eq_true rfl]
  have ne : ∀ x y, x ∈ eName → y ∈ eName → x ≠ y → PySem.W.exmOne K (.ref (cOf mg x)) (.ref (cOf mg y)) = some false := fun x y h h' e => by rw [exm x h y h', decide_eq_false e]
  refine Fx.of d sc__law_kept_early b__law_kept_early (fun vs H Q E h => ?_) fun f cdv A outer s H vs Q E hr gd gx h => ⟨_,
    (pss_cons (ps_tryG rfl rfl gd.tk (fun W pn xe tkw _ => (pss_one (ps_expr (pe_callG (gd.wish tkw) rfl (pa_cons (pv 0) (pa_cons (pv 1) (pa_cons (pv 2) (pa_cons (pv 3) pa_nil))))))))
      (ClsOk.named (i := 4) sc__law_kept_early.nd rfl rfl ⟨rfl, by decide, Or.inl er_BadName.g⟩ (fun a oe cls d pn hz hf => (pss_one (ps_ret (pe_lst (pa_cons (pe_xfG (K := K) rfl er_BadName.xf (er_BadName.no "name" (by decide)) hz hf (pv 4)) pa_nil)))))
      (ClsOk.named (i := 4) sc__law_kept_early.nd rfl rfl ⟨rfl, by decide, Or.inl er_UnknownFork.g⟩ (fun a oe cls d pn hz hf => (pss_one (ps_ret (pe_lst (pa_cons (pe_xfG (K := K) rfl er_UnknownFork.xf (er_UnknownFork.no "name" (by decide)) hz hf (pv 4)) pa_nil)))))
      (ClsOk.named (i := 4) sc__law_kept_early.nd rfl rfl ⟨rfl, by decide, Or.inl er_RepeatedFork.g⟩ (fun a oe cls d pn hz hf => (pss_one (ps_ret (pe_lst (pa_cons (pe_xfG (K := K) rfl er_RepeatedFork.xf (er_RepeatedFork.no "name" (by decide)) hz hf (pv 4)) pa_nil)))))
      (ClsOk.named (i := 4) sc__law_kept_early.nd rfl rfl ⟨rfl, by decide, Or.inl er_BadCount.g⟩ (fun a oe cls d pn hz hf => (pss_one (ps_ret (pe_lst (pa_cons (pe_xfG (K := K) rfl er_BadCount.xf (er_BadCount.no "count" (by decide)) hz hf (pv 4)) pa_nil)))))
      (ClsOk.named (i := 4) sc__law_kept_early.nd rfl rfl ⟨rfl, by decide, Or.inl er_BadLimit.g⟩ (fun a oe cls d pn hz hf => (pss_one (ps_ret (pe_lst (pa_cons (pe_xfG (K := K) rfl er_BadLimit.xf (er_BadLimit.no "value" (by decide)) hz hf (pv 4)) pa_nil)))))
      (ClsOk.named (i := 4) sc__law_kept_early.nd rfl rfl ⟨rfl, by decide, Or.inl er_BadWord.g⟩ (fun a oe cls d pn hz hf => (pss_one (ps_ret (pe_lst (pa_cons (pe_xfG (K := K) rfl er_BadWord.xf (er_BadWord.no "word" (by decide)) hz hf (pv 4)) pa_nil)))))
      (ClsOk.named (i := 4) sc__law_kept_early.nd rfl rfl ⟨rfl, by decide, Or.inl er_BadText.g⟩ (fun a oe cls d pn hz hf => (pss_one (ps_ret (pe_lst (pa_cons (pe_xfG (K := K) rfl er_BadText.xf (er_BadText.no "text" (by decide)) hz hf (pv 4)) pa_nil)))))
      (ClsOk.named (i := 4) sc__law_kept_early.nd rfl rfl ⟨rfl, by decide, Or.inl er_BadStep.g⟩ (fun a oe cls d pn hz hf => (pss_one (ps_ret (pe_lst (pa_cons (pe_xfG (K := K) rfl er_BadStep.xf (er_BadStep.no "step" (by decide)) hz hf (pv 4)) pa_nil)))))
      (ClsOk.named (i := 4) sc__law_kept_early.nd rfl rfl ⟨rfl, by decide, Or.inl er_BadLot.g⟩ (fun a oe cls d pn hz hf => (pss_one (ps_ret (pe_lst (pa_cons (pe_xfG (K := K) rfl er_BadLot.xf (er_BadLot.no "size" (by decide)) hz hf (pv 4)) pa_nil)))))
      (ClsOk.named (i := 4) sc__law_kept_early.nd rfl rfl ⟨rfl, by decide, Or.inl er_TooDeep.g⟩ (fun a oe cls d pn hz hf => (pss_one (ps_ret (pe_lst (pa_cons (pe_xfG (K := K) rfl er_TooDeep.xf (er_TooDeep.no "depth" (by decide)) hz hf (pv 4)) pa_nil)))))
      ClsOk.nil)))))))))))
    (pss_one (ps_ret (pe_lst (pa_cons pe_str pa_nil))))), ?_⟩
  · obtain ⟨n, nm, ot, nu, xs, rfl, _⟩ := h
    rfl
  · obtain ⟨n, nm, ot, nu, xs, rfl, h1, h2, hx, q⟩ := h
    walk_at "begin"
    refine in_seq ?_
    walk_at "go"
    have hn : n = 0 ∨ n = 1 ∨ n = 2 ∨ n = 3 ∨ n = 4 ∨ n = 5 ∨ n = 6 ∨ n = 7 ∨ n = 8 ∨ n = 9 := by omega
    rcases hn with rfl | rfl | rfl | rfl | rfl | rfl | rfl | rfl | rfl | rfl <;> (
      cases Option.some.inj hx
      refine ⟨_, nm, ot, nu, _, _, rfl, by omega, by omega, rfl, rfl, ?_⟩
      intro d hd _
      repeat (refine wCl_miss (ne _ _ (by decide) (by decide) (by decide)) ?_)
      refine wCl_hit (eq _ (by decide)) fun a ha => ?_
      walk_at "go"
      refine ⟨rfl, rfl, _, _, _, rfl, upd_same, rfl, ?_⟩
      walk_at "go"
      intro p hp
      exact q p _ ((Same.new hd).trans (Same.new hp)) (Same.free (Same.new hd) hp) upd_same)
abbrev s__law_kept_late : Stmt := top 31
theorem sc__law_kept_late : FnScope ["_law_way", "_law_name_here", "_law_other", "_law_number", "e"] ["_law_way", "_law_name_here", "_law_other", "_law_number"] (defScope s__law_kept_late) := ⟨rfl, rfl, rfl, by decide +kernel, rfl, by decide +kernel, by decide +kernel⟩
theorem b__law_kept_late {K : PySem.W.Frag} {f : Addr} {fd : FuncData} (F : FnP K "_law_kept_late" "_law_kept_late" s__law_kept_late f fd) : Binds K fd ["_law_way", "_law_name_here", "_law_other", "_law_number"] [] := F.bindsN fun _ _ _ _ _ _ us hl => match us, hl with | [_, _, _, _], _ => rfl
theorem fx_kept_late (d : DefAt K mg "_law_kept_late" s__law_kept_late) (fr : Free mg) (er : ErrsAt K mg) (t1 : Fx P w K mg base k "_law_late" (spP (spWay mg 10 19))) : Fx P w K mg base (k + 1) "_law_kept_late" (spP (spKept 10 19)) := by
  obtain ⟨er_BadName, er_UnknownFork, er_RepeatedFork, er_BadCount, er_BadLimit, er_BadWord, er_BadText, er_BadStep, er_BadLot, er_TooDeep, er_TooMany, er_Clash, er_Apart, er_NoStrike, er_NoBlock, er_NoFitting, er_NothingToUndo, er_NothingToRedo, er_LineError, er_ForkError, ecs, exm, exf, kit, kiv⟩ := er
  have eq : ∀ x, x ∈ eName → PySem.W.exmOne K (.ref (cOf mg x)) (.ref (cOf mg x)) = some true := fun x h => by rw [exm x h x h, decide_eq_true rfl]
  have ne : ∀ x y, x ∈ eName → y ∈ eName → x ≠ y → PySem.W.exmOne K (.ref (cOf mg x)) (.ref (cOf mg y)) = some false := fun x y h h' e => by rw [exm x h y h', decide_eq_false e]
  refine Fx.of d sc__law_kept_late b__law_kept_late (fun vs H Q E h => ?_) fun f cdv A outer s H vs Q E hr gd gx h => ⟨_,
    (pss_cons (ps_tryG rfl rfl gd.tk (fun W pn xe tkw _ => (pss_one (ps_expr (pe_callG (gd.wish tkw) rfl (pa_cons (pv 0) (pa_cons (pv 1) (pa_cons (pv 2) (pa_cons (pv 3) pa_nil))))))))
      (ClsOk.named (i := 4) sc__law_kept_late.nd rfl rfl ⟨rfl, by decide, Or.inl er_TooMany.g⟩ (fun a oe cls d pn hz hf => (pss_one (ps_ret (pe_lst (pa_cons (pe_xfG (K := K) rfl er_TooMany.xf (er_TooMany.no "what" (by decide)) hz hf (pv 4)) (pa_cons (pe_xfG (K := K) rfl er_TooMany.xf (er_TooMany.no "most" (by decide)) hz hf (pv 4)) pa_nil))))))
      (ClsOk.named (i := 4) sc__law_kept_late.nd rfl rfl ⟨rfl, by decide, Or.inl er_Clash.g⟩ (fun a oe cls d pn hz hf => (pss_one (ps_ret (pe_lst (pa_cons (pe_xfG (K := K) rfl er_Clash.xf (er_Clash.no "name" (by decide)) hz hf (pv 4)) pa_nil)))))
      (ClsOk.named (i := 4) sc__law_kept_late.nd rfl rfl ⟨rfl, by decide, Or.inl er_Apart.g⟩ (fun a oe cls d pn hz hf => (pss_one (ps_ret (pe_lst (pa_cons (pe_xfG (K := K) rfl er_Apart.xf (er_Apart.no "first" (by decide)) hz hf (pv 4)) (pa_cons (pe_xfG (K := K) rfl er_Apart.xf (er_Apart.no "second" (by decide)) hz hf (pv 4)) pa_nil))))))
      (ClsOk.named (i := 4) sc__law_kept_late.nd rfl rfl ⟨rfl, by decide, Or.inl er_NoStrike.g⟩ (fun a oe cls d pn hz hf => (pss_one (ps_ret (pe_lst (pa_cons (pe_xfG (K := K) rfl er_NoStrike.xf (er_NoStrike.no "index" (by decide)) hz hf (pv 4)) pa_nil)))))
      (ClsOk.named (i := 4) sc__law_kept_late.nd rfl rfl ⟨rfl, by decide, Or.inl er_NoBlock.g⟩ (fun a oe cls d pn hz hf => (pss_one (ps_ret (pe_lst (pa_cons (pe_xfG (K := K) rfl er_NoBlock.xf (er_NoBlock.no "index" (by decide)) hz hf (pv 4)) pa_nil)))))
      (ClsOk.plain ⟨rfl, by decide, Or.inl er_NoFitting.g⟩ (fun a oe cls d pn hz hf => (pss_one (ps_ret (pe_lst pa_nil))))
      (ClsOk.plain ⟨rfl, by decide, Or.inl er_NothingToUndo.g⟩ (fun a oe cls d pn hz hf => (pss_one (ps_ret (pe_lst pa_nil))))
      (ClsOk.plain ⟨rfl, by decide, Or.inl er_NothingToRedo.g⟩ (fun a oe cls d pn hz hf => (pss_one (ps_ret (pe_lst pa_nil))))
      (ClsOk.named (i := 4) sc__law_kept_late.nd rfl rfl ⟨rfl, by decide, Or.inl er_LineError.g⟩ (fun a oe cls d pn hz hf => (pss_one (ps_ret (pe_lst (pa_cons (pe_xfG (K := K) rfl er_LineError.xf (er_LineError.no "index" (by decide)) hz hf (pv 4)) (pa_cons (pe_xfG (K := K) rfl er_LineError.xf (er_LineError.no "line" (by decide)) hz hf (pv 4)) pa_nil))))))
      ClsOk.nil))))))))))
    (pss_one (ps_ret (pe_lst (pa_cons pe_str pa_nil))))), ?_⟩
  · obtain ⟨n, nm, ot, nu, xs, rfl, _⟩ := h
    rfl
  · obtain ⟨n, nm, ot, nu, xs, rfl, h1, h2, hx, q⟩ := h
    walk_at "begin"
    refine in_seq ?_
    walk_at "go"
    have hn : n = 10 ∨ n = 11 ∨ n = 12 ∨ n = 13 ∨ n = 14 ∨ n = 15 ∨ n = 16 ∨ n = 17 ∨ n = 18 := by omega
    rcases hn with rfl | rfl | rfl | rfl | rfl | rfl | rfl | rfl | rfl <;> (
      cases Option.some.inj hx
      refine ⟨_, nm, ot, nu, _, _, rfl, by omega, by omega, rfl, rfl, ?_⟩
      first
        | (intro d hd _
           repeat (refine wCl_miss (ne _ _ (by decide) (by decide) (by decide)) ?_)
           refine wCl_hit (eq _ (by decide)) fun a ha => ?_
           walk_at "go"
           repeat (refine ⟨rfl, rfl, _, _, _, rfl, upd_same, rfl, ?_⟩; walk_at "go")
           intro p hp
           exact q p _ ((Same.new hd).trans (Same.new hp)) (Same.free (Same.new hd) hp) upd_same)
        | (intro _
           repeat (refine wCl_miss (ne _ _ (by decide) (by decide) (by decide)) ?_)
           refine wCl_hit (eq _ (by decide)) fun a ha => ?_
           walk_at "go"
           intro p hp
           exact q p _ (Same.new hp) hp upd_same))
end
end L2.Fk
set_option Elab.async false
set_option linter.all false
set_option maxRecDepth 100000
set_option maxHeartbeats 4000000
namespace L2.Fk
open PySem PySem.Spec PyProof.Rows
local macro_rules | `(tactic| walk_at "same") => `(tactic| first | assumption | exact (fun _ _ h => h) | (refine Same.trans ?_ (Same.new (by assumption)); walk_at "same"))
local macro_rules | `(tactic| walk_at "xd") => `(tactic| first | assumption | exact XDict.new (by walk_at "xd") (by assumption))
local macro_rules | `(tactic| walk_at "hne") => `(tactic| first
  | assumption
  | exact Ne.symm (by assumption)
  | (apply ne_new; (focus (assumption)); (focus (first | assumption | exact upd_same | walk_at "hget")))
  | (apply ne_old; (focus (assumption)); (focus (first | assumption | exact upd_same | walk_at "hget"))))
local macro_rules | `(tactic| walk_at "hget") => `(tactic| first
  | assumption
  | exact upd_same
  | exact (upd_ne (by walk_at "hne")).trans (by walk_at "hget"))
local macro_rules | `(tactic| walk_at "sql") => `(tactic| first
  | assumption
  | exact SqL.of (by walk_at "hget")
  | exact SqL.frz (by walk_at "hget"))
local macro_rules | `(tactic| walk_at "getat") => `(tactic| (
  (first
    | with_reducible show GetAt _ _ _ (V.int (OfNat.ofNat _)) _
    | with_reducible show GetAt _ _ _ (V.int (Neg.neg (OfNat.ofNat _))) _)
  first
    | (apply GetAt.m; (focus (walk_at "hget")); (focus (exact rfl)))
    | (apply GetAt.f; (focus (walk_at "hget")); (focus (exact rfl)))
    | (apply GetAt.t; (focus (exact SqT.of (by walk_at "hget"))); (focus (exact rfl)))
    | (apply GetAt.l; (focus (assumption)); (focus (exact rfl)))))
local macro_rules | `(tactic| walk_at "side") => `(tactic| first
  | omega
  | exact mul_l (by omega)
  | exact mul_r (by omega)
  | exact div_lit (by decide)
  | exact wide_div (by omega) (by assumption) (by decide) (by decide)
  | exact ⟨by decide, by decide, by decide⟩
  | decide
  | assumption)
local macro_rules | `(tactic| walk_at "size") => `(tactic| first
  | assumption
  | (rw [sizeLine_eq]; first | decide | omega | decide +kernel | (simp; done) | (simp; omega)))
local macro_rules | `(tactic| walk_at "step") => `(tactic| first
  | with_reducible refine in_seqA ?_
  | with_reducible refine in_seqE ?_
  | ((with_reducible refine in_asg ?_); try dsimp only [Ends.less])
  | ((with_reducible refine in_name ?_); try simp only [upd_upd, List.set_cons_zero, List.set_cons_succ, Int.reduceToNat, Int.toNat_zero, List.length_cons, List.length_nil, Nat.reduceAdd])
  | ((with_reducible apply in_var); focus (exact rfl))
  | with_reducible refine in_c ?_
  | with_reducible refine in_op ?_
  | with_reducible refine in_un ?_
  | with_reducible refine in_cons ?_
  | with_reducible refine in_nil ?_
  | with_reducible refine in_cb ?_
  | ((with_reducible refine in_ret ?_); try dsimp only [Ends.less])
  | with_reducible refine in_ifS ?_
  | with_reducible refine in_test ?_
  | with_reducible refine in_tB ?_
  | with_reducible refine in_bl ?_
  | with_reducible refine in_int ?_
  | with_reducible refine in_str ?_
  | with_reducible refine in_rI0 ?_
  | ((with_reducible refine in_rI ?_ ?_); focus (walk_at "side"))
  | with_reducible refine in_rU ?_
  | ((with_reducible refine in_mul ?_ ?_); focus (walk_at "side"))
  | with_reducible refine in_addI ?_
  | ((with_reducible refine in_addS ?_ ?_); focus (walk_at "size"))
  | with_reducible refine in_intI ?_
  | with_reducible refine in_abs ?_
  | with_reducible refine in_max2 ?_
  | with_reducible refine in_min2 ?_
  | ((with_reducible refine in_lenS ?_ ?_); focus (walk_at "size"))
  | ((with_reducible apply in_lenR); focus (first | exact LenAt.m (by walk_at "hget") | exact LenAt.f (by walk_at "hget") | exact LenAt.l (by assumption)))
  | ((with_reducible apply in_ixR); focus (walk_at "getat"))
  | with_reducible refine in_eqI ?_
  | with_reducible refine in_eqS ?_
  | with_reducible refine in_neI ?_
  | with_reducible refine in_neS ?_
  | with_reducible refine in_sl ?_
  | with_reducible refine in_noPart ?_
  | with_reducible refine in_part ?_
  | ((with_reducible refine in_slS ?_ ?_); focus (walk_at "size"))
  | with_reducible refine in_gsub ?_
  | ((with_reducible apply in_setL); (focus (walk_at "hget")); (focus (exact rfl)); try simp only [upd_upd, List.set_cons_zero, List.set_cons_succ, Int.reduceToNat, Int.toNat_zero, List.length_cons, List.length_nil, Nat.reduceAdd])
  | ((with_reducible refine in_next ?_); try dsimp only [Ends.less])
  | ((with_reducible refine in_drop ?_); try dsimp only [Ends.less])
  | with_reducible refine in_and ?_
  | with_reducible refine in_or ?_
  | with_reducible refine in_not ?_
  | with_reducible refine in_andV ?_
  | with_reducible refine in_orV ?_
  | with_reducible refine in_notV ?_
  | with_reducible refine in_ifE ?_
  | with_reducible refine in_isN ?_
  | with_reducible refine in_notN ?_
  | with_reducible refine in_tt ?_
  | with_reducible refine in_ff ?_
  | with_reducible refine in_pos (by first | omega | decide | assumption) ?_
  | with_reducible refine in_neg (by first | omega | decide | assumption) ?_
  | with_reducible refine in_posN (by first | omega | decide | assumption) ?_
  | with_reducible refine in_negN (by first | omega | decide | assumption) ?_
  | ((with_reducible apply in_call); focus (assumption))
  | with_reducible refine in_lst ?_
  | with_reducible refine in_tup ?_
  | ((with_reducible refine in_new ?_ ?_); focus (simp only [List.length_cons, List.length_nil]; first | done | decide | omega))
  | with_reducible refine in_for ?_
  | with_reducible refine in_lc ?_
  | with_reducible refine in_iList ?_
  | with_reducible refine in_iStr ?_
  | with_reducible refine in_iRng1 ?_
  | with_reducible refine in_iRng2 ?_
  | ((with_reducible refine in_rng1 ?_ ?_ ?_); (focus (omega)); (focus (omega)))
  | ((with_reducible refine in_rng2 ?_ ?_); focus (omega))
  | ((with_reducible refine in_retN ?_); try dsimp only [Ends.less])
  | ((with_reducible refine in_brk ?_); try dsimp only [Ends.less])
  | ((with_reducible refine in_ct ?_); try dsimp only [Ends.less])
  | with_reducible refine in_yes ?_
  | with_reducible refine in_bm ?_
  | with_reducible refine in_m1 ?_
  | with_reducible refine in_strT ?_
  | ((with_reducible refine in_clAs ?_); try simp only [List.set_cons_zero, List.set_cons_succ])
  | with_reducible refine in_clPlain ?_
  | with_reducible refine in_xf ?_
  | ((with_reducible refine in_raise ?_); try dsimp only [Ends.less])
  | ((with_reducible apply in_mkx); focus (assumption)))
local macro_rules | `(tactic| walk_at "begin") => `(tactic| simp only [start, List.map_cons, List.map_nil, List.length_cons, List.length_nil, List.replicate_succ, List.replicate_zero, List.cons_append, List.nil_append, List.append_nil, Nat.reduceAdd, Nat.reduceSub])
local macro_rules | `(tactic| walk_at "go") => `(tactic| repeat (walk_at "step"))
section
variable {P : Program} {w : World} {K : PySem.W.Frag} {mg : Str → Option Value} {base : Heap} {k : Nat}
theorem paired_refl {α : Type} : ∀ xs : List α, Paired (fun v k : α => v = k) xs xs
  | [] => .nil
  | _ :: r => .cons rfl (paired_refl r)
theorem eName_nd : eName.Nodup := by decide +kernel
theorem eName_inj {i j : Nat} {x y : Str} (h : eName[i]? = some x) (h' : eName[j]? = some y) : x = y ↔ i = j := by
  have hi := (List.getElem?_eq_some_iff.mp h)
  have hj := (List.getElem?_eq_some_iff.mp h')
  obtain ⟨li, ei⟩ := hi
  obtain ⟨lj, ej⟩ := hj
  constructor
  · intro e
    rw [← ei, ← ej] at e
    exact (List.getElem_inj eName_nd).mp e
  · intro e
    subst e
    rw [h] at h'
    exact Option.some.inj h'
theorem pick {n : Nat} (h : n < 19) : ((upTo 0 19).filter fun k => decide (k = (n : Int))).map (fun k => k) = [(n : Int)] := by
  have : ∀ n : Nat, n < 19 → ((upTo 0 19).filter fun k => decide (k = (n : Int))).map (fun k => k) = [(n : Int)] := by decide +kernel
  exact this n h
def spKinds : Sp := fun vs H Q _ => ∃ (n : Nat) (nm ot : Str) (nu : Int), vs = [.int n, .str nm, .str ot, .int nu] ∧ n < 19 ∧ ∀ (p : Addr) (H' : Hp), Same H H' → H p = none → H' p = some (.lst [.int n, .bl true]) → Q (.ref p) H'
abbrev s__law_kinds : Stmt := top 32
theorem sc__law_kinds : FnScope ["_law_way", "_law_name_here", "_law_other", "_law_number", "e", "_law_found", "_law_k"] ["_law_way", "_law_name_here", "_law_other", "_law_number"] (defScope s__law_kinds) := ⟨rfl, rfl, rfl, by decide +kernel, rfl, by decide +kernel, by decide +kernel⟩
theorem b__law_kinds {K : PySem.W.Frag} {f : Addr} {fd : FuncData} (F : FnP K "_law_kinds" "_law_kinds" s__law_kinds f fd) : Binds K fd ["_law_way", "_law_name_here", "_law_other", "_law_number"] [] := F.bindsN fun _ _ _ _ _ _ us hl => match us, hl with | [_, _, _, _], _ => rfl
theorem fx_kinds (d : DefAt K mg "_law_kinds" s__law_kinds) (fr : Free mg) (er : ErrsAt K mg) (t1 : Fx P w K mg base k "_law_raise" (spP (spWay mg 0 19))) : Fx P w K mg base (k + 1) "_law_kinds" (spP spKinds) := by
  obtain ⟨er_BadName, er_UnknownFork, er_RepeatedFork, er_BadCount, er_BadLimit, er_BadWord, er_BadText, er_BadStep, er_BadLot, er_TooDeep, er_TooMany, er_Clash, er_Apart, er_NoStrike, er_NoBlock, er_NoFitting, er_NothingToUndo, er_NothingToRedo, er_LineError, er_ForkError, ecs, exm, exf, kit, kiv⟩ := er
  refine Fx.of d sc__law_kinds b__law_kinds (fun vs H Q E h => ?_) fun f cdv A outer s H vs Q E hr gd gx h => ⟨_,
    (pss_cons (ps_tryG rfl rfl gd.tk (fun W pn xe tkw _ => (pss_one (ps_expr (pe_callG (gd.wish tkw) rfl (pa_cons (pv 0) (pa_cons (pv 1) (pa_cons (pv 2) (pa_cons (pv 3) pa_nil))))))))
      (ClsOk.named (i := 4) sc__law_kinds.nd rfl rfl ⟨rfl, by decide, Or.inl er_ForkError.g⟩ (fun a oe cls d pn hz hf => (pss_cons (ps_set (i := 5) sc__law_kinds.nd rfl (by first | exact Or.inl rfl | exact Or.inr rfl) (pe_lst (pa_cons (pe_callB (call_isX (K := K) rfl hz hf) rfl fr.isinstance boot_isinstance (pa_cons (pv 4) (pa_cons (pe_glob (v := .ref (cOf mg "BadName")) rfl er_BadName.g rfl) pa_nil))) (pa_cons (pe_callB (call_isX (K := K) rfl hz hf) rfl fr.isinstance boot_isinstance (pa_cons (pv 4) (pa_cons (pe_glob (v := .ref (cOf mg "UnknownFork")) rfl er_UnknownFork.g rfl) pa_nil))) (pa_cons (pe_callB (call_isX (K := K) rfl hz hf) rfl fr.isinstance boot_isinstance (pa_cons (pv 4) (pa_cons (pe_glob (v := .ref (cOf mg "RepeatedFork")) rfl er_RepeatedFork.g rfl) pa_nil))) pa_nil)))))
        (pss_cons (ps_set (i := 5) sc__law_kinds.nd rfl (by first | exact Or.inl rfl | exact Or.inr rfl) (pe_op (op_addK (K := K) rfl) (pv 5) (pe_lst (pa_cons (pe_callB (call_isX (K := K) rfl hz hf) rfl fr.isinstance boot_isinstance (pa_cons (pv 4) (pa_cons (pe_glob (v := .ref (cOf mg "BadCount")) rfl er_BadCount.g rfl) pa_nil))) (pa_cons (pe_callB (call_isX (K := K) rfl hz hf) rfl fr.isinstance boot_isinstance (pa_cons (pv 4) (pa_cons (pe_glob (v := .ref (cOf mg "BadLimit")) rfl er_BadLimit.g rfl) pa_nil))) (pa_cons (pe_callB (call_isX (K := K) rfl hz hf) rfl fr.isinstance boot_isinstance (pa_cons (pv 4) (pa_cons (pe_glob (v := .ref (cOf mg "BadWord")) rfl er_BadWord.g rfl) pa_nil))) pa_nil))))))
        (pss_cons (ps_set (i := 5) sc__law_kinds.nd rfl (by first | exact Or.inl rfl | exact Or.inr rfl) (pe_op (op_addK (K := K) rfl) (pv 5) (pe_lst (pa_cons (pe_callB (call_isX (K := K) rfl hz hf) rfl fr.isinstance boot_isinstance (pa_cons (pv 4) (pa_cons (pe_glob (v := .ref (cOf mg "BadText")) rfl er_BadText.g rfl) pa_nil))) (pa_cons (pe_callB (call_isX (K := K) rfl hz hf) rfl fr.isinstance boot_isinstance (pa_cons (pv 4) (pa_cons (pe_glob (v := .ref (cOf mg "BadStep")) rfl er_BadStep.g rfl) pa_nil))) (pa_cons (pe_callB (call_isX (K := K) rfl hz hf) rfl fr.isinstance boot_isinstance (pa_cons (pv 4) (pa_cons (pe_glob (v := .ref (cOf mg "BadLot")) rfl er_BadLot.g rfl) pa_nil))) pa_nil))))))
        (pss_cons (ps_set (i := 5) sc__law_kinds.nd rfl (by first | exact Or.inl rfl | exact Or.inr rfl) (pe_op (op_addK (K := K) rfl) (pv 5) (pe_lst (pa_cons (pe_callB (call_isX (K := K) rfl hz hf) rfl fr.isinstance boot_isinstance (pa_cons (pv 4) (pa_cons (pe_glob (v := .ref (cOf mg "TooDeep")) rfl er_TooDeep.g rfl) pa_nil))) (pa_cons (pe_callB (call_isX (K := K) rfl hz hf) rfl fr.isinstance boot_isinstance (pa_cons (pv 4) (pa_cons (pe_glob (v := .ref (cOf mg "TooMany")) rfl er_TooMany.g rfl) pa_nil))) (pa_cons (pe_callB (call_isX (K := K) rfl hz hf) rfl fr.isinstance boot_isinstance (pa_cons (pv 4) (pa_cons (pe_glob (v := .ref (cOf mg "Clash")) rfl er_Clash.g rfl) pa_nil))) pa_nil))))))
        (pss_cons (ps_set (i := 5) sc__law_kinds.nd rfl (by first | exact Or.inl rfl | exact Or.inr rfl) (pe_op (op_addK (K := K) rfl) (pv 5) (pe_lst (pa_cons (pe_callB (call_isX (K := K) rfl hz hf) rfl fr.isinstance boot_isinstance (pa_cons (pv 4) (pa_cons (pe_glob (v := .ref (cOf mg "Apart")) rfl er_Apart.g rfl) pa_nil))) (pa_cons (pe_callB (call_isX (K := K) rfl hz hf) rfl fr.isinstance boot_isinstance (pa_cons (pv 4) (pa_cons (pe_glob (v := .ref (cOf mg "NoStrike")) rfl er_NoStrike.g rfl) pa_nil))) (pa_cons (pe_callB (call_isX (K := K) rfl hz hf) rfl fr.isinstance boot_isinstance (pa_cons (pv 4) (pa_cons (pe_glob (v := .ref (cOf mg "NoBlock")) rfl er_NoBlock.g rfl) pa_nil))) pa_nil))))))
        (pss_cons (ps_set (i := 5) sc__law_kinds.nd rfl (by first | exact Or.inl rfl | exact Or.inr rfl) (pe_op (op_addK (K := K) rfl) (pv 5) (pe_lst (pa_cons (pe_callB (call_isX (K := K) rfl hz hf) rfl fr.isinstance boot_isinstance (pa_cons (pv 4) (pa_cons (pe_glob (v := .ref (cOf mg "NoFitting")) rfl er_NoFitting.g rfl) pa_nil))) (pa_cons (pe_callB (call_isX (K := K) rfl hz hf) rfl fr.isinstance boot_isinstance (pa_cons (pv 4) (pa_cons (pe_glob (v := .ref (cOf mg "NothingToUndo")) rfl er_NothingToUndo.g rfl) pa_nil))) (pa_cons (pe_callB (call_isX (K := K) rfl hz hf) rfl fr.isinstance boot_isinstance (pa_cons (pv 4) (pa_cons (pe_glob (v := .ref (cOf mg "NothingToRedo")) rfl er_NothingToRedo.g rfl) pa_nil))) pa_nil))))))
        (pss_cons (ps_set (i := 5) sc__law_kinds.nd rfl (by first | exact Or.inl rfl | exact Or.inr rfl) (pe_op (op_addK (K := K) rfl) (pv 5) (pe_lst (pa_cons (pe_callB (call_isX (K := K) rfl hz hf) rfl fr.isinstance boot_isinstance (pa_cons (pv 4) (pa_cons (pe_glob (v := .ref (cOf mg "LineError")) rfl er_LineError.g rfl) pa_nil))) pa_nil))))
        (pss_one (ps_ret (pe_op (op_addK (K := K) rfl) (pe_lcH (p := (a, oe)) (own := [("_law_k", 6)]) List.mem_cons_self (hot_of hz hf) rfl rfl sc__law_kinds.nd (L2H.pi_range1H rfl fr.range (pa_cons pe_int pa_nil)) (blkOk_by (N := ["_law_way", "_law_name_here", "_law_other", "_law_number", "e", "_law_found", "_law_k"]) (sc := defScope s__law_kinds) (by decide +kernel)) (fun _ _ _ _ _ => (pg_name (i := 6) sc__law_kinds.nd rfl (by first | exact Or.inl rfl | exact Or.inr rfl))) (fun _ _ _ _ _ => (pts_one (pt_val (pe_ix (ix_K (K := K) rfl (have hu := gd_hu hr; hu)) (pv 5) (pv 6) fun _ _ => rfl)))) (fun _ _ _ _ _ => (pv 6))) (pe_lst (pa_cons (pe_callB (call_isX (K := K) rfl hz hf) rfl fr.isinstance boot_isinstance (pa_cons (pv 4) (pa_cons (pe_bltn (u := .type "ValueError") (v := .ty "ValueError") rfl fr.ValueError (by decide +kernel) rfl) pa_nil))) pa_nil)))))))))))))
      ClsOk.nil))
    (pss_one (ps_ret (pe_lst pa_nil)))), ?_⟩
  · obtain ⟨n, nm, ot, nu, rfl, _⟩ := h
    rfl
  · obtain ⟨n, nm, ot, nu, rfl, hn, q⟩ := h
    walk_at "begin"
    refine in_seq ?_
    walk_at "go"
    have hx : ∃ x, eName[n]? = some x := ⟨_, List.getElem?_eq_getElem (by simpa [eName] using hn)⟩
    obtain ⟨x, hx⟩ := hx
    have hf : ∃ fs, (eFlds nm ot nu)[n]? = some fs := ⟨_, List.getElem?_eq_getElem (by simpa [eFlds] using hn)⟩
    obtain ⟨fs, hf⟩ := hf
    have hxm : x ∈ eName := List.mem_of_getElem? hx
    have ec := ecs x hxm
    have eo : ∀ {F : XK}, (∀ dd H1, Same H H1 → XDict H1 dd → F (.ref (cOf mg x)) dd H1) → EOut mg x fs H F := fun {F} h => by
      cases fs with
      | none => exact h none H (fun _ _ h => h) (.inl rfl)
      | some l => exact fun d hd => h (some d) _ (Same.new hd) (.inr ⟨d, _, rfl, upd_same⟩)
    refine ⟨n, nm, ot, nu, x, fs, rfl, by omega, hn, hx, hf, eo fun dd H1 s1 xd _ => ?_⟩
    refine wCl_hit (exf x hxm) fun a ha => ?_
    walk_at "go"
    repeat (refine in_isx ec (kit x hxm _ (by decide)) (by walk_at "xd") ?_; walk_at "go")
    intro p hp
    walk_at "go"
    iterate 6
      repeat (refine in_isx ec (kit x hxm _ (by decide)) (by walk_at "xd") ?_; walk_at "go")
      intro p hp
      walk_at "go"
      refine in_catL (.inl (by walk_at "hget")) (.inl upd_same) (by walk_at "size") ?_
      intro p hp
      walk_at "go"
    simp only [List.cons_append, List.nil_append]
    have found : [V.bl (decide (x = "BadName")), V.bl (decide (x = "UnknownFork")), V.bl (decide (x = "RepeatedFork")), V.bl (decide (x = "BadCount")), V.bl (decide (x = "BadLimit")), V.bl (decide (x = "BadWord")), V.bl (decide (x = "BadText")), V.bl (decide (x = "BadStep")), V.bl (decide (x = "BadLot")),
      V.bl (decide (x = "TooDeep")), V.bl (decide (x = "TooMany")), V.bl (decide (x = "Clash")), V.bl (decide (x = "Apart")), V.bl (decide (x = "NoStrike")), V.bl (decide (x = "NoBlock")), V.bl (decide (x = "NoFitting")), V.bl (decide (x = "NothingToUndo")), V.bl (decide (x = "NothingToRedo")), V.bl (decide (x = "LineError"))]
        = eName.map fun y => V.bl (decide (x = y)) := rfl
    rw [found]
    generalize hH : upd (upd _ _ _) _ _ = H2
    have sm : Same H1 H2 := by rw [← hH]; walk_at "same"
    have hfd : H2 p = some (.lst (eName.map fun y => V.bl (decide (x = y)))) := by rw [← hH]; exact upd_same
    clear hH
    have xd2 := XDict.same xd sm
    refine lcT (S := rInt) walks_range (upTo 0 19) (fun k => decide (k = (n : Int))) (fun k => k) (fun _ v k => v = k) (paired_refl _) (by rw [upTo_len, sizeLine_eq]; decide) (fun _ _ => trivial) (fun y c H3 hc s3 e v H4 hY T N hT hN => ?_) (fun p4 vs H3 s3 hp4 hv al => ?_)
    · obtain ⟨rfl, rfl⟩ := hY
      subst e
      have hk : ∃ k : Nat, y = (k : Int) ∧ k < 19 := by
        obtain ⟨k, hk, e⟩ := List.mem_map.mp hc
        exact ⟨k, by rw [← e]; simp, by simpa using hk⟩
      obtain ⟨k, rfl, hk⟩ := hk
      walk_at "go"
      refine ⟨rfl, ?_⟩
      walk_at "go"
      have hy : ∃ y, eName[k]? = some y := ⟨_, List.getElem?_eq_getElem (by simpa [eName] using hk)⟩
      obtain ⟨y, hy⟩ := hy
      refine in_ixR (v := .bl (decide (x = y))) (GetAt.m (s3 _ _ hfd) (atI_ok (by omega) (by rw [Int.toNat_natCast, List.getElem?_map, hy]; rfl))) ?_
      walk_at "go"
      have same : decide (x = y) = decide ((k : Int) = (n : Int)) := by
        have := eName_inj hx hy
        by_cases h : n = k
        · have h1 : x = y := this.mpr h
          have h2 : (k : Int) = (n : Int) := by omega
          rw [decide_eq_true h1, decide_eq_true h2]
        · have h1 : ¬ x = y := fun z => h (this.mp z)
          have h2 : ¬ (k : Int) = (n : Int) := by omega
          rw [decide_eq_false h1, decide_eq_false h2]
      rw [same]
      refine in_ite (fun c5 => ?_) (fun c5 => ?_)
      · walk_at "go"
        exact hT (decide_eq_true c5) _ _ (fun _ _ h => h) rfl
      · exact hN (decide_eq_false c5) _ (fun _ _ h => h)
    · have e := All2.ints al
      subst e
      rw [pick hn] at hv
      walk_at "go"
      refine in_isxT ec (kiv x hxm) (XDict.same xd2 s3) ?_
      walk_at "go"
      intro p5 hp5
      refine in_catL (.inl ((upd_ne (ne_of_none hv hp5)).trans hv)) (.inl upd_same) (by walk_at "size") ?_
      intro p6 hp6
      have s6 : Same H (upd (upd H3 p5 (.lst [.bl true])) p6 (.lst ([(n : Int)].map V.int ++ [.bl true]))) := (((s1.trans sm).trans s3).trans (Same.new hp5)).trans (Same.new hp6)
      exact q p6 _ s6 (Same.free (((s1.trans sm).trans s3).trans (Same.new hp5)) hp6) upd_same
end
end L2.Fk
set_option Elab.async false
set_option linter.all false
set_option maxRecDepth 100000
set_option maxHeartbeats 4000000
namespace L2.Fk
open PySem PySem.Spec PyProof.Rows
local macro_rules | `(tactic| walk_at "same") => `(tactic| first | assumption | exact (fun _ _ h => h) | (refine Same.trans ?_ (Same.new (by assumption)); walk_at "same"))
local macro_rules | `(tactic| walk_at "xd") => `(tactic| first | assumption | exact XDict.new (by walk_at "xd") (by assumption))
local macro_rules | `(tactic| walk_at "hne") => `(tactic| first
  | assumption
  | exact Ne.symm (by assumption)
  | (apply ne_new; (focus (assumption)); (focus (first | assumption | exact upd_same | walk_at "hget")))
  | (apply ne_old; (focus (assumption)); (focus (first | assumption | exact upd_same | walk_at "hget"))))
local macro_rules | `(tactic| walk_at "hget") => `(tactic| first
  | assumption
  | exact upd_same
  | exact (upd_ne (by walk_at "hne")).trans (by walk_at "hget"))
local macro_rules | `(tactic| walk_at "sql") => `(tactic| first
  | assumption
  | exact SqL.of (by walk_at "hget")
  | exact SqL.frz (by walk_at "hget"))
local macro_rules | `(tactic| walk_at "getat") => `(tactic| (
  (first
    | with_reducible show GetAt _ _ _ (V.int (OfNat.ofNat _)) _
    | with_reducible show GetAt _ _ _ (V.int (Neg.neg (OfNat.ofNat _))) _)
  first
    | (apply GetAt.m; (focus (walk_at "hget")); (focus (exact rfl)))
    | (apply GetAt.f; (focus (walk_at "hget")); (focus (exact rfl)))
    | (apply GetAt.t; (focus (exact SqT.of (by walk_at "hget"))); (focus (exact rfl)))
    | (apply GetAt.l; (focus (assumption)); (focus (exact rfl)))))
local macro_rules | `(tactic| walk_at "side") => `(tactic| first
  | omega
  | exact mul_l (by omega)
  | exact mul_r (by omega)
  | exact div_lit (by decide)
  | exact wide_div (by omega) (by assumption) (by decide) (by decide)
  | exact ⟨by decide, by decide, by decide⟩
  | decide
  | assumption)
local macro_rules | `(tactic| walk_at "size") => `(tactic| first
  | assumption
  | (rw [sizeLine_eq]; first | decide | omega | decide +kernel | (simp; done) | (simp; omega)))
local macro_rules | `(tactic| walk_at "step") => `(tactic| first
  | with_reducible refine in_seqA ?_
  | with_reducible refine in_seqE ?_
  | ((with_reducible refine in_asg ?_); try dsimp only [Ends.less])
  | ((with_reducible refine in_name ?_); try simp only [upd_upd, List.set_cons_zero, List.set_cons_succ, Int.reduceToNat, Int.toNat_zero, List.length_cons, List.length_nil, Nat.reduceAdd])
  | ((with_reducible apply in_var); focus (exact rfl))
  | with_reducible refine in_c ?_
  | with_reducible refine in_op ?_
  | with_reducible refine in_un ?_
  | with_reducible refine in_cons ?_
  | with_reducible refine in_nil ?_
  | with_reducible refine in_cb ?_
  | ((with_reducible refine in_ret ?_); try dsimp only [Ends.less])
  | with_reducible refine in_ifS ?_
  | with_reducible refine in_test ?_
  | with_reducible refine in_tB ?_
  | with_reducible refine in_bl ?_
  | with_reducible refine in_int ?_
  | with_reducible refine in_str ?_
  | with_reducible refine in_rI0 ?_
  | ((with_reducible refine in_rI ?_ ?_); focus (walk_at "side"))
  | with_reducible refine in_rU ?_
  | ((with_reducible refine in_mul ?_ ?_); focus (walk_at "side"))
  | with_reducible refine in_addI ?_
  | ((with_reducible refine in_addS ?_ ?_); focus (walk_at "size"))
  | with_reducible refine in_intI ?_
  | with_reducible refine in_abs ?_
  | with_reducible refine in_max2 ?_
  | with_reducible refine in_min2 ?_
  | ((with_reducible refine in_lenS ?_ ?_); focus (walk_at "size"))
  | ((with_reducible apply in_lenR); focus (first | exact LenAt.m (by walk_at "hget") | exact LenAt.f (by walk_at "hget") | exact LenAt.l (by assumption)))
  | ((with_reducible apply in_ixR); focus (walk_at "getat"))
  | with_reducible refine in_eqI ?_
  | with_reducible refine in_eqS ?_
  | with_reducible refine in_neI ?_
  | with_reducible refine in_neS ?_
  | with_reducible refine in_sl ?_
  | with_reducible refine in_noPart ?_
  | with_reducible refine in_part ?_
  | ((with_reducible refine in_slS ?_ ?_); focus (walk_at "size"))
  | with_reducible refine in_gsub ?_
  | ((with_reducible apply in_setL); (focus (walk_at "hget")); (focus (exact rfl)); try simp only [upd_upd, List.set_cons_zero, List.set_cons_succ, Int.reduceToNat, Int.toNat_zero, List.length_cons, List.length_nil, Nat.reduceAdd])
  | ((with_reducible refine in_next ?_); try dsimp only [Ends.less])
  | ((with_reducible refine in_drop ?_); try dsimp only [Ends.less])
  | with_reducible refine in_and ?_
  | with_reducible refine in_or ?_
  | with_reducible refine in_not ?_
  | with_reducible refine in_andV ?_
  | with_reducible refine in_orV ?_
  | with_reducible refine in_notV ?_
  | with_reducible refine in_ifE ?_
  | with_reducible refine in_isN ?_
  | with_reducible refine in_notN ?_
  | with_reducible refine in_tt ?_
  | with_reducible refine in_ff ?_
  | with_reducible refine in_pos (by first | omega | decide | assumption) ?_
  | with_reducible refine in_neg (by first | omega | decide | assumption) ?_
  | with_reducible refine in_posN (by first | omega | decide | assumption) ?_
  | with_reducible refine in_negN (by first | omega | decide | assumption) ?_
  | ((with_reducible apply in_call); focus (assumption))
  | with_reducible refine in_lst ?_
  | with_reducible refine in_tup ?_
  | ((with_reducible refine in_new ?_ ?_); focus (simp only [List.length_cons, List.length_nil]; first | done | decide | omega))
  | with_reducible refine in_for ?_
  | with_reducible refine in_lc ?_
  | with_reducible refine in_iList ?_
  | with_reducible refine in_iStr ?_
  | with_reducible refine in_iRng1 ?_
  | with_reducible refine in_iRng2 ?_
  | ((with_reducible refine in_rng1 ?_ ?_ ?_); (focus (omega)); (focus (omega)))
  | ((with_reducible refine in_rng2 ?_ ?_); focus (omega))
  | ((with_reducible refine in_retN ?_); try dsimp only [Ends.less])
  | ((with_reducible refine in_brk ?_); try dsimp only [Ends.less])
  | ((with_reducible refine in_ct ?_); try dsimp only [Ends.less])
  | with_reducible refine in_yes ?_
  | with_reducible refine in_bm ?_
  | with_reducible refine in_m1 ?_
  | with_reducible refine in_strT ?_
  | ((with_reducible refine in_clAs ?_); try simp only [List.set_cons_zero, List.set_cons_succ])
  | with_reducible refine in_clPlain ?_
  | with_reducible refine in_xf ?_
  | ((with_reducible refine in_raise ?_); try dsimp only [Ends.less])
  | ((with_reducible apply in_mkx); focus (assumption)))
local macro_rules | `(tactic| walk_at "begin") => `(tactic| simp only [start, List.map_cons, List.map_nil, List.length_cons, List.length_nil, List.replicate_succ, List.replicate_zero, List.cons_append, List.nil_append, List.append_nil, Nat.reduceAdd, Nat.reduceSub])
local macro_rules | `(tactic| walk_at "go") => `(tactic| repeat (walk_at "step"))
section
variable {P : Program} {w : World} {K : PySem.W.Frag} {mg : Str → Option Value} {base : Heap} {k : Nat}
/-- lists as they stand -/
abbrev Rows (H : Hp) (ps : List Addr) (xss : List (List V)) : Prop := Paired (fun p xs => H p = some (.lst xs)) ps xss
theorem Rows.mono {ps : List Addr} {xss : List (List V)} {H H' : Hp} (h : Rows H ps xss) (s : Same H H') : Rows H' ps xss := Paired.mono (fun _ _ e => s _ _ e) h
theorem Rows.new {H : Hp} {p : Addr} {ps : List Addr} {xss : List (List V)} {xs : List V} (h : Rows H ps xss) (hp : H p = none) : Rows (upd H p (.lst xs)) (ps ++ [p]) (xss ++ [xs]) := Paired.app (Rows.mono h (Same.new hp)) (.cons upd_same .nil)
theorem new_at {H : Hp} {p : Addr} {o : HO} (_ : H p = none) : upd H p o p = some o := upd_same
abbrev s_law : Stmt := top 33
theorem sc_law : FnScope ["_law_script", "_law_bag_here", "_law_name_here", "_law_other", "_law_number", "_law_due", "_law_way"] ["_law_script"] (defScope s_law) := ⟨rfl, rfl, rfl, by decide +kernel, rfl, by decide +kernel, by decide +kernel⟩
theorem b_law {K : PySem.W.Frag} {f : Addr} {fd : FuncData} (F : FnP K "law" "law" s_law f fd) : Binds K fd ["_law_script"] [] := F.bindsN fun _ _ _ _ _ _ us hl => match us, hl with | [_], _ => rfl
def spLaw (K : PySem.W.Frag) : Sp := fun vs H Q _ => ∃ (a : Addr) (ns : List Int), vs = [.ref a] ∧ SqL K H a (ns.map V.int) ∧ ∀ H', Q (.bl true) H'
theorem ok_law {f : Addr} {fd : FuncData} (F : FnP K "law" "law" s_law f fd) (fr : Free mg) (t1 : Fx P w K mg base k "_law_bag" (spP (spBag K))) (t2 : Fx P w K mg base k "_law_name" (spP spName)) (t3 : Fx P w K mg base k "_law_pitch" (spP spPitch))
    (t4 : Fx P w K mg base k "_law_kinds" (spP spKinds)) (t5 : Fx P w K mg base k "_law_kept_early" (spP (spKept 0 10))) (t6 : Fx P w K mg base k "_law_kept_late" (spP (spKept 10 19))) : FnOk P w K mg base (L2N.CX P w) (k + 1) f fd ["_law_script"] (spLaw K) := by
  refine okOf F sc_law (fun vs H Q E h => ?_) fun f cdv A outer s H vs Q E hr gd gx h => ⟨_,
    (pss_cons (ps_set (i := 1) sc_law.nd rfl (by first | exact Or.inl rfl | exact Or.inr rfl) (pe_callG gd rfl (pa_cons (pv 0) pa_nil)))
    (pss_cons (ps_set (i := 2) sc_law.nd rfl (by first | exact Or.inl rfl | exact Or.inr rfl) (pe_callG gd rfl (pa_cons (pv 1) (pa_cons (pe_lst pa_nil) pa_nil))))
    (pss_cons (ps_set (i := 3) sc_law.nd rfl (by first | exact Or.inl rfl | exact Or.inr rfl) (pe_callG gd rfl (pa_cons (pv 1) (pa_cons (pe_lst (pa_cons (pv 2) pa_nil)) pa_nil))))
    (pss_cons (ps_set (i := 4) sc_law.nd rfl (by first | exact Or.inl rfl | exact Or.inr rfl) (pe_callG gd rfl (pa_cons (pv 1) pa_nil)))
    (pss_cons (ps_set (i := 5) sc_law.nd rfl (by first | exact Or.inl rfl | exact Or.inr rfl) (pe_lst (pa_cons (pe_lst (pa_cons (pv 2) pa_nil)) (pa_cons (pe_lst (pa_cons (pv 2) pa_nil)) (pa_cons (pe_lst (pa_cons (pv 2) pa_nil)) (pa_cons (pe_lst (pa_cons (pv 4) pa_nil)) (pa_cons (pe_lst (pa_cons (pv 4) pa_nil)) (pa_cons (pe_lst (pa_cons (pv 2) pa_nil)) (pa_cons (pe_lst (pa_cons (pv 2) pa_nil)) (pa_cons (pe_lst (pa_cons (pv 4) pa_nil)) (pa_cons (pe_lst (pa_cons (pv 4) pa_nil)) (pa_cons (pe_lst (pa_cons (pv 4) pa_nil)) pa_nil))))))))))))
    (pss_cons (ps_set (i := 5) sc_law.nd rfl (by first | exact Or.inl rfl | exact Or.inr rfl) (pe_op (op_addK (K := K) rfl) (pv 5) (pe_lst (pa_cons (pe_lst (pa_cons (pv 2) (pa_cons (pv 4) pa_nil))) (pa_cons (pe_lst (pa_cons (pv 2) pa_nil)) (pa_cons (pe_lst (pa_cons (pv 2) (pa_cons (pv 3) pa_nil))) (pa_cons (pe_lst (pa_cons (pv 4) pa_nil)) (pa_cons (pe_lst (pa_cons (pv 4) pa_nil)) (pa_cons (pe_lst pa_nil) (pa_cons (pe_lst pa_nil) (pa_cons (pe_lst pa_nil) (pa_cons (pe_lst (pa_cons (pv 4) (pa_cons (pv 2) pa_nil))) pa_nil))))))))))))
    (pss_cons (ps_for (passes_of rfl) rfl (pi_range1 rfl fr.range (pa_cons pe_int pa_nil)) (pg_name (i := 6) sc_law.nd rfl (by first | exact Or.inl rfl | exact Or.inr rfl))
      (pss_cons (ps_if (pt_cmpR (op_neK (K := K) rfl (gd_hu hr)) (pe_callG gd rfl (pa_cons (pv 6) (pa_cons (pv 2) (pa_cons (pv 3) (pa_cons (pv 4) pa_nil))))) (pe_lst (pa_cons (pv 6) (pa_cons pe_bl pa_nil))) (nomark _))
        (pss_one (ps_ret pe_bl))
        pss_nil)
      (pss_cons (ps_if (PW.pt (pw_and (pt_cmpR op_lt (pv 6) pe_int (nomark _)) (pw_and1 (pt_cmpR (op_neK (K := K) rfl (gd_hu hr)) (pe_callG gd rfl (pa_cons (pv 6) (pa_cons (pv 2) (pa_cons (pv 3) (pa_cons (pv 4) pa_nil))))) (pe_ix (ix_K (K := K) rfl (gd_hu hr)) (pv 5) (pv 6) fun _ _ => rfl) (nomark _)))))
        (pss_one (ps_ret pe_bl))
        pss_nil)
      (pss_one (ps_if (PW.pt (pw_and (pt_cmpR op_gt (pv 6) pe_int (nomark _)) (pw_and1 (pt_cmpR (op_neK (K := K) rfl (gd_hu hr)) (pe_callG gd rfl (pa_cons (pv 6) (pa_cons (pv 2) (pa_cons (pv 3) (pa_cons (pv 4) pa_nil))))) (pe_ix (ix_K (K := K) rfl (gd_hu hr)) (pv 5) (pv 6) fun _ _ => rfl) (nomark _)))))
        (pss_one (ps_ret pe_bl))
        pss_nil)))))
    (pss_one (ps_ret pe_bl))))))))), ?_⟩
  · obtain ⟨c, n, rfl, _⟩ := h
    rfl
  · obtain ⟨a, ns, rfl, hq, q⟩ := h
    walk_at "begin"
    walk_at "go"
    refine ⟨a, ns, rfl, hq, fun b H1 s1 hb0 hb _ => ?_⟩
    walk_at "go"
    intro p hp
    walk_at "go"
    refine ⟨b, p, 0, [], rfl, hb.same (Same.new hp), by omega, .inl upd_same, by simp, fun nm H2 nm1 _ b2 hb2 _ => ?_⟩
    walk_at "go"
    intro p2 hp2
    walk_at "go"
    refine ⟨b, p2, _, [nm], rfl, hb2.same (Same.new hp2), by omega, .inl upd_same, by simp, fun ot H3 ot1 _ b3 hb3 _ => ?_⟩
    walk_at "go"
    refine ⟨b, _, rfl, hb3, by omega, fun nu n' H4 _ b4 hb4 _ _ => ?_⟩
    clear hb hb2 hb3 hb4 b2 b3 b4
    walk_at "go"
    have r0 : Rows H4 [] [] := .nil
    intro p0 h0
    have r1 := Rows.new (xs := [.str nm]) r0 h0
    walk_at "go"
    intro p1 h1
    have r2 := Rows.new (xs := [.str nm]) r1 h1
    walk_at "go"
    intro p2 h2
    have r3 := Rows.new (xs := [.str nm]) r2 h2
    walk_at "go"
    intro p3 h3
    have r4 := Rows.new (xs := [.int nu]) r3 h3
    walk_at "go"
    intro p4 h4
    have r5 := Rows.new (xs := [.int nu]) r4 h4
    walk_at "go"
    intro p5 h5
    have r6 := Rows.new (xs := [.str nm]) r5 h5
    walk_at "go"
    intro p6 h6
    have r7 := Rows.new (xs := [.str nm]) r6 h6
    walk_at "go"
    intro p7 h7
    have r8 := Rows.new (xs := [.int nu]) r7 h7
    walk_at "go"
    intro p8 h8
    have r9 := Rows.new (xs := [.int nu]) r8 h8
    walk_at "go"
    intro p9 h9
    have r10 := Rows.new (xs := [.int nu]) r9 h9
    walk_at "go"
    intro q1 hq1
    have ra := Rows.mono r10 (Same.new (o := .lst [.ref p0, .ref p1, .ref p2, .ref p3, .ref p4, .ref p5, .ref p6, .ref p7, .ref p8, .ref p9]) hq1)
    have d10 := new_at (o := .lst [.ref p0, .ref p1, .ref p2, .ref p3, .ref p4, .ref p5, .ref p6, .ref p7, .ref p8, .ref p9]) hq1
    walk_at "go"
    intro p10 h10
    have r11 := Rows.new (xs := [.str nm, .int nu]) ra h10
    have d11 := (Same.new (o := .lst [.str nm, .int nu]) h10) _ _ d10
    walk_at "go"
    intro p11 h11
    have r12 := Rows.new (xs := [.str nm]) r11 h11
    have d12 := (Same.new (o := .lst [.str nm]) h11) _ _ d11
    walk_at "go"
    intro p12 h12
    have r13 := Rows.new (xs := [.str nm, .str ot]) r12 h12
    have d13 := (Same.new (o := .lst [.str nm, .str ot]) h12) _ _ d12
    walk_at "go"
    intro p13 h13
    have r14 := Rows.new (xs := [.int nu]) r13 h13
    have d14 := (Same.new (o := .lst [.int nu]) h13) _ _ d13
    walk_at "go"
    intro p14 h14
    have r15 := Rows.new (xs := [.int nu]) r14 h14
    have d15 := (Same.new (o := .lst [.int nu]) h14) _ _ d14
    walk_at "go"
    intro p15 h15
    have r16 := Rows.new (xs := []) r15 h15
    have d16 := (Same.new (o := .lst []) h15) _ _ d15
    walk_at "go"
    intro p16 h16
    have r17 := Rows.new (xs := []) r16 h16
    have d17 := (Same.new (o := .lst []) h16) _ _ d16
    walk_at "go"
    intro p17 h17
    have r18 := Rows.new (xs := []) r17 h17
    have d18 := (Same.new (o := .lst []) h17) _ _ d17
    walk_at "go"
    intro p18 h18
    have r19 := Rows.new (xs := [.int nu, .str nm]) r18 h18
    have d19 := (Same.new (o := .lst [.int nu, .str nm]) h18) _ _ d18
    walk_at "go"
    intro q2 hq2
    have rb := Rows.mono r19 (Same.new (o := .lst [.ref p10, .ref p11, .ref p12, .ref p13, .ref p14, .ref p15, .ref p16, .ref p17, .ref p18]) hq2)
    have db := (Same.new (o := .lst [.ref p10, .ref p11, .ref p12, .ref p13, .ref p14, .ref p15, .ref p16, .ref p17, .ref p18]) hq2) _ _ d19
    walk_at "go"
    refine in_catL (.inl db) (.inl upd_same) (by walk_at "size") fun q3 hq3 => ?_
    have rc := Rows.mono rb (Same.new (o := .lst ([.ref p0, .ref p1, .ref p2, .ref p3, .ref p4, .ref p5, .ref p6, .ref p7, .ref p8, .ref p9] ++ [.ref p10, .ref p11, .ref p12, .ref p13, .ref p14, .ref p15, .ref p16, .ref p17, .ref p18])) hq3)
    walk_at "go"
    have dq := new_at (o := .lst ([.ref p0, .ref p1, .ref p2, .ref p3, .ref p4, .ref p5, .ref p6, .ref p7, .ref p8, .ref p9] ++ [.ref p10, .ref p11, .ref p12, .ref p13, .ref p14, .ref p15, .ref p16, .ref p17, .ref p18])) hq3
    refine in_seq ?_
    walk_at "go"
    generalize upd _ q3 _ = Hd at rc dq ⊢
    clear r0 r1 r2 r3 r4 r5 r6 r7 r8 r9 r10 r11 r12 r13 r14 r15 r16 r17 r18 r19 ra rb db d10 d11 d12 d13 d14 d15 d16 d17 d18 d19
    have row : ∀ n : Nat, n < 19 → ∃ (pn : Addr) (xs : List V), ([V.ref p0, V.ref p1, V.ref p2, V.ref p3, V.ref p4, V.ref p5, V.ref p6, V.ref p7, V.ref p8, V.ref p9] ++ [V.ref p10, V.ref p11, V.ref p12, V.ref p13, V.ref p14, V.ref p15, V.ref p16, V.ref p17, V.ref p18])[n]? = some (.ref pn) ∧ (eVals nm ot nu)[n]? = some xs ∧ Hd pn = some (.lst xs) ∧ xs.all okV = true := fun n hn => by
      have e1 : ([V.ref p0, V.ref p1, V.ref p2, V.ref p3, V.ref p4, V.ref p5, V.ref p6, V.ref p7, V.ref p8, V.ref p9] ++ [V.ref p10, V.ref p11, V.ref p12, V.ref p13, V.ref p14, V.ref p15, V.ref p16, V.ref p17, V.ref p18]) = ([p0, p1, p2, p3, p4, p5, p6, p7, p8, p9, p10, p11, p12, p13, p14, p15, p16, p17, p18] : List Addr).map V.ref := rfl
      have e2 : ([p0, p1, p2, p3, p4, p5, p6, p7, p8, p9, p10, p11, p12, p13, p14, p15, p16, p17, p18] : List Addr)[n]? = some ([p0, p1, p2, p3, p4, p5, p6, p7, p8, p9, p10, p11, p12, p13, p14, p15, p16, p17, p18] : List Addr)[n] := List.getElem?_eq_getElem (by simpa using hn)
      obtain ⟨xs, e3, e4⟩ := paired_get (l₁ := [p0, p1, p2, p3, p4, p5, p6, p7, p8, p9, p10, p11, p12, p13, p14, p15, p16, p17, p18]) rc e2
      refine ⟨_, xs, by rw [e1, List.getElem?_map, e2]; rfl, e3, e4, ?_⟩
      have ha : ∀ l ∈ eVals nm ot nu, l.all okV = true := by
        have k1 : okV (.str nm) = true := nm_str nm1
        have k2 : okV (.str ot) = true := nm_str ot1
        have k3 : okV (.int nu) = true := rfl
        intro l hl
        simp only [eVals, List.mem_cons, List.not_mem_nil, or_false] at hl
        rcases hl with rfl | rfl | rfl | rfl | rfl | rfl | rfl | rfl | rfl | rfl | rfl | rfl | rfl | rfl | rfl | rfl | rfl | rfl | rfl <;> simp only [List.all_cons, List.all_nil, k1, k2, k3, Bool.and_self, Bool.and_true]
      exact ha xs (List.mem_of_getElem? e3)
    refine forW walks_range (fun _ _ σ' H' => ∃ x, σ' = [some (V.ref a), some (V.ref b), some (V.str nm), some (V.str ot), some (V.int nu), some (V.ref q3), x] ∧ Same Hd H') ⟨none, rfl, fun _ _ h => h⟩ (fun _ _ _ _ _ _ => trivial) (fun pre y post σ' H' e ⟨x, e1, s2⟩ v H6 hY => ?_) (fun σ' H' ⟨x, e1, s2⟩ => ?_)
    · obtain ⟨rfl, rfl⟩ := hY
      subst e1
      have hk : ∃ k : Nat, y = (k : Int) ∧ k < 19 := by
        have hc : y ∈ upTo 0 19 := by
          have : y ∈ pre ++ y :: post := by simp
          rw [e] at this
          exact this
        obtain ⟨k, hk, e⟩ := List.mem_map.mp hc
        exact ⟨k, by rw [← e]; simp, by simpa using hk⟩
      obtain ⟨k', rfl, hk⟩ := hk
      obtain ⟨pn, xs, g1, g2, g3, g4⟩ := row k' hk
      walk_at "go"
      refine in_seq ?_
      walk_at "go"
      refine ⟨k', nm, ot, nu, rfl, hk, fun r1 H7 s3 _ hv _ => ?_⟩
      walk_at "go"
      intro r2 hr2
      refine in_neL (SqL.of ((upd_ne (ne_of_none hv hr2)).trans hv)) (SqL.of upd_same) rfl ?_
      walk_at "go"
      have s4 := (s2.trans s3).trans (Same.new (o := .lst [.int (k' : Int), .bl true]) hr2)
      generalize upd H7 r2 _ = H8 at s4 ⊢
      refine in_seqK (fun σ' H' => σ' = [some (V.ref a), some (V.ref b), some (V.str nm), some (V.str ot), some (V.int nu), some (V.ref q3), some (V.int (k' : Int))] ∧ Same Hd H') (fun σ' H9 ⟨e1, s5⟩ => ?_) (fun N hN => ?_)
      · subst e1
        walk_at "go"
        refine in_ite (fun c => ?_) (fun c => ?_)
        · walk_at "go"
          refine ⟨k', nm, ot, nu, xs, rfl, by omega, by omega, g2, fun r3 H10 s6 _ hv3 _ => ?_⟩
          walk_at "go"
          have s7 := s5.trans s6
          refine in_ixR (v := .ref pn) (GetAt.m (s7 _ _ dq) (atI_ok (by omega) (by rw [Int.toNat_natCast]; exact g1))) ?_
          refine in_neL (SqL.of hv3) (SqL.of (s7 _ _ g3)) g4 ?_
          walk_at "go"
          exact ⟨_, rfl, s7⟩
        · walk_at "go"
          exact ⟨_, rfl, s5⟩
      · walk_at "go"
        refine in_ite (fun c => ?_) (fun c => ?_)
        · walk_at "go"
          refine ⟨k', nm, ot, nu, xs, rfl, by omega, by omega, g2, fun r3 H10 s6 _ hv3 _ => ?_⟩
          walk_at "go"
          have s7 := s4.trans s6
          refine in_ixR (v := .ref pn) (GetAt.m (s7 _ _ dq) (atI_ok (by omega) (by rw [Int.toNat_natCast]; exact g1))) ?_
          refine in_neL (SqL.of hv3) (SqL.of (s7 _ _ g3)) g4 ?_
          walk_at "go"
          exact hN _ _ ⟨rfl, s7⟩
        · walk_at "go"
          exact hN _ _ ⟨rfl, s4⟩
    · walk_at "go"
      exact q _
end
end L2.Fk
set_option Elab.async false
set_option linter.all false
set_option maxRecDepth 100000
set_option maxHeartbeats 0
namespace L2.Fk
open PySem PySem.Spec PyProof.Rows

def d__law_bag : He.DefD := ⟨("_law_bag", none), "_law_bag", "_law_bag", defArgs s__law_bag, defBody s__law_bag, defScope s__law_bag, [], []⟩
def d__law_mixed : He.DefD := ⟨("_law_mixed", none), "_law_mixed", "_law_mixed", defArgs s__law_mixed, defBody s__law_mixed, defScope s__law_mixed, [], []⟩
def d__law_take : He.DefD := ⟨("_law_take", none), "_law_take", "_law_take", defArgs s__law_take, defBody s__law_take, defScope s__law_take, [], []⟩
def d__law_name : He.DefD := ⟨("_law_name", none), "_law_name", "_law_name", defArgs s__law_name, defBody s__law_name, defScope s__law_name, [], []⟩
def d__law_pitch : He.DefD := ⟨("_law_pitch", none), "_law_pitch", "_law_pitch", defArgs s__law_pitch, defBody s__law_pitch, defScope s__law_pitch, [], []⟩
def d__law_early : He.DefD := ⟨("_law_early", none), "_law_early", "_law_early", defArgs s__law_early, defBody s__law_early, defScope s__law_early, [], []⟩
def d__law_late : He.DefD := ⟨("_law_late", none), "_law_late", "_law_late", defArgs s__law_late, defBody s__law_late, defScope s__law_late, [], []⟩
def d__law_raise : He.DefD := ⟨("_law_raise", none), "_law_raise", "_law_raise", defArgs s__law_raise, defBody s__law_raise, defScope s__law_raise, [], []⟩
def d__law_kept_early : He.DefD := ⟨("_law_kept_early", none), "_law_kept_early", "_law_kept_early", defArgs s__law_kept_early, defBody s__law_kept_early, defScope s__law_kept_early, [], []⟩
def d__law_kept_late : He.DefD := ⟨("_law_kept_late", none), "_law_kept_late", "_law_kept_late", defArgs s__law_kept_late, defBody s__law_kept_late, defScope s__law_kept_late, [], []⟩
def d__law_kinds : He.DefD := ⟨("_law_kinds", none), "_law_kinds", "_law_kinds", defArgs s__law_kinds, defBody s__law_kinds, defScope s__law_kinds, [], []⟩
def d_law : He.DefD := ⟨("law", none), "law", "law", defArgs s_law, defBody s_law, defScope s_law, [], []⟩
def fns : List He.DefD := [d__law_bag, d__law_mixed, d__law_take, d__law_name, d__law_pitch, d__law_early, d__law_late, d__law_raise, d__law_kept_early, d__law_kept_late, d__law_kinds, d_law]
def gls : List Str := ["_law_bag", "_law_mixed", "_law_take", "_law_name", "_law_pitch", "_law_early", "_law_late", "_law_raise", "_law_kept_early", "_law_kept_late", "_law_kinds", "law"]
def frs93 : List Str := ["len", "range", "int", "abs", "max", "min", "all", "any", "str", "list", "tuple", "dict", "set", "sorted", "enumerate", "zip", "repr", "isinstance", "super", "ValueError"]
def facts : List He.Fa := gls.map He.Fa.glo ++ (frs93.map He.Fa.free ++ [.exc "NoFitting", .exc "NothingToUndo", .exc "NothingToRedo"])
abbrev s_BadName : Stmt := inClass (top 2) 0
abbrev s_UnknownFork : Stmt := inClass (top 3) 0
abbrev s_RepeatedFork : Stmt := inClass (top 4) 0
abbrev s_BadCount : Stmt := inClass (top 5) 0
abbrev s_BadLimit : Stmt := inClass (top 6) 0
abbrev s_BadWord : Stmt := inClass (top 7) 0
abbrev s_BadText : Stmt := inClass (top 8) 0
abbrev s_BadStep : Stmt := inClass (top 9) 0
abbrev s_BadLot : Stmt := inClass (top 10) 0
abbrev s_TooDeep : Stmt := inClass (top 11) 0
abbrev s_TooMany : Stmt := inClass (top 12) 0
abbrev s_Clash : Stmt := inClass (top 15) 0
abbrev s_Apart : Stmt := inClass (top 13) 0
abbrev s_NoStrike : Stmt := inClass (top 16) 0
abbrev s_NoBlock : Stmt := inClass (top 17) 0
abbrev s_LineError : Stmt := inClass (top 14) 0
def ers : List (Str × Str × Stmt) := [("BadName", "BadName.__init__", s_BadName), ("UnknownFork", "UnknownFork.__init__", s_UnknownFork), ("RepeatedFork", "RepeatedFork.__init__", s_RepeatedFork), ("BadCount", "BadCount.__init__", s_BadCount), ("BadLimit", "BadLimit.__init__", s_BadLimit), ("BadWord", "BadWord.__init__", s_BadWord), ("BadText", "BadText.__init__", s_BadText), ("BadStep", "BadStep.__init__", s_BadStep), ("BadLot", "BadLot.__init__", s_BadLot), ("TooDeep", "TooDeep.__init__", s_TooDeep), ("TooMany", "TooMany.__init__", s_TooMany), ("Clash", "Clash.__init__", s_Clash), ("Apart", "Apart.__init__", s_Apart), ("NoStrike", "NoStrike.__init__", s_NoStrike), ("NoBlock", "NoBlock.__init__", s_NoBlock), ("LineError", "LineError.__init__", s_LineError)]
def flds : List (Str × List Str) := [("BadName", ["name"]), ("UnknownFork", ["name"]), ("RepeatedFork", ["name"]), ("BadCount", ["count"]), ("BadLimit", ["value"]), ("BadWord", ["word"]), ("BadText", ["text"]), ("BadStep", ["step"]), ("BadLot", ["size"]), ("TooDeep", ["depth"]), ("TooMany", ["what", "most"]), ("Clash", ["name"]), ("Apart", ["first", "second"]), ("NoStrike", ["index"]), ("NoBlock", ["index"]), ("NoFitting", []), ("NothingToUndo", []), ("NothingToRedo", []), ("LineError", ["index", "line"]), ("ForkError", [])]
def inits : List Str := ["BadName", "UnknownFork", "RepeatedFork", "BadCount", "BadLimit", "BadWord", "BadText", "BadStep", "BadLot", "TooDeep", "TooMany", "Clash", "Apart", "NoStrike", "NoBlock", "LineError"]
abbrev theFile : Str := PySem.Challenge.pw_forkbeats_k93_error_classes.main.file
def chk93 (K : PySem.W.Frag) : Bool := (flds.all fun p => errB K p.1 p.2) && ((inits.all fun x => errClsB K (He.ga K x) && initB theFile K (He.ga K x) (x ++ ".__init__")) &&
  ((eName.all fun x => eName.all fun y => decide (PySem.W.exmOne K (.ref (He.ga K x)) (.ref (He.ga K y)) = some (decide (x = y)))) && ((eName.all fun x => decide (PySem.W.exmOne K (.ref (He.ga K x)) (.ref (He.ga K "ForkError")) = some true)) &&
  ((eName.all fun x => eName.all fun y => decide (PySem.W.kitOne K (.ref (He.ga K x)) (.ref (He.ga K y)) = some (decide (x = y)))) && (eName.all fun x => decide (PySem.W.kitOne K (.ref (He.ga K x)) (.type "ValueError") = some true))))))
def kn : Kn := ⟨facts, fns, chk93, ers⟩
abbrev R : PySem.W.OpenRow := PySem.W.OpenLaw.row PySem.Challenge.rw_forkbeats_k93_error_classes
abbrev hk : PySem.W.Hook := hookX 5 kn
def ob (s : PySem.W.SharedT) : AlX := kn.obsG 5 (HandSHeadRun.getT s)
theorem ob_eq (s : PySem.W.SharedT) : ob s = hk.obs s.abs := obsX_eq (HandSHeadRun.getT_eq s)
def loose : List Str := ["ForkError", "BadName", "UnknownFork", "RepeatedFork", "BadCount", "BadLimit", "BadWord", "BadText", "BadStep", "BadLot", "TooDeep", "TooMany", "Apart", "LineError", "Clash", "NoStrike", "NoBlock", "NoFitting", "NothingToUndo", "NothingToRedo", "_law_bag", "_law_mixed", "_law_take", "_law_name", "_law_pitch", "_law_early", "_law_late", "_law_raise", "_law_kept_early", "_law_kept_late", "_law_kinds"]
theorem run (w : World) : HandSHeadRun.RunEq R (PySem.W.view R.prog [33]) hk ob 20000 loose w := by
  intro os
  kernel_rfl
end L2.Fk
set_option Elab.async false
set_option linter.all false
set_option maxRecDepth 100000
set_option maxHeartbeats 4000000
namespace L2.Fk
open PySem PySem.Spec PyProof.Rows
section
variable {w : World} {K : PySem.W.Frag} {mg : Str → Option Value} {base h : Heap}
abbrev P93 : Program := (PySem.Challenge.rw_forkbeats_k93_error_classes).prog
theorem free93 (X : K.In h) (G : h.Ns mainGlobals mg) (cs : He.SaysD facts fns K) : Free mg := by
  have fr : ∀ (i : Nat) (x : Str), frs93[i]? = some x → mg x = none := fun i x hi => He.free_ok X G (List.all_eq_true.mp (He.ba (show ((facts.all fun f => f.ok K) && fns.all fun d => d.ok K) = true from congrArg (fun z : He.AlD => z.1) cs)).1 (.free x) (List.mem_append_right _ (List.mem_append_left _ (List.mem_map_of_mem (List.mem_of_getElem? hi)))))
  exact ⟨fr 0 _ rfl, fr 1 _ rfl, fr 2 _ rfl, fr 3 _ rfl, fr 4 _ rfl, fr 5 _ rfl, fr 6 _ rfl, fr 7 _ rfl, fr 8 _ rfl, fr 9 _ rfl, fr 10 _ rfl, fr 11 _ rfl, fr 12 _ rfl, fr 13 _ rfl, fr 14 _ rfl, fr 15 _ rfl, fr 16 _ rfl, fr 17 _ rfl, fr 18 _ rfl, fr 19 _ rfl⟩
/-- what the check says -/
theorem chk_errs (X : K.In h) (G : h.Ns mainGlobals mg) (c : chk93 K = true) : (∀ p ∈ flds, cOf mg p.1 = He.ga K p.1 ∧ ErrX K mg p.1 p.2) ∧ (∀ x ∈ inits, errClsB K (He.ga K x) = true ∧ initB theFile K (He.ga K x) (x ++ ".__init__") = true) := by
  obtain ⟨c1, c⟩ := He.ba c
  obtain ⟨c2, c⟩ := He.ba c
  exact ⟨fun p hp => errB_ok X G (List.all_eq_true.mp c1 p hp), fun x hx => He.ba (List.all_eq_true.mp c2 x hx)⟩
theorem eName_fld : ∀ x ∈ eName, ∃ fs, (x, fs) ∈ flds := by
  have hm : ∀ x ∈ eName, x ∈ flds.map (·.1) := by decide +kernel
  intro x hx
  obtain ⟨⟨y, fs⟩, hp, e⟩ := List.mem_map.mp (hm x hx)
  have e : y = x := e
  subst e
  exact ⟨fs, hp⟩
theorem errs93 (X : K.In h) (G : h.Ns mainGlobals mg) (c : chk93 K = true) : ErrsAt K mg := by
  obtain ⟨e, _⟩ := chk_errs X G c
  have gc : ∀ x ∈ eName, cOf mg x = He.ga K x := fun x hx => let ⟨fs, h⟩ := eName_fld x hx; (e (x, fs) h).1
  have at_ : ∀ (x : Str) (fs : List Str), (x, fs) ∈ flds → ErrX K mg x fs := fun x fs h => (e (x, fs) h).2
  have gF : cOf mg "ForkError" = He.ga K "ForkError" := (e ("ForkError", []) (by decide +kernel)).1
  obtain ⟨_, c⟩ := He.ba c
  obtain ⟨_, c⟩ := He.ba c
  obtain ⟨c3, c⟩ := He.ba c
  obtain ⟨c4, c⟩ := He.ba c
  obtain ⟨c5, c6⟩ := He.ba c
  refine ⟨at_ "BadName" ["name"] (by decide +kernel), at_ "UnknownFork" ["name"] (by decide +kernel), at_ "RepeatedFork" ["name"] (by decide +kernel), at_ "BadCount" ["count"] (by decide +kernel), at_ "BadLimit" ["value"] (by decide +kernel), at_ "BadWord" ["word"] (by decide +kernel), at_ "BadText" ["text"] (by decide +kernel), at_ "BadStep" ["step"] (by decide +kernel), at_ "BadLot" ["size"] (by decide +kernel), at_ "TooDeep" ["depth"] (by decide +kernel), at_ "TooMany" ["what", "most"] (by decide +kernel), at_ "Clash" ["name"] (by decide +kernel), at_ "Apart" ["first", "second"] (by decide +kernel), at_ "NoStrike" ["index"] (by decide +kernel), at_ "NoBlock" ["index"] (by decide +kernel), at_ "NoFitting" [] (by decide +kernel), at_ "NothingToUndo" [] (by decide +kernel), at_ "NothingToRedo" [] (by decide +kernel), at_ "LineError" ["index", "line"] (by decide +kernel), at_ "ForkError" [] (by decide +kernel), ?_, ?_, ?_, ?_, ?_⟩
  · intro x hx
    obtain ⟨fs, h⟩ := eName_fld x hx
    exact (at_ x fs h).ec
  · intro x hx y hy
    rw [gc x hx, gc y hy]
    exact of_decide_eq_true (List.all_eq_true.mp (List.all_eq_true.mp c3 x hx) y hy)
  · intro x hx
    rw [gc x hx, gF]
    exact of_decide_eq_true (List.all_eq_true.mp c4 x hx)
  · intro x hx y hy
    rw [gc x hx, gc y hy]
    exact of_decide_eq_true (List.all_eq_true.mp (List.all_eq_true.mp c5 x hx) y hy)
  · intro x hx
    rw [gc x hx]
    exact of_decide_eq_true (List.all_eq_true.mp c6 x hx)
theorem ex_BadName (X : K.In h) (G : h.Ns mainGlobals mg) (c : kn.obs K = kn.val) (fr : Free mg) : Ex P93 w K mg base 1 "BadName" ((fun C => spEx1 C "name") (cOf mg "BadName")) := by
  obtain ⟨e1, e2⟩ := chk_errs X G (Kn.check c)
  obtain ⟨gc, er⟩ := e1 ("BadName", ["name"]) (by decide +kernel)
  obtain ⟨t1, t2⟩ := e2 "BadName" (by decide +kernel)
  have T := errClsB_ok t1
  have N := initB_ok (P := P93) (ps := ["name"]) T (Kn.init c 0 (st := s_BadName) (q := "BadName.__init__") rfl) t2 (by decide +kernel) rfl (fun _ _ _ _ _ _ _ us hl => match us, hl with | [_, _], _ => rfl) rfl rfl rfl (by decide +kernel) rfl (by decide +kernel) rfl rfl
  have gc : cOf mg "BadName" = He.ga K "BadName" := gc
  rw [← gc] at T N
  exact ex_of (sp := fun C => spEx1 C "name") er.g T.kC (MkE.one T N ((er.no "name" (by decide))) rfl fr.super)
theorem ex_UnknownFork (X : K.In h) (G : h.Ns mainGlobals mg) (c : kn.obs K = kn.val) (fr : Free mg) : Ex P93 w K mg base 1 "UnknownFork" ((fun C => spEx1 C "name") (cOf mg "UnknownFork")) := by
  obtain ⟨e1, e2⟩ := chk_errs X G (Kn.check c)
  obtain ⟨gc, er⟩ := e1 ("UnknownFork", ["name"]) (by decide +kernel)
  obtain ⟨t1, t2⟩ := e2 "UnknownFork" (by decide +kernel)
  have T := errClsB_ok t1
  have N := initB_ok (P := P93) (ps := ["name"]) T (Kn.init c 1 (st := s_UnknownFork) (q := "UnknownFork.__init__") rfl) t2 (by decide +kernel) rfl (fun _ _ _ _ _ _ _ us hl => match us, hl with | [_, _], _ => rfl) rfl rfl rfl (by decide +kernel) rfl (by decide +kernel) rfl rfl
  have gc : cOf mg "UnknownFork" = He.ga K "UnknownFork" := gc
  rw [← gc] at T N
  exact ex_of (sp := fun C => spEx1 C "name") er.g T.kC (MkE.one T N ((er.no "name" (by decide))) rfl fr.super)
theorem ex_RepeatedFork (X : K.In h) (G : h.Ns mainGlobals mg) (c : kn.obs K = kn.val) (fr : Free mg) : Ex P93 w K mg base 1 "RepeatedFork" ((fun C => spEx1 C "name") (cOf mg "RepeatedFork")) := by
  obtain ⟨e1, e2⟩ := chk_errs X G (Kn.check c)
  obtain ⟨gc, er⟩ := e1 ("RepeatedFork", ["name"]) (by decide +kernel)
  obtain ⟨t1, t2⟩ := e2 "RepeatedFork" (by decide +kernel)
  have T := errClsB_ok t1
  have N := initB_ok (P := P93) (ps := ["name"]) T (Kn.init c 2 (st := s_RepeatedFork) (q := "RepeatedFork.__init__") rfl) t2 (by decide +kernel) rfl (fun _ _ _ _ _ _ _ us hl => match us, hl with | [_, _], _ => rfl) rfl rfl rfl (by decide +kernel) rfl (by decide +kernel) rfl rfl
  have gc : cOf mg "RepeatedFork" = He.ga K "RepeatedFork" := gc
  rw [← gc] at T N
  exact ex_of (sp := fun C => spEx1 C "name") er.g T.kC (MkE.one T N ((er.no "name" (by decide))) rfl fr.super)
theorem ex_BadCount (X : K.In h) (G : h.Ns mainGlobals mg) (c : kn.obs K = kn.val) (fr : Free mg) : Ex P93 w K mg base 1 "BadCount" ((fun C => spEx1 C "count") (cOf mg "BadCount")) := by
  obtain ⟨e1, e2⟩ := chk_errs X G (Kn.check c)
  obtain ⟨gc, er⟩ := e1 ("BadCount", ["count"]) (by decide +kernel)
  obtain ⟨t1, t2⟩ := e2 "BadCount" (by decide +kernel)
  have T := errClsB_ok t1
  have N := initB_ok (P := P93) (ps := ["count"]) T (Kn.init c 3 (st := s_BadCount) (q := "BadCount.__init__") rfl) t2 (by decide +kernel) rfl (fun _ _ _ _ _ _ _ us hl => match us, hl with | [_, _], _ => rfl) rfl rfl rfl (by decide +kernel) rfl (by decide +kernel) rfl rfl
  have gc : cOf mg "BadCount" = He.ga K "BadCount" := gc
  rw [← gc] at T N
  exact ex_of (sp := fun C => spEx1 C "count") er.g T.kC (MkE.one T N ((er.no "count" (by decide))) rfl fr.super)
theorem ex_BadLimit (X : K.In h) (G : h.Ns mainGlobals mg) (c : kn.obs K = kn.val) (fr : Free mg) : Ex P93 w K mg base 1 "BadLimit" ((fun C => spEx1 C "value") (cOf mg "BadLimit")) := by
  obtain ⟨e1, e2⟩ := chk_errs X G (Kn.check c)
  obtain ⟨gc, er⟩ := e1 ("BadLimit", ["value"]) (by decide +kernel)
  obtain ⟨t1, t2⟩ := e2 "BadLimit" (by decide +kernel)
  have T := errClsB_ok t1
  have N := initB_ok (P := P93) (ps := ["value"]) T (Kn.init c 4 (st := s_BadLimit) (q := "BadLimit.__init__") rfl) t2 (by decide +kernel) rfl (fun _ _ _ _ _ _ _ us hl => match us, hl with | [_, _], _ => rfl) rfl rfl rfl (by decide +kernel) rfl (by decide +kernel) rfl rfl
  have gc : cOf mg "BadLimit" = He.ga K "BadLimit" := gc
  rw [← gc] at T N
  exact ex_of (sp := fun C => spEx1 C "value") er.g T.kC (MkE.one T N ((er.no "value" (by decide))) rfl fr.super)
theorem ex_BadWord (X : K.In h) (G : h.Ns mainGlobals mg) (c : kn.obs K = kn.val) (fr : Free mg) : Ex P93 w K mg base 1 "BadWord" ((fun C => spEx1 C "word") (cOf mg "BadWord")) := by
  obtain ⟨e1, e2⟩ := chk_errs X G (Kn.check c)
  obtain ⟨gc, er⟩ := e1 ("BadWord", ["word"]) (by decide +kernel)
  obtain ⟨t1, t2⟩ := e2 "BadWord" (by decide +kernel)
  have T := errClsB_ok t1
  have N := initB_ok (P := P93) (ps := ["word"]) T (Kn.init c 5 (st := s_BadWord) (q := "BadWord.__init__") rfl) t2 (by decide +kernel) rfl (fun _ _ _ _ _ _ _ us hl => match us, hl with | [_, _], _ => rfl) rfl rfl rfl (by decide +kernel) rfl (by decide +kernel) rfl rfl
  have gc : cOf mg "BadWord" = He.ga K "BadWord" := gc
  rw [← gc] at T N
  exact ex_of (sp := fun C => spEx1 C "word") er.g T.kC (MkE.one T N ((er.no "word" (by decide))) rfl fr.super)
theorem ex_BadText (X : K.In h) (G : h.Ns mainGlobals mg) (c : kn.obs K = kn.val) (fr : Free mg) : Ex P93 w K mg base 1 "BadText" ((fun C => spEx1 C "text") (cOf mg "BadText")) := by
  obtain ⟨e1, e2⟩ := chk_errs X G (Kn.check c)
  obtain ⟨gc, er⟩ := e1 ("BadText", ["text"]) (by decide +kernel)
  obtain ⟨t1, t2⟩ := e2 "BadText" (by decide +kernel)
  have T := errClsB_ok t1
  have N := initB_ok (P := P93) (ps := ["text"]) T (Kn.init c 6 (st := s_BadText) (q := "BadText.__init__") rfl) t2 (by decide +kernel) rfl (fun _ _ _ _ _ _ _ us hl => match us, hl with | [_, _], _ => rfl) rfl rfl rfl (by decide +kernel) rfl (by decide +kernel) rfl rfl
  have gc : cOf mg "BadText" = He.ga K "BadText" := gc
  rw [← gc] at T N
  exact ex_of (sp := fun C => spEx1 C "text") er.g T.kC (MkE.one T N ((er.no "text" (by decide))) rfl fr.super)
theorem ex_BadStep (X : K.In h) (G : h.Ns mainGlobals mg) (c : kn.obs K = kn.val) (fr : Free mg) : Ex P93 w K mg base 1 "BadStep" ((fun C => spEx1 C "step") (cOf mg "BadStep")) := by
  obtain ⟨e1, e2⟩ := chk_errs X G (Kn.check c)
  obtain ⟨gc, er⟩ := e1 ("BadStep", ["step"]) (by decide +kernel)
  obtain ⟨t1, t2⟩ := e2 "BadStep" (by decide +kernel)
  have T := errClsB_ok t1
  have N := initB_ok (P := P93) (ps := ["step"]) T (Kn.init c 7 (st := s_BadStep) (q := "BadStep.__init__") rfl) t2 (by decide +kernel) rfl (fun _ _ _ _ _ _ _ us hl => match us, hl with | [_, _], _ => rfl) rfl rfl rfl (by decide +kernel) rfl (by decide +kernel) rfl rfl
  have gc : cOf mg "BadStep" = He.ga K "BadStep" := gc
  rw [← gc] at T N
  exact ex_of (sp := fun C => spEx1 C "step") er.g T.kC (MkE.one T N ((er.no "step" (by decide))) rfl fr.super)
theorem ex_BadLot (X : K.In h) (G : h.Ns mainGlobals mg) (c : kn.obs K = kn.val) (fr : Free mg) : Ex P93 w K mg base 1 "BadLot" ((fun C => spEx1 C "size") (cOf mg "BadLot")) := by
  obtain ⟨e1, e2⟩ := chk_errs X G (Kn.check c)
  obtain ⟨gc, er⟩ := e1 ("BadLot", ["size"]) (by decide +kernel)
  obtain ⟨t1, t2⟩ := e2 "BadLot" (by decide +kernel)
  have T := errClsB_ok t1
  have N := initB_ok (P := P93) (ps := ["size"]) T (Kn.init c 8 (st := s_BadLot) (q := "BadLot.__init__") rfl) t2 (by decide +kernel) rfl (fun _ _ _ _ _ _ _ us hl => match us, hl with | [_, _], _ => rfl) rfl rfl rfl (by decide +kernel) rfl (by decide +kernel) rfl rfl
  have gc : cOf mg "BadLot" = He.ga K "BadLot" := gc
  rw [← gc] at T N
  exact ex_of (sp := fun C => spEx1 C "size") er.g T.kC (MkE.one T N ((er.no "size" (by decide))) rfl fr.super)
theorem ex_TooDeep (X : K.In h) (G : h.Ns mainGlobals mg) (c : kn.obs K = kn.val) (fr : Free mg) : Ex P93 w K mg base 1 "TooDeep" ((fun C => spEx1 C "depth") (cOf mg "TooDeep")) := by
  obtain ⟨e1, e2⟩ := chk_errs X G (Kn.check c)
  obtain ⟨gc, er⟩ := e1 ("TooDeep", ["depth"]) (by decide +kernel)
  obtain ⟨t1, t2⟩ := e2 "TooDeep" (by decide +kernel)
  have T := errClsB_ok t1
  have N := initB_ok (P := P93) (ps := ["depth"]) T (Kn.init c 9 (st := s_TooDeep) (q := "TooDeep.__init__") rfl) t2 (by decide +kernel) rfl (fun _ _ _ _ _ _ _ us hl => match us, hl with | [_, _], _ => rfl) rfl rfl rfl (by decide +kernel) rfl (by decide +kernel) rfl rfl
  have gc : cOf mg "TooDeep" = He.ga K "TooDeep" := gc
  rw [← gc] at T N
  exact ex_of (sp := fun C => spEx1 C "depth") er.g T.kC (MkE.one T N ((er.no "depth" (by decide))) rfl fr.super)
theorem ex_TooMany (X : K.In h) (G : h.Ns mainGlobals mg) (c : kn.obs K = kn.val) (fr : Free mg) : Ex P93 w K mg base 1 "TooMany" ((fun C => spEx2 C "what" "most") (cOf mg "TooMany")) := by
  obtain ⟨e1, e2⟩ := chk_errs X G (Kn.check c)
  obtain ⟨gc, er⟩ := e1 ("TooMany", ["what", "most"]) (by decide +kernel)
  obtain ⟨t1, t2⟩ := e2 "TooMany" (by decide +kernel)
  have T := errClsB_ok t1
  have N := initB_ok (P := P93) (ps := ["what", "most"]) T (Kn.init c 10 (st := s_TooMany) (q := "TooMany.__init__") rfl) t2 (by decide +kernel) rfl (fun _ _ _ _ _ _ _ us hl => match us, hl with | [_, _, _], _ => rfl) rfl rfl rfl (by decide +kernel) rfl (by decide +kernel) rfl rfl
  have gc : cOf mg "TooMany" = He.ga K "TooMany" := gc
  rw [← gc] at T N
  exact ex_of (sp := fun C => spEx2 C "what" "most") er.g T.kC (MkE.two T N (by decide) (er.no "what" (by decide)) (er.no "most" (by decide)) rfl fr.super)
theorem ex_Clash (X : K.In h) (G : h.Ns mainGlobals mg) (c : kn.obs K = kn.val) (fr : Free mg) : Ex P93 w K mg base 1 "Clash" ((fun C => spEx1 C "name") (cOf mg "Clash")) := by
  obtain ⟨e1, e2⟩ := chk_errs X G (Kn.check c)
  obtain ⟨gc, er⟩ := e1 ("Clash", ["name"]) (by decide +kernel)
  obtain ⟨t1, t2⟩ := e2 "Clash" (by decide +kernel)
  have T := errClsB_ok t1
  have N := initB_ok (P := P93) (ps := ["name"]) T (Kn.init c 11 (st := s_Clash) (q := "Clash.__init__") rfl) t2 (by decide +kernel) rfl (fun _ _ _ _ _ _ _ us hl => match us, hl with | [_, _], _ => rfl) rfl rfl rfl (by decide +kernel) rfl (by decide +kernel) rfl rfl
  have gc : cOf mg "Clash" = He.ga K "Clash" := gc
  rw [← gc] at T N
  exact ex_of (sp := fun C => spEx1 C "name") er.g T.kC (MkE.one T N ((er.no "name" (by decide))) rfl fr.super)
theorem ex_Apart (X : K.In h) (G : h.Ns mainGlobals mg) (c : kn.obs K = kn.val) (fr : Free mg) : Ex P93 w K mg base 1 "Apart" ((fun C => spEx2 C "first" "second") (cOf mg "Apart")) := by
  obtain ⟨e1, e2⟩ := chk_errs X G (Kn.check c)
  obtain ⟨gc, er⟩ := e1 ("Apart", ["first", "second"]) (by decide +kernel)
  obtain ⟨t1, t2⟩ := e2 "Apart" (by decide +kernel)
  have T := errClsB_ok t1
  have N := initB_ok (P := P93) (ps := ["first", "second"]) T (Kn.init c 12 (st := s_Apart) (q := "Apart.__init__") rfl) t2 (by decide +kernel) rfl (fun _ _ _ _ _ _ _ us hl => match us, hl with | [_, _, _], _ => rfl) rfl rfl rfl (by decide +kernel) rfl (by decide +kernel) rfl rfl
  have gc : cOf mg "Apart" = He.ga K "Apart" := gc
  rw [← gc] at T N
  exact ex_of (sp := fun C => spEx2 C "first" "second") er.g T.kC (MkE.two T N (by decide) (er.no "first" (by decide)) (er.no "second" (by decide)) rfl fr.super)
theorem ex_NoStrike (X : K.In h) (G : h.Ns mainGlobals mg) (c : kn.obs K = kn.val) (fr : Free mg) : Ex P93 w K mg base 1 "NoStrike" ((fun C => spEx1 C "index") (cOf mg "NoStrike")) := by
  obtain ⟨e1, e2⟩ := chk_errs X G (Kn.check c)
  obtain ⟨gc, er⟩ := e1 ("NoStrike", ["index"]) (by decide +kernel)
  obtain ⟨t1, t2⟩ := e2 "NoStrike" (by decide +kernel)
  have T := errClsB_ok t1
  have N := initB_ok (P := P93) (ps := ["index"]) T (Kn.init c 13 (st := s_NoStrike) (q := "NoStrike.__init__") rfl) t2 (by decide +kernel) rfl (fun _ _ _ _ _ _ _ us hl => match us, hl with | [_, _], _ => rfl) rfl rfl rfl (by decide +kernel) rfl (by decide +kernel) rfl rfl
  have gc : cOf mg "NoStrike" = He.ga K "NoStrike" := gc
  rw [← gc] at T N
  exact ex_of (sp := fun C => spEx1 C "index") er.g T.kC (MkE.one T N ((er.no "index" (by decide))) rfl fr.super)
theorem ex_NoBlock (X : K.In h) (G : h.Ns mainGlobals mg) (c : kn.obs K = kn.val) (fr : Free mg) : Ex P93 w K mg base 1 "NoBlock" ((fun C => spEx1 C "index") (cOf mg "NoBlock")) := by
  obtain ⟨e1, e2⟩ := chk_errs X G (Kn.check c)
  obtain ⟨gc, er⟩ := e1 ("NoBlock", ["index"]) (by decide +kernel)
  obtain ⟨t1, t2⟩ := e2 "NoBlock" (by decide +kernel)
  have T := errClsB_ok t1
  have N := initB_ok (P := P93) (ps := ["index"]) T (Kn.init c 14 (st := s_NoBlock) (q := "NoBlock.__init__") rfl) t2 (by decide +kernel) rfl (fun _ _ _ _ _ _ _ us hl => match us, hl with | [_, _], _ => rfl) rfl rfl rfl (by decide +kernel) rfl (by decide +kernel) rfl rfl
  have gc : cOf mg "NoBlock" = He.ga K "NoBlock" := gc
  rw [← gc] at T N
  exact ex_of (sp := fun C => spEx1 C "index") er.g T.kC (MkE.one T N ((er.no "index" (by decide))) rfl fr.super)
theorem ex_LineError (X : K.In h) (G : h.Ns mainGlobals mg) (c : kn.obs K = kn.val) (fr : Free mg) : Ex P93 w K mg base 1 "LineError" ((fun C => spEx2 C "index" "line") (cOf mg "LineError")) := by
  obtain ⟨e1, e2⟩ := chk_errs X G (Kn.check c)
  obtain ⟨gc, er⟩ := e1 ("LineError", ["index", "line"]) (by decide +kernel)
  obtain ⟨t1, t2⟩ := e2 "LineError" (by decide +kernel)
  have T := errClsB_ok t1
  have N := initB_ok (P := P93) (ps := ["index", "line"]) T (Kn.init c 15 (st := s_LineError) (q := "LineError.__init__") rfl) t2 (by decide +kernel) rfl (fun _ _ _ _ _ _ _ us hl => match us, hl with | [_, _, _], _ => rfl) rfl rfl rfl (by decide +kernel) rfl (by decide +kernel) rfl rfl
  have gc : cOf mg "LineError" = He.ga K "LineError" := gc
  rw [← gc] at T N
  exact ex_of (sp := fun C => spEx2 C "index" "line") er.g T.kC (MkE.two T N (by decide) (er.no "index" (by decide)) (er.no "line" (by decide)) rfl fr.super)
theorem ex_NoFitting (X : K.In h) (G : h.Ns mainGlobals mg) (c : kn.obs K = kn.val) : Ex P93 w K mg base 1 "NoFitting" (spEx0 (cOf mg "NoFitting")) := by
  obtain ⟨e1, e2⟩ := chk_errs X G (Kn.check c)
  obtain ⟨gc, er⟩ := e1 ("NoFitting", []) (by decide +kernel)
  have gc : cOf mg "NoFitting" = He.ga K "NoFitting" := gc
  obtain ⟨a1, a2, a3, a4⟩ := He.exc_ok ((Kn.says c).fact 32 (f := .exc "NoFitting") rfl)
  rw [← gc] at a1 a2 a3 a4
  exact ex_of (sp := spEx0) er.g a2 (MkE.none a1 a3 a4)
theorem ex_NothingToUndo (X : K.In h) (G : h.Ns mainGlobals mg) (c : kn.obs K = kn.val) : Ex P93 w K mg base 1 "NothingToUndo" (spEx0 (cOf mg "NothingToUndo")) := by
  obtain ⟨e1, e2⟩ := chk_errs X G (Kn.check c)
  obtain ⟨gc, er⟩ := e1 ("NothingToUndo", []) (by decide +kernel)
  have gc : cOf mg "NothingToUndo" = He.ga K "NothingToUndo" := gc
  obtain ⟨a1, a2, a3, a4⟩ := He.exc_ok ((Kn.says c).fact 33 (f := .exc "NothingToUndo") rfl)
  rw [← gc] at a1 a2 a3 a4
  exact ex_of (sp := spEx0) er.g a2 (MkE.none a1 a3 a4)
theorem ex_NothingToRedo (X : K.In h) (G : h.Ns mainGlobals mg) (c : kn.obs K = kn.val) : Ex P93 w K mg base 1 "NothingToRedo" (spEx0 (cOf mg "NothingToRedo")) := by
  obtain ⟨e1, e2⟩ := chk_errs X G (Kn.check c)
  obtain ⟨gc, er⟩ := e1 ("NothingToRedo", []) (by decide +kernel)
  have gc : cOf mg "NothingToRedo" = He.ga K "NothingToRedo" := gc
  obtain ⟨a1, a2, a3, a4⟩ := He.exc_ok ((Kn.says c).fact 34 (f := .exc "NothingToRedo") rfl)
  rw [← gc] at a1 a2 a3 a4
  exact ex_of (sp := spEx0) er.g a2 (MkE.none a1 a3 a4)
theorem facts93 {f : Addr} (X : K.In h) (G : h.Ns mainGlobals mg) (hfa : mg ("law" : Str) = some (.ref f)) (c : kn.obs K = kn.val) :
    ∃ fd : FuncData, (∀ (s : Shared) (v : Value), BindsTo s fd ⟨[v], []⟩ [("_law_script", v)]) ∧ ∀ base : Heap, K.In base → base.Ns mainGlobals mg → FnOk P93 w K mg base CXf 5 f fd ["_law_script"] (spLaw K) := by
  have cs := Kn.says c
  obtain ⟨fd, F⟩ := cs.def_ 11 (d := d_law) rfl
  have e := hfa.symm.trans (He.glo_ok X G (cs.fact 11 (f := .glo "law") rfl))
  cases e
  have b := FunD.bindsA (ps := ["_law_script"]) F fun _ _ _ _ _ _ us hl => match us, hl with | [_], _ => rfl
  refine ⟨fd, fun s v => b s [v] rfl, fun base _ _ => ?_⟩
  have fr := free93 X G cs
  have er := errs93 X G (Kn.check c)
  have mx : Fx P93 w K mg base 1 "_law_mixed" (spP spMixed) := fx_mixed (k := 0) (defAt X G cs 1 1 rfl rfl) fr
  have tk : Fx P93 w K mg base 2 "_law_take" (spP spTake) := fx_take (defAt X G cs 2 2 rfl rfl) fr mx
  have bg : Fx P93 w K mg base 4 "_law_bag" (spP (spBag K)) := (fx_bag (k := 0) (defAt X G cs 0 0 rfl rfl) fr).mono (by decide)
  have nm : Fx P93 w K mg base 4 "_law_name" (spP spName) := (fx_name (defAt X G cs 3 3 rfl rfl) fr tk).mono (by decide)
  have pt : Fx P93 w K mg base 4 "_law_pitch" (spP spPitch) := (fx_pitch (defAt X G cs 4 4 rfl rfl) fr tk).mono (by decide)
  have el : Fx P93 w K mg base 2 "_law_early" (spP (spWay mg 0 10)) := fx_early (k := 1) (defAt X G cs 5 5 rfl rfl) fr ⟨ex_BadName X G c fr, ex_UnknownFork X G c fr, ex_RepeatedFork X G c fr, ex_BadCount X G c fr, ex_BadLimit X G c fr, ex_BadWord X G c fr, ex_BadText X G c fr, ex_BadStep X G c fr, ex_BadLot X G c fr, ex_TooDeep X G c fr⟩
  have lt : Fx P93 w K mg base 2 "_law_late" (spP (spWay mg 10 19)) := fx_late (k := 1) (defAt X G cs 6 6 rfl rfl) fr ⟨ex_TooMany X G c fr, ex_Clash X G c fr, ex_Apart X G c fr, ex_NoStrike X G c fr, ex_NoBlock X G c fr, ex_NoFitting X G c, ex_NothingToUndo X G c, ex_NothingToRedo X G c, ex_LineError X G c fr⟩
  have rs : Fx P93 w K mg base 3 "_law_raise" (spP (spWay mg 0 19)) := fx_raise (defAt X G cs 7 7 rfl rfl) fr el lt
  have ke : Fx P93 w K mg base 4 "_law_kept_early" (spP (spKept 0 10)) := (fx_kept_early (defAt X G cs 8 8 rfl rfl) fr er el).mono (by decide)
  have kl : Fx P93 w K mg base 4 "_law_kept_late" (spP (spKept 10 19)) := (fx_kept_late (defAt X G cs 9 9 rfl rfl) fr er lt).mono (by decide)
  have ks : Fx P93 w K mg base 4 "_law_kinds" (spP spKinds) := fx_kinds (defAt X G cs 10 10 rfl rfl) fr er rs
  exact quiet (fun _ _ _ _ _ h => h) (ok_law F fr bg nm pt ks ke kl)
end
end L2.Fk
open PySem PySem.W PySem.Calls PyProof.Rows
theorem PySem.Challenge.cw_forkbeats_k93_error_classes_holds : PySem.Challenge.rw_forkbeats_k93_error_classes.Holds := by
  w_on; o_law
  refine HandSHeadRun.head_any (r := L2.Fk.R) (q := view L2.Fk.R.prog [33]) (H := L2.Fk.hk) (ob := L2.Fk.ob) (M := 20000) (loose := L2.Fk.loose) (d := HandSHeadRun.topDef L2.Fk.R.prog 33) (kwd := []) L2.Fk.ob_eq
    (by kernel_rfl) (fun s => by kernel_rfl) L2.Fk.run (by kernel_rfl) (by kernel_rfl) (by kernel_rfl) (by rfl) (by first | assumption | decide +kernel) (by decide +kernel) ⟨rfl, rfl, rfl, rfl, rfl, by decide +kernel⟩ ?hw ?hc
  case hw => w_witness2
  case hc =>
    refine L2.walk_ofE (l := PySem.Challenge.rw_forkbeats_k93_error_classes) (n := 63) (k := 5) (x := "_law_script") (CX := L2.Fk.CXf) rfl (by decide) (by kernel_rfl) ⟨rfl, by decide, by decide⟩ ?F (fun _ _ _ _ z => z)
    intro w mg fa h Y G hmg0
    obtain ⟨K, KX, c⟩ := Y
    have hmg : mg ("law" : PySem.Str) = some (.ref fa) := by
      have e : (HandSHeadRun.topDef L2.Fk.R.prog 33).name = ("law" : PySem.Str) := by kernel_rfl
      rw [← e]
      exact hmg0
    obtain ⟨fd, hb, hF⟩ := L2.Fk.facts93 (w := w) KX G hmg c
    exact ⟨K, fd, L2.Fk.spLaw K, KX, hb, fun H a ns hl _ hS => ⟨a, ns, rfl, hS, fun _ => rfl⟩, hF⟩
