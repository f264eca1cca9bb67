import PyProof.Rows.All
import Wide.All
import OpenK.AllK
import Wide.FinOn
import KE.KStateDown
import KE.IntTextLaws
import HandS.ForMost
import HandS.ForExc
import HandS.Codes
import HandS.Conv
import HandS.Wide
import HandS.IsInst
import HandS.FStr
import HandS.TupAny
import HandS.ExcInit
import HandS.ExcInitHot
import HandS.ExcField
import HandS.SuiteRaise
import HandS.TryMany
import HandS.Flow
import HandS.Style
import HandS.Deep
import HandS.RaiseMore
import HandS.Defaults
import HandS.Head0
import HandS.Head1
import HandS.Head2
import HandS.HeadEnd
import HandS.HeadHook1
import HandS.HeadHook2
import HandS.HeadHook3
import HandS.EndBits
import PyProof.ReprReads
import PyProof.StrOps2
import HandS.RaiseFrom
import HandS.TryOnly
import PySem.Challenge.RW_fracwalk_k77_values_as_text
import HandS.HeadHook4
set_option Elab.async false
set_option linter.all false
set_option maxRecDepth 100000
set_option maxHeartbeats 4000000
namespace Fw
open PySem PySem.Spec PyProof.Rows L2

/-! ### introduction rules for the readings -/
section
variable {σ : L2.St} {H : Hp} {Q : VK} {QB : Bool → Hp → Prop} {QL : List V → Hp → Prop} {D : Ends}
theorem vVar {i : Nat} {v : V} (e : σ[i]? = some (some v)) (q : Q v H) : tVar i σ H Q := ⟨v, e, q⟩
theorem vC {v : V} (q : Q v H) : tC v σ H Q := q
theorem vOp {r : R2} {ta tb : TE} (q : ta σ H fun x H1 => tb σ H1 fun y H2 => r x y H2 Q) : tOp r ta tb σ H Q := q
theorem vUn {r : V → Hp → VK → Prop} {ta : TE} (q : ta σ H fun x H1 => r x H1 Q) : tUn r ta σ H Q := q
theorem vI0 {g : Int → Int → V} {i j : Int} (q : Q (g i j) H) : rI0 g (.int i) (.int j) H Q := ⟨i, j, rfl, rfl, q⟩
theorem vI {C : Int → Int → Prop} {g : Int → Int → V} {i j : Int} (c : C i j) (q : Q (g i j) H) : rI C g (.int i) (.int j) H Q := ⟨i, j, rfl, rfl, c, q⟩
theorem vU {g : Int → V} {i : Int} (q : Q (g i) H) : rU g (.int i) H Q := ⟨i, rfl, q⟩
theorem vEq {x y : V} (s : scal x y = true) (q : Q (.bl (decide (x = y))) H) : rEq x y H Q := ⟨s, q⟩
theorem vNe {x y : V} (s : scal x y = true) (q : Q (.bl (!decide (x = y))) H) : rNe x y H Q := ⟨s, q⟩
theorem vTest {t : TE} (q : t σ H fun x H1 => ∃ k, x = .bl k ∧ QB k H1) : tTest t σ H QB := q
theorem vB {t : TE} (q : t σ H fun x H1 => ∃ k, x = .bl k ∧ QB k H1) : tB t σ H QB := q
theorem vBl {k : Bool} {P : Bool → Prop} (q : P k) : ∃ c, V.bl k = .bl c ∧ P c := ⟨k, rfl, q⟩
theorem vAnd {t u : TT} (q : t σ H fun c H1 => if c = true then u σ H1 QB else QB false H1) : tAnd t u σ H QB := q
theorem vOr {t u : TT} (q : t σ H fun c H1 => if c = true then QB true H1 else u σ H1 QB) : tOr t u σ H QB := q
theorem vNot {t : TT} (q : t σ H fun c H1 => QB (!c) H1) : tNot t σ H QB := q
theorem vIf {t : TT} {ta tb : TE} (q : t σ H fun c H1 => if c = true then ta σ H1 Q else tb σ H1 Q) : tIf t ta tb σ H Q := q
theorem vNil (q : QL [] H) : tNil σ H QL := q
theorem vCons {ta : TE} {tr : TA} (q : ta σ H fun x H1 => tr σ H1 fun xs H2 => QL (x :: xs) H2) : tCons ta tr σ H QL := q
theorem vCB {r : List V → Hp → VK → Prop} {t : TA} (q : t σ H fun vs H1 => r vs H1 Q) : tCB r t σ H Q := q
theorem vCall {sp : Sp} {dvs : List V} {E : XK} {t : TA} (q : t σ H fun vs H1 => sp (vs ++ dvs) H1 Q E) : tCall sp dvs E t σ H Q := q
theorem vCallS {sp : Sp} {E : L2.St → XK} {t : TA} (q : t σ H fun vs H1 => sp vs H1 Q (E σ)) : tCallS sp E t σ H Q := q
theorem vTup {t : TA} (q : t σ H fun xs H1 => xs.length ≤ sizeLine ∧ ∀ p, H1 p = none → Q (.ref p) (upd H1 p (.tup xs))) : tTup t σ H Q := q
theorem vLst {t : TA} (q : t σ H fun xs H1 => xs.length ≤ sizeLine ∧ ∀ p, H1 p = none → Q (.ref p) (upd H1 p (.lst xs))) : tLst t σ H Q := q
variable {nx bk ct : L2.St → Hp → Prop} {rt : VK}
theorem vSeq {t u : TS} (q : t ⟨u ⟨nx, rt, bk, ct⟩, rt, bk, ct⟩ σ H) : tSeq t u ⟨nx, rt, bk, ct⟩ σ H := q
theorem vNext (q : nx σ H) : tNext ⟨nx, rt, bk, ct⟩ σ H := q
theorem vRet {te : TE} (q : te σ H rt) : tRet te ⟨nx, rt, bk, ct⟩ σ H := q
theorem vRetN (q : rt .non H) : tRetN ⟨nx, rt, bk, ct⟩ σ H := q
theorem vBreak (q : bk σ H) : tBreak ⟨nx, rt, bk, ct⟩ σ H := q
theorem vCont (q : ct σ H) : tCont ⟨nx, rt, bk, ct⟩ σ H := q
theorem vDrop {te : TE} (q : te σ H fun _ H1 => nx σ H1) : tDrop te ⟨nx, rt, bk, ct⟩ σ H := q
theorem vIfS {c : TT} {t u : TS} (q : c σ H fun b H1 => if b = true then t D σ H1 else u D σ H1) : tIfS c t u D σ H := q
theorem vAsg {te : TE} {g : TG} (q : te σ H fun x H1 => g x σ H1 nx) : tAsg te g ⟨nx, rt, bk, ct⟩ σ H := q
theorem vName {i : Nat} {v : V} {R : L2.St → Hp → Prop} (q : R (σ.set i (some v)) H) : gName i v σ H R := q
theorem vAug {i : Nat} {te : TE} {ti : TIp} {x : V} (e : σ[i]? = some (some x)) (q : te σ H fun y H1 => ti x y H1 fun z H2 => nx (σ.set i (some z)) H2) : tAug i te ti ⟨nx, rt, bk, ct⟩ σ H := ⟨x, e, q⟩
theorem vPar {i j : Nat} {ta : TA} (q : ta σ H fun vs H1 => ∃ v w, vs = [v, w] ∧ nx ((σ.set i (some v)).set j (some w)) H1) : tPar i j ta ⟨nx, rt, bk, ct⟩ σ H := q
theorem vPar2 {v w : V} {P : V → V → Prop} (q : P v w) : ∃ x y, [v, w] = [x, y] ∧ P x y := ⟨v, w, rfl, q⟩
theorem vSub {to ti : TE} {t : TSet} {v : V} {R : L2.St → Hp → Prop} (q : to σ H fun o H1 => ti σ H1 fun i H2 => t o i v H2 fun H3 => R σ H3) : gSub to ti t v σ H R := q
theorem vSl {r : V → Option Int → Option Int → Hp → VK → Prop} {te : TE} {tl th : TO} (q : te σ H fun x H1 => tl σ H1 fun l H2 => th σ H2 fun u H3 => r x l u H3 Q) : tSl r te tl th σ H Q := q
theorem vNoPart {R : Option Int → Hp → Prop} (q : R none H) : tNoPart σ H R := q
theorem vPart {t : TE} {R : Option Int → Hp → Prop} (q : t σ H fun x H1 => ∃ i, x = .int i ∧ R (some i) H1) : tPart t σ H R := q
theorem vInt {i : Int} {P : Int → Prop} (q : P i) : ∃ c, V.int i = .int c ∧ P c := ⟨i, rfl, q⟩
theorem vIxL {K : PySem.W.Frag} {p : Addr} {xs : List V} {i : Int} {v : V} (h : SqL K H p xs) (a : atI xs i = some v) (q : Q v H) : rIxL K (.ref p) (.int i) H Q := ⟨p, xs, i, v, rfl, rfl, h, a, q⟩
theorem vIxT {K : PySem.W.Frag} {p : Addr} {xs : List V} {i : Int} {v : V} (h : SqT K H p xs) (a : atI xs i = some v) (q : Q v H) : rIxT K (.ref p) (.int i) H Q := ⟨p, xs, i, v, rfl, rfl, h, a, q⟩
theorem vIxS {z : Str} {i : Int} {c : Nat} (l : z.length ≤ sizeLine) (a : atI z.cps.toList i = some c) (q : Q (.str ⟨#[c]⟩) H) : rIxS (.str z) (.int i) H Q := ⟨z, i, c, rfl, rfl, l, a, q⟩
theorem vTupG {K : PySem.W.Frag} {n : Nat} {t : TGs} {a : Addr} {xs : List V} {R : L2.St → Hp → Prop} (h : SqT K H a xs) (l : xs.length = n) (q : t xs σ H R) : gTup K n t (.ref a) σ H R := ⟨a, xs, rfl, h, l, q⟩
theorem vGNil {R : L2.St → Hp → Prop} (q : R σ H) : gNil [] σ H R := ⟨rfl, q⟩
theorem vGCons {t : TG} {u : TGs} {v : V} {r : List V} {R : L2.St → Hp → Prop} (q : t v σ H fun σ' H' => u r σ' H' R) : gCons t u (v :: r) σ H R := ⟨v, r, rfl, q⟩
theorem vSlS {z : Str} {lo hi : Option Int} (l : z.length ≤ sizeLine) (q : Q (.str (cutS z lo hi)) H) : rSlS (.str z) lo hi H Q := ⟨z, rfl, l, q⟩
theorem vAddS {i j : Str} (l : i.length + j.length ≤ sizeLine) (q : Q (.str (i ++ j)) H) : (∃ x y : Str, V.str i = .str x ∧ V.str j = .str y ∧ x.length + y.length ≤ sizeLine ∧ Q (.str (x ++ y)) H) := ⟨i, j, rfl, rfl, l, q⟩
end

/-! ### heaps that keep what stood -/
/-- all that stood stands, but what is at S -/
def Ch (S : List Addr) (H H' : Hp) : Prop := ∀ b o, H b = some o → b ∉ S → H' b = some o
theorem Ch.refl (S : List Addr) (H : Hp) : Ch S H H := fun _ _ e _ => e
theorem Ch.of {S : List Addr} {H H' : Hp} (c : Ch [] H H') : Ch S H H' := fun b o e _ => c b o e (by simp)
theorem Ch.trans {S : List Addr} {H H1 H2 : Hp} (a : Ch S H H1) (b : Ch S H1 H2) : Ch S H H2 := fun c o e h => b c o (a c o e h) h
theorem Ch.alloc {S : List Addr} {H : Hp} {p : Addr} (hp : H p = none) (o : HO) : Ch S H (upd H p o) := fun b u e _ => by rw [upd_ne (ne_of_none e hp)]; exact e
theorem Ch.set {S : List Addr} {H : Hp} {p : Addr} (hp : p ∈ S) (o : HO) : Ch S H (upd H p o) := fun b u e h => by rw [upd_ne (fun z : b = p => h (by rw [z]; exact hp))]; exact e
theorem Ch.same {H H' : Hp} (c : Ch [] H H') : Same H H' := fun b o e => c b o e (by simp)
theorem Ch.ofSame {S : List Addr} {H H' : Hp} (c : Same H H') : Ch S H H' := fun b o e _ => c b o e

/-! ### data that never changes -/
/-- a tuple: tracked, or the module's own -/
def TpA (K : PySem.W.Frag) (H : Hp) (a : Addr) (xs : List V) : Prop :=
  H a = some (.tup xs) ∨ ∃ (o : Obj) (its : Array Value) (n : Nat), K.lookup a = some o ∧ o.cls = .type "tuple" ∧ o.data = .seq its n ∧ its.size ≤ sizeLine ∧ Vals xs its.toList
theorem TpA.sq {K : PySem.W.Frag} {H : Hp} {a : Addr} {xs : List V} (h : TpA K H a xs) : SqT K H a xs := h.elim (fun z => .inl (.inl z)) .inr
mutual
inductive Im (K : PySem.W.Frag) (H : Hp) : V → PyData → Prop
  | non : Im K H .non .none
  | bl (b : Bool) : Im K H (.bl b) (.bool b)
  | int (i : Int) : Im K H (.int i) (.int i)
  | str (x : Str) : Im K H (.str x) (.str x)
  | tup {a : Addr} {xs : List V} {ds : List PyData} : TpA K H a xs → ImAll K H xs ds → Im K H (.ref a) (.tuple ds)
inductive ImAll (K : PySem.W.Frag) (H : Hp) : List V → List PyData → Prop
  | nil : ImAll K H [] []
  | cons {v : V} {vs : List V} {d : PyData} {ds : List PyData} : Im K H v d → ImAll K H vs ds → ImAll K H (v :: vs) (d :: ds)
end
/-- all tuples stand -/
def Tl (H H' : Hp) : Prop := ∀ a xs, H a = some (.tup xs) → H' a = some (.tup xs)
theorem Tl.refl (H : Hp) : Tl H H := fun _ _ h => h
theorem Tl.trans {H H1 H2 : Hp} (a : Tl H H1) (b : Tl H1 H2) : Tl H H2 := fun c xs e => b c xs (a c xs e)
theorem Tl.alloc {H : Hp} {p : Addr} (hp : H p = none) (o : HO) : Tl H (upd H p o) := fun b xs e => by rw [upd_ne (ne_of_none e hp)]; exact e
theorem Tl.set {H : Hp} {p : Addr} {u : HO} (hp : H p = some u) (m : ∀ xs, u ≠ .tup xs) (o : HO) : Tl H (upd H p o) := fun b xs e => by
  rw [upd_ne (fun z => by rw [z, hp] at e; exact m xs (Option.some.inj e))]; exact e
theorem Tl.ch {S : List Addr} {H H' : Hp} (c : Ch S H H') (m : ∀ p ∈ S, ∃ u, H p = some u ∧ ∀ xs, u ≠ .tup xs) : Tl H H' := fun b xs e => c b _ e fun hb => by
  obtain ⟨u, hu, n⟩ := m b hb
  rw [e] at hu
  exact n xs (Option.some.inj hu).symm
theorem Tl.ch0 {H H' : Hp} (c : Ch [] H H') : Tl H H' := fun b xs e => c b _ e (by simp)
theorem TpA.mono {K : PySem.W.Frag} {H H' : Hp} {a : Addr} {xs : List V} (t : Tl H H') (h : TpA K H a xs) : TpA K H' a xs := h.elim (fun z => .inl (t a xs z)) .inr
mutual
theorem Im.mono {K : PySem.W.Frag} {H H' : Hp} (t : Tl H H') : ∀ {v : V} {d : PyData}, Im K H v d → Im K H' v d
  | _, _, .non => .non
  | _, _, .bl b => .bl b
  | _, _, .int i => .int i
  | _, _, .str x => .str x
  | _, _, .tup h r => .tup (h.mono t) (ImAll.mono t r)
theorem ImAll.mono {K : PySem.W.Frag} {H H' : Hp} (t : Tl H H') : ∀ {vs : List V} {ds : List PyData}, ImAll K H vs ds → ImAll K H' vs ds
  | _, _, .nil => .nil
  | _, _, .cons h r => .cons (Im.mono t h) (ImAll.mono t r)
end
mutual
theorem Im.dp {K : PySem.W.Frag} {H : Hp} : ∀ {v : V} {d : PyData}, Im K H v d → Dp K H v d
  | _, _, .non => .non
  | _, _, .bl b => .bl b
  | _, _, .int i => .int i
  | _, _, .str x => .str x
  | _, _, .tup h r => .tup h.sq (ImAll.dp r)
theorem ImAll.dp {K : PySem.W.Frag} {H : Hp} : ∀ {vs : List V} {ds : List PyData}, ImAll K H vs ds → DpAll K H vs ds
  | _, _, .nil => .nil
  | _, _, .cons h r => .cons (Im.dp h) (ImAll.dp r)
end

/-! ### a ledger: what is one's own -/
structure Led (K : PySem.W.Frag) (S : List Addr) (H0 H : Hp) (L : List (Addr × HO)) (D : List (V × PyData)) : Prop where
  ch : Ch S H0 H
  own : ∀ q ∈ L, H q.1 = some q.2
  new : ∀ q ∈ L, H0 q.1 = none ∨ q.1 ∈ S
  cov : ∀ s ∈ S, s ∈ L.map (·.1)
  nd : (L.map (·.1)).Nodup
  nt : ∀ q ∈ L, ∀ xs, q.2 ≠ .tup xs
  im : ∀ q ∈ D, Im K H q.1 q.2
  tl : Tl H0 H
section
variable {K : PySem.W.Frag} {S : List Addr} {H0 H H' : Hp} {L : List (Addr × HO)} {D : List (V × PyData)} {p : Addr} {o o' : HO}
theorem Led.start (H : Hp) : Led K [] H H [] [] := ⟨Ch.refl _ _, by simp, by simp, by simp, by simp, by simp, by simp, Tl.refl _⟩
theorem Led.start1 (h : H p = some o) (m : ∀ xs, o ≠ .tup xs) : Led K [p] H H [(p, o)] [] :=
  ⟨Ch.refl _ _, by simp [h], by simp, by simp, by simp, by simpa using m, by simp, Tl.refl _⟩
theorem Led.fresh (l : Led K S H0 H L D) (hp : H p = none) : H0 p = none := by
  cases e : H0 p with
  | none => rfl
  | some u =>
    by_cases hs : p ∈ S
    · obtain ⟨q, hq, e2⟩ := List.mem_map.mp (l.cov p hs)
      have := l.own q hq
      rw [e2, hp] at this
      cases this
    · have := l.ch p u e hs
      rw [hp] at this
      cases this
theorem Led.notin (l : Led K S H0 H L D) (hp : H p = none) : p ∉ L.map (·.1) := fun hm => by
  obtain ⟨q, hq, e⟩ := List.mem_map.mp hm
  have := l.own q hq
  rw [e, hp] at this
  cases this
theorem Led.alloc (l : Led K S H0 H L D) (hp : H p = none) (m : ∀ xs, o ≠ .tup xs) : Led K S H0 (upd H p o) (L ++ [(p, o)]) D := by
  have hn := l.notin hp
  refine ⟨l.ch.trans (Ch.alloc hp o), fun q hq => ?_, fun q hq => ?_, fun s hs => ?_, ?_, fun q hq => ?_, fun q hq => (l.im q hq).mono (Tl.alloc hp o), l.tl.trans (Tl.alloc hp o)⟩
  · rcases List.mem_append.mp hq with h | h
    · rw [upd_ne (ne_of_none (l.own q h) hp)]; exact l.own q h
    · rw [List.mem_singleton.mp h]; exact upd_same
  · rcases List.mem_append.mp hq with h | h
    · exact l.new q h
    · rw [List.mem_singleton.mp h]; exact .inl (l.fresh hp)
  · rw [List.map_append]; exact List.mem_append_left _ (l.cov s hs)
  · rw [List.map_append]
    refine List.nodup_append.mpr ⟨l.nd, by simp, fun a ha b hb e => ?_⟩
    have hb' : b = p := by simpa using hb
    subst e hb'
    exact hn ha
  · rcases List.mem_append.mp hq with h | h
    · exact l.nt q h
    · rw [List.mem_singleton.mp h]; exact m
theorem Led.tup {xs : List V} {ds : List PyData} (l : Led K S H0 H L D) (hp : H p = none) (r : ImAll K H xs ds) : Led K S H0 (upd H p (.tup xs)) L (D ++ [(.ref p, .tuple ds)]) := by
  have t : Tl H (upd H p (.tup xs)) := Tl.alloc hp _
  refine ⟨l.ch.trans (Ch.alloc hp _), fun q hq => ?_, l.new, l.cov, l.nd, l.nt, fun q hq => ?_, l.tl.trans t⟩
  · rw [upd_ne (ne_of_none (l.own q hq) hp)]; exact l.own q hq
  · rcases List.mem_append.mp hq with h | h
    · exact (l.im q h).mono t
    · rw [List.mem_singleton.mp h]; exact .tup (.inl upd_same) (r.mono t)
theorem Led.get (l : Led K S H0 H L D) (i : Nat) (h : L[i]? = some (p, o) := by rfl) : H p = some o := l.own _ (List.mem_of_getElem? h)
theorem Led.dat (l : Led K S H0 H L D) {v : V} {d : PyData} (i : Nat) (h : D[i]? = some (v, d) := by rfl) : Im K H v d := l.im _ (List.mem_of_getElem? h)
theorem Led.add (l : Led K S H0 H L D) {v : V} {d : PyData} (h : Im K H v d) : Led K S H0 H L (D ++ [(v, d)]) :=
  ⟨l.ch, l.own, l.new, l.cov, l.nd, l.nt, fun q hq => (List.mem_append.mp hq).elim (l.im q) fun z => by rw [List.mem_singleton.mp z]; exact h, l.tl⟩
theorem Led.same (l : Led K S H0 H L D) (c : Ch [] H H') : Led K S H0 H' L D :=
  ⟨l.ch.trans (Ch.of c), fun q hq => c _ _ (l.own q hq) (by simp), l.new, l.cov, l.nd, l.nt, fun q hq => (l.im q hq).mono (Tl.ch0 c), l.tl.trans (Tl.ch0 c)⟩
theorem nodup_set : ∀ {l : List (Addr × HO)} {i : Nat} {p : Addr} {o o' : HO}, l[i]? = some (p, o) → (l.set i (p, o')).map (·.1) = l.map (·.1)
  | [], _, _, _, _, h => by simp at h
  | a :: r, 0, p, o, o', h => by
    have e : a = (p, o) := by simpa using h
    subst e
    rfl
  | a :: r, i + 1, p, o, o', h => by
    show a.1 :: (r.set i (p, o')).map (·.1) = a.1 :: r.map (·.1)
    rw [nodup_set (by simpa using h)]
theorem mem_set_ne : ∀ {l : List (Addr × HO)} {i : Nat} {p : Addr} {o o' : HO} {q : Addr × HO}, (l.map (·.1)).Nodup → l[i]? = some (p, o) → q ∈ l.set i (p, o') → (q = (p, o')) ∨ (q ∈ l ∧ q.1 ≠ p)
  | [], _, _, _, _, _, _, h, _ => by simp at h
  | a :: r, 0, p, o, o', q, nd, h, hq => by
    have e : a = (p, o) := by simpa using h
    subst e
    rcases List.mem_cons.mp hq with z | z
    · exact .inl z
    · refine .inr ⟨List.mem_cons_of_mem _ z, fun e => ?_⟩
      have nd' := (List.nodup_cons.mp nd).1
      exact nd' (List.mem_map.mpr ⟨q, z, e⟩)
  | a :: r, i + 1, p, o, o', q, nd, h, hq => by
    rcases List.mem_cons.mp hq with z | z
    · refine .inr ⟨List.mem_cons.mpr (.inl z), fun e => ?_⟩
      have nd' := (List.nodup_cons.mp nd).1
      refine nd' (List.mem_map.mpr ⟨(p, o), List.mem_of_getElem? (by simpa using h), ?_⟩)
      rw [z] at e
      exact e.symm
    · rcases mem_set_ne (List.nodup_cons.mp nd).2 (by simpa using h) z with y | y
      · exact .inl y
      · exact .inr ⟨List.mem_cons_of_mem _ y.1, y.2⟩
/-- what stands at p is another thing now; all else stands -/
theorem Led.call1 (l : Led K S H0 H L D) (i : Nat) (c : Ch [p] H H') (hp : H' p = some o') (m : ∀ xs, o' ≠ .tup xs) (h : L[i]? = some (p, o) := by rfl) : Led K S H0 H' (L.set i (p, o')) D := by
  have hm : (p, o) ∈ L := List.mem_of_getElem? h
  have ho := l.own _ hm
  have t : Tl H H' := Tl.ch c fun b hb => by
    rw [List.mem_singleton.mp hb]
    exact ⟨o, ho, l.nt _ hm⟩
  refine ⟨fun b u e hb => ?_, fun q hq => ?_, fun q hq => ?_, fun s hs => ?_, ?_, fun q hq => ?_, fun q hq => (l.im q hq).mono t, l.tl.trans t⟩
  · by_cases hbp : b = p
    · rcases l.new _ hm with z | z
      · rw [hbp, show H0 p = none from z] at e; cases e
      · exact absurd (hbp ▸ z) hb
    · exact c b u (l.ch b u e hb) (by simpa using hbp)
  · rcases mem_set_ne l.nd h hq with z | z
    · rw [z]; exact hp
    · exact c _ _ (l.own q z.1) (by simpa using z.2)
  · rcases mem_set_ne l.nd h hq with z | z
    · rw [z]; exact (l.new (p, o) hm : _)
    · exact l.new q z.1
  · rw [nodup_set h]; exact l.cov s hs
  · rw [nodup_set h]; exact l.nd
  · rcases mem_set_ne l.nd h hq with z | z
    · rw [z]; exact m
    · exact l.nt q z.1
theorem Led.set (l : Led K S H0 H L D) (i : Nat) (m : ∀ xs, o' ≠ .tup xs) (h : L[i]? = some (p, o) := by rfl) : Led K S H0 (upd H p o') (L.set i (p, o')) D :=
  l.call1 i (Ch.set (by simp) o') upd_same m h
end
theorem lst_nt {ys xs : List V} : HO.lst ys ≠ .tup xs := fun z => by cases z
theorem dK_nt {ys : List (Key × V)} {xs : List V} : HO.dK ys ≠ .tup xs := fun z => by cases z
theorem ins_nt {C dx : Addr} {ys : List (Str × V)} {xs : List V} : HO.ins C dx ys ≠ .tup xs := fun z => by cases z

/-! ### a def as one calls it -/
structure Cl (P : Program) (w : World) (K : PySem.W.Frag) (mg : Str → Option Value) (base : Heap) (CX : CXT) (k : Nat) (x : Str) (sp : Sp) (dvs : List V) : Prop where
  ex : ∃ (f : Addr) (fd : FuncData) (ps : List Str) (ds : List Value), FnOk P w K mg base CX k f fd ps sp ∧ mg x = some (.ref f) ∧ PySem.W.keepIn K (.ref f) = true ∧ Binds K fd ps ds ∧ Vals dvs ds
section
variable {X : Cx} {CX : CXT} {k : Nat} {x : Str} {sp : Sp} {dvs : List V} {E : XK} {ES : L2.St → XK} {p pos : Pos} {e : Expr} {es : List Expr} {t : TA}
theorem pcl (c : Cl X.prog X.w X.K X.mg X.base CX k x sp dvs) (hr : Room k X.A) (hx : Passes CX X E) (ha : PA X (e :: es) t) (hg : Gl X x := by rfl) (hdb : (x == ("__debug__" : Str)) = false := by decide)
    (he : starEach (e :: es) X.env = (false, eval e X.env) :: starEach es X.env := by rfl) (hpl : (backTo pos (starEach es X.env)).any (·.1) = false := by rfl) : PE X (.Call (.Name x p) (e :: es) [] pos) (tCall sp dvs E t) := by
  obtain ⟨f, fd, ps, ds, F, hm, hk, hb, hd⟩ := c.ex
  exact pe_call F hr hg hm hk hb hd hx ha hdb he hpl
theorem pcl0 (c : Cl X.prog X.w X.K X.mg X.base CX k x sp dvs) (hr : Room k X.A) (hx : Passes CX X E) (hg : Gl X x := by rfl) (hdb : (x == ("__debug__" : Str)) = false := by decide) : PE X (.Call (.Name x p) [] [] pos) (tCall sp dvs E tNil) := by
  obtain ⟨f, fd, ps, ds, F, hm, hk, hb, hd⟩ := c.ex
  exact pe_call0 F hr hg hm hk hb hd hx hdb
theorem pclS (c : Cl X.prog X.w X.K X.mg X.base CX k x sp []) (hr : Room k X.A) (hx : ∀ σ, PassesAt CX X σ (ES σ)) (ha : PA X (e :: es) t) (hg : Gl X x := by rfl) (hdb : (x == ("__debug__" : Str)) = false := by decide)
    (he : starEach (e :: es) X.env = (false, eval e X.env) :: starEach es X.env := by rfl) (hpl : (backTo pos (starEach es X.env)).any (·.1) = false := by rfl) : PE X (.Call (.Name x p) (e :: es) [] pos) (tCallS sp ES t) := by
  obtain ⟨f, fd, ps, ds, F, hm, hk, hb, hd⟩ := c.ex
  cases hd
  exact pe_callS F hr hg hm hk hb hx ha hdb he hpl
end
abbrev FnP (K : PySem.W.Frag) (x : Str) (st : Stmt) (f : Addr) (fd : FuncData) : Prop := FunD K x x (defArgs st) (defBody st) (defScope st) [] [] f fd
theorem iteB {b : Bool} {A B : Prop} (h1 : b = true → A) (h2 : b = false → B) : if b = true then A else B := by
  cases b with
  | true => exact h1 rfl
  | false => exact h2 rfl
theorem ifT {c : Bool} {A B : Prop} (e : c = true) (h : A) : if c = true then A else B := by rw [e]; exact h
theorem ifF {c : Bool} {A B : Prop} (e : c = false) (h : B) : if c = true then A else B := by rw [e]; exact iteF h
theorem atI_0 {α : Type} {a : α} {r : List α} : atI (a :: r) 0 = some a := atI_nat (j := 0) rfl
theorem atI_1 {α : Type} {a b : α} {r : List α} : atI (a :: b :: r) 1 = some b := atI_nat (j := 1) rfl
theorem atI_2 {α : Type} {a b c : α} {r : List α} : atI (a :: b :: c :: r) 2 = some c := atI_nat (j := 2) rfl
theorem atI_3 {α : Type} {a b c d : α} {r : List α} : atI (a :: b :: c :: d :: r) 3 = some d := atI_nat (j := 3) rfl
theorem szl {n : Nat} (h : n ≤ 1000000) : n ≤ sizeLine := Nat.le_trans h (by decide)
section
variable {σ : L2.St} {H : Hp} {D : Ends}
theorem vWhile {c : TT} {tb : TS} (W : Nat → L2.St → Hp → Prop) (m : Nat) (h0 : W m σ H)
    (hs : ∀ m σ H, W m σ H → c σ H fun b H1 => if b = true then ∃ N : L2.St → Hp → Prop, (∀ σ' H', N σ' H' → ∃ m', m' < m ∧ W m' σ' H') ∧ tb { D with nx := N, ct := N, bk := D.nx } σ H1 else D.nx σ H1) : tWhile c tb D σ H := ⟨W, ⟨m, h0⟩, hs⟩
theorem vTurn {tb : TS} {W : Nat → L2.St → Hp → Prop} {m : Nat} {nx : L2.St → Hp → Prop} {rt : VK} (q : tb ⟨fun σ' H' => ∃ m', m' < m ∧ W m' σ' H', rt, nx, fun σ' H' => ∃ m', m' < m ∧ W m' σ' H'⟩ σ H) :
    ∃ N : L2.St → Hp → Prop, (∀ σ' H', N σ' H' → ∃ m', m' < m ∧ W m' σ' H') ∧ tb ⟨N, rt, nx, N⟩ σ H := ⟨_, fun _ _ h => h, q⟩
end
end Fw
namespace Fw
open PySem PySem.Spec PyProof.Rows L2
/-! ### a def that is called where no repr is under way -/
structure FnG (P : Program) (w : World) (K : PySem.W.Frag) (mg : Str → Option Value) (base : Heap) (CX : CXT) (k : Nat) (f : Addr) (fd : FuncData) (ps : List Str) (sp : Sp) : Prop where
  len : ∀ vs H Q E, sp vs H Q E → vs.length = ps.length
  run : ∀ (A : Around) (outer : List Env) (s : Shared) (H : Hp) (args : Args) (us : List Value) (vs : List V) (Q : VK) (E : XK), Room k A → A.guards = some [] → Env0 P w K mg base A outer s H → BindsTo s fd args (ps.zip us) → Vals vs us → sp vs H Q E →
    codeAny (model P w) A (.call (.ref f) args) (CR CX outer P w H s Q E) s
section
variable {P : Program} {w : World} {K : PySem.W.Frag} {mg : Str → Option Value} {base : Heap} {CX : CXT} {k : Nat} {f : Addr} {fd : FuncData} {x qual : Str} {params : Arguments} {body : List Stmt} {scope : Scope} {N ps : List Str} {sp : Sp}
theorem okG (F : FunD K x qual params body scope [] [] f fd) (S : FnScope N ps scope) (len : ∀ vs H Q E, sp vs H Q E → vs.length = ps.length)
    (hb : ∀ (cdv : Value) (A : Around) (outer : List Env) (s : Shared) (H : Hp) (vs : List V) (Q : VK) (E : XK), Room k (A.deeper (envOfC qual scope s.heap.objs.size f cdv)) → A.guards = some [] → sp vs H Q E →
      ∃ t, PSs (cxOf CX P w K mg base N qual scope f cdv A outer s H E) body t ∧ t { nx := fun _ H' => Q .non H', rt := Q } (L2.start N vs) H) : FnG P w K mg base CX (k + 1) f fd ps sp := by
  refine ⟨len, ?_⟩
  intro A outer s H args us vs Q E hr hg e0 hbt rv hsp
  obtain ⟨oc, od, dV, kV, doc, pm, an, cdv, ct, osl, rfl, lk, hcd, _, _⟩ := F.ex
  have hl := len _ _ _ _ hsp
  have old : ∀ b o, base.get? b = some o → s.heap.get? b = some o := fun b o e => (e0.bs b o e).1
  have KX : K.In s.heap := e0.mod.kin.keeps old
  have lim : s.heap.NoLimit := e0.mod.nolimit.keeps old
  refine codeAny_call_function hr.depth (KX _ _ lk) rfl S.co S.gen rfl (PySem.W.codeRec_of KX hcd) (hbt _ _ _ _ ?_)
  refine wpAny_newFunctionEnv_cells S.kind (fun p hp => ?_) fun env he s1 hx => ?_
  · cases p with
    | mk n v =>
      have hn : n ∈ ps := (List.of_mem_zip hp).1
      cases S.par n hn with
      | inl q => exact .inl q
      | inr q => exact .inr ⟨q, PySem.W.cellsFrom_some _ _ _ (.inl q)⟩
  cases he
  refine ⟨lim.keeps hx.toInCall.keep, codeAny_func ?_⟩
  obtain ⟨t, ht, hq⟩ := hb cdv A outer s H vs Q E (hr.deeper _) hg hsp
  refine wpAny_mono (ht.run [] s1 (L2.start N vs) H _ (inv_start S hr.hd e0 hl rv hx) hq) (fun fl s' hs => ?_) fun _ _ z => z
  cases fl with
  | ret u => obtain ⟨v, σ', H', J, rv', q⟩ := hs; exact ⟨v, H', J.os, J.bare, J.base, J.hok, rv', q⟩
  | next => obtain ⟨σ', H', J, q⟩ := hs; exact ⟨V.non, H', J.os, J.bare, J.base, J.hok, rfl, q⟩
  | brk => obtain ⟨_, _, _, q⟩ := hs; exact q.elim
  | cont => obtain ⟨_, _, _, q⟩ := hs; exact q.elim
end
/-! ### the law's call, from such a def -/
theorem callG {P : Program} {w : World} {K : PySem.W.Frag} {mg mb : Str → Option Value} {k : Nat} {fa a : Addr} {fd : FuncData} {x : Str} {sp : Sp} {s : Shared} {us : List Value} {ns : List Int} (KX : K.In s.heap) (hm : s.heap.Ns mainGlobals mg) (hb : s.heap.Ns builtinsNs mb)
    (hbb : ∀ x : Str, x ≠ "__name__" → mb x = bootBuiltins x) (lim : s.heap.NoLimit) (hg : s.gens = #[]) (ha : s.heap.get? a = some { cls := .type "list", data := .seq us.toArray }) (hi : IntsAre us ns) (hl : ns.length ≤ sizeLine) (hr : Room k callerA)
    (F : ∀ base : Heap, K.In base → base.Ns mainGlobals mg → FnG P w K mg base CX0 k fa fd [x] sp) (hbd : ∀ (s : Shared) (u : Value), BindsTo s fd ⟨[u], []⟩ [(x, u)])
    (hsp : ∀ H : Hp, Only H → SqL K H a (ns.map V.int) → sp [.ref a] H (fun v _ => v = .bl true) fun _ _ _ => False) :
    codeAny (model P w) callerA (.call (.ref fa) ⟨[.ref a], []⟩) (fun r s' => r = .ok (.ret (.bool true)) ∧ OldK s.heap s'.heap ∧ s'.os = s.os ∧ AllBare s'.gens) s := by
  -- what is tracked: the script, unless it is an object of the written part
  obtain ⟨H, hO, hS, hK, hH, hA⟩ : ∃ H : Hp, Only H ∧ SqL K H a (ns.map V.int) ∧ (H a ≠ none → K.lookup a = none) ∧ HOk P w H s.heap ∧ ∀ b, b ≠ a → H b = none := by
    cases e : K.lookup a with
    | some o =>
      have e2 := KX a o e
      rw [ha] at e2
      cases e2
      refine ⟨fun _ => none, fun _ => .inl rfl, .inr ⟨_, us.toArray, _, e, rfl, rfl, rfl, ?_, ?_⟩, fun z => (z rfl).elim, fun b u z => (nomatch (show (none : Option HO) = some u from z)), fun _ _ => rfl⟩
      · rw [List.size_toArray, hi.length]; exact hl
      · simpa using vals_ints hi
    | none =>
      refine ⟨upd (fun _ => none) a (.frz { cls := .type "list", data := .seq us.toArray } (.lst (ns.map V.int))), fun b => ?_, .inl (.inr ⟨_, upd_same⟩), fun _ => rfl, fun b u z => ?_, fun b hb => upd_ne hb⟩
      · by_cases hba : b = a
        · exact .inr ⟨_, _, by rw [hba]; exact upd_same⟩
        · exact .inl (upd_ne hba)
      · by_cases hba : b = a
        · rw [hba, upd_same] at z
          cases z
          rw [hba]
          exact ⟨ha, by rw [List.length_map]; exact hl, us, _, vals_ints hi, ha⟩
        · rw [upd_ne hba] at z
          cases z
  have gt : ∀ {b : Addr} {o : Obj}, s.heap.get? b = some o → b ≠ a → (hidT s.heap H).get? b = some o := fun e n => hidT_get e (hA _ n)
  have nsT : ∀ {b : Addr} {m : Str → Option Value}, s.heap.Ns b m → (hidT s.heap H).Ns b m := by
    rintro b m ⟨o, es, ep, e, d, r⟩
    refine ⟨o, es, ep, gt e fun z => ?_, d, r⟩
    rw [z, ha] at e
    cases e
    cases d
  have hKb : K.In (hidT s.heap H) := fun b o e => by
    by_cases hba : b = a
    · subst hba
      refine hidT_get (KX b o e) (Classical.byContradiction fun z => ?_)
      rw [hK z] at e
      cases e
    · exact gt (KX b o e) hba
  have hlm : (hidT s.heap H).NoLimit := by
    obtain ⟨mc, h1, h2⟩ := lim
    exact ⟨mc, nsT h1, h2⟩
  have e0 : Env0 P w K mg (hidT s.heap H) callerA [] s H := by
    refine ⟨rfl, ⟨hKb, nsT hm, ⟨mb, nsT hb, hbb⟩, hlm⟩, fun b o e => of_hidT e, ?_, trivial, fun b z => ?_, hH, .of_eq hg⟩
    · rw [hidT_size]; exact Nat.le_refl _
    · cases z
  refine codeAny_mono ((F _ hKb (nsT hm)).run callerA [] s H ⟨[.ref a], []⟩ [.ref a] [.ref a] _ _ hr rfl e0 (hbd s (.ref a)) (.cons rfl .nil) (hsp H hO hS)) ?_
  intro r s' h
  match r, h with
  | .error e, h => exact h.elim
  | .ok .next, h => exact h.elim
  | .ok .brk, h => exact h.elim
  | .ok .cont, h => exact h.elim
  | .ok (.ret u), h =>
    obtain ⟨v, H', os, bare, un, hok', rv, q⟩ := h
    cases (show v = .bl true from q)
    cases (show u = Value.bool true from rv)
    refine ⟨rfl, OldK.of_keep fun b o e => ?_, os, bare⟩
    rcases hO b with z | ⟨ob, xs, z⟩
    · exact un.keep b o e z (fun y => nomatch y) (by simp)
    · have e1 := (hH b _ z).1
      have e2 := (hok' b _ (un.frzs b ob _ z)).1
      rw [e] at e1
      cases e1
      exact e2
/-- the end of an open law: a def that is called where no repr is under way -/
theorem walkG {l : PySem.W.OpenLaw} {n k : Nat} {q : Program} {loose : List Str} {XP : (Str → Option Value) → Heap → Prop} {YP : World → Heap → Prop} {d : DefRec} {x : Str}
    (hn : l.most = some n) (hn2 : n ≤ sizeLine) (hdf : d.params.defaults = []) (hr : Room k callerA)
    (F : ∀ (w : World) (mg : Str → Option Value) (fa : Addr) (h : Heap), YP w h → h.Ns mainGlobals mg → mg d.name = some (.ref fa) →
      ∃ (K : PySem.W.Frag) (fd : FuncData) (sp : Sp), K.In h ∧ (∀ (s : Shared) (u : Value), BindsTo s fd ⟨[u], []⟩ [(x, u)]) ∧
        (∀ (H : Hp) (a : Addr) (ns : List Int), ns.length ≤ n → (∀ z ∈ ns, Builtin.Int.intBits z ≤ 1048576) → Only H → SqL K H a (ns.map V.int) → sp [.ref a] H (fun v _ => v = .bl true) fun _ _ _ => False) ∧
        ∀ base : Heap, K.In base → base.Ns mainGlobals mg → FnG l.prog w K mg base CX0 k fa fd [x] sp) :
    PySem.W.WalkO q loose XP YP l.row.toRowW d [] (fun f vs => PySem.call f vs) := by
  refine Att.attach_callB hn hdf ?_
  intro w s₀ s₁ mg mb fa o pm cd doc a vs ns G Y _ _ _ hmg hobj hints hlen hbits hg
  obtain ⟨K, fd, sp, KX, hb, hsp, hF⟩ := F w mg fa _ Y G.T.g hmg
  exact callG KX G.T.g G.T.b G.T.builtins G.T.nolimit hg hobj hints (Nat.le_trans hlen hn2) hr hF hb (fun H hO hS => hsp H a ns hlen hbits hO hS)
/-! ### repr of data -/
def rRepr (K : PySem.W.Frag) : List V → Hp → VK → Prop := fun xs H Q => ∃ x d, xs = [x] ∧ Dp K H x d ∧ d.showable = true ∧ d.hasDict = false ∧ d.depth ≤ 100 ∧ d.shown.length ≤ sizeLine ∧ Q (.str d.shown) H
section
variable {X : Cx} {k : Nat}
theorem call_repr (hr : Room k X.A) (hg : X.A.guards = some []) : CallR X (.builtin "repr") (rRepr X.K) := by
  intro pins s σ H xs us Q I r h
  obtain ⟨x, d, rfl, dp, sh, nd, dd, sz, q⟩ := h
  obtain ⟨u, rfl, ru⟩ := vals1 r
  obtain ⟨as, rd⟩ := Dp.reads I d x u dp ru
  have far : ∀ a, u = .ref a → wpAny (model X.prog X.w) X.A (call (.builtin "repr") [u]) (EP X pins σ Q) X.xe s := by
    rintro a rfl
    refine repr_of_reads' rd sh (PyData.noDict_hsm nd) hg (by have := hr.un; omega) (fun _ _ e => e) (fun h' t tk kk => ?_) sz
    exact ⟨.str d.shown, H, I.kept (t' := tk) kk, ⟨t, rfl⟩, q⟩
  cases dp with
  | non => cases (show u = Value.none from ru); exact PySem.P.repr_of_none ⟨.str "None", H, I.tok _, ⟨_, rfl⟩, q⟩
  | bl b =>
    cases (show u = Value.bool b from ru)
    refine PySem.P.repr_of_bool ⟨.str (if b then "True" else "False"), H, I.tok _, ⟨_, rfl⟩, ?_⟩
    cases b <;> exact q
  | int i =>
    obtain ⟨t, rfl⟩ := (show ∃ t, u = Value.int i t from ru)
    exact PySem.P.repr_of_int (by unfold PyData.showable at sh; exact of_decide_eq_true sh) ⟨.str (toString i), H, I.tok _, ⟨_, rfl⟩, q⟩
  | str z =>
    obtain ⟨t, rfl⟩ := (show ∃ t, u = Value.str z t from ru)
    exact PySem.P.repr_of_str ⟨.str (reprText z), H, I.tok _, ⟨_, rfl⟩, q⟩ sz
  | lst _ _ => exact far _ ru
  | tup _ _ => exact far _ ru
/-! ### a text, so many times -/
theorem rep_list (x : Array Nat) : ∀ (n : Nat) (acc : Array Nat), ((List.replicate n x).foldl (· ++ ·) acc).toList = acc.toList ++ (List.replicate n x.toList).flatten
  | 0, acc => by simp
  | n + 1, acc => by
    rw [List.replicate_succ, List.foldl_cons, rep_list x n (acc ++ x), List.replicate_succ, List.flatten_cons, Array.toList_append, List.append_assoc]
theorem rep_len (x : List Nat) : ∀ n : Nat, (List.replicate n x).flatten.length = x.length * n
  | 0 => by simp
  | n + 1 => by rw [List.replicate_succ, List.flatten_cons, List.length_append, rep_len x n, Nat.mul_succ, Nat.add_comm]
/-- z, n times -/
def rep (z : Str) (n : Nat) : Str := ⟨(List.replicate n z.cps.toList).flatten.toArray⟩
theorem rep_eq (z : Str) (n : Nat) : (⟨(List.replicate n z.cps).foldl (· ++ ·) #[]⟩ : Str) = rep z n := by
  have e := rep_list z.cps n #[]
  have e2 : (List.replicate n z.cps).foldl (· ++ ·) #[] = (List.replicate n z.cps.toList).flatten.toArray := Array.toList_inj.mp (by rw [e]; simp)
  rw [e2]
  rfl
theorem rep_length (z : Str) (n : Nat) : (rep z n).length = z.length * n := by
  show ((List.replicate n z.cps.toList).flatten.toArray).size = z.cps.size * n
  rw [List.size_toArray, rep_len, Array.length_toList]
def rMulS : R2 := fun x y H Q => ∃ (z : Str) (n : Int), x = .str z ∧ y = .int n ∧ 2 ≤ n ∧ n ≤ 1000000 ∧ 1 ≤ z.length ∧ z.length * n.toNat ≤ 1000000 ∧ Q (.str (rep z n.toNat)) H
theorem op_mul_str : OpR X (binaryOp .Mult) rMulS := by
  intro pins s σ H x y v u Q I rx ry h
  obtain ⟨z, n, rfl, rfl, h2, h3, h4, h5, q⟩ := h
  obtain ⟨t, rfl⟩ := (show ∃ t, v = Value.str z t from rx)
  obtain ⟨t', rfl⟩ := (show ∃ t, u = Value.int n t from ry)
  refine PySem.P.mul_str ?_ (fun _ _ => ?_) (fun _ _ => ?_) ?_
  · rw [decide_eq_false (show ¬ n < -(2 ^ 63 : Int) by omega), decide_eq_false (show ¬ n ≥ 2 ^ 63 by omega)]; rfl
  · intro hh
    have e1 : ((z.length : Int)) * n ≤ 1000000 := by
      have e0 : ((z.length * n.toNat : Nat) : Int) ≤ 1000000 := Int.ofNat_le.mpr h5
      rw [Int.natCast_mul, Int.toNat_of_nonneg (by omega)] at e0
      exact e0
    have e2 : (z.length : Int) ≤ (2 ^ 63 - 1) / n := (Int.le_ediv_iff_mul_le (by omega)).mpr (by omega)
    omega
  · unfold Builtin.Str.tooLong
    rw [sizeLine_eq]
    exact decide_eq_false (by omega)
  · rw [if_neg (by omega), if_neg ?_]
    · rw [rep_eq]
      refine ⟨?_, .str _, H, I.tok _, ⟨_, rfl⟩, q⟩
      rw [rep_length, sizeLine_eq]
      omega
    · have e3 : (n == 1) = false := by simpa using (show n ≠ 1 by omega)
      have e4 : (z.length == 0) = false := by simpa using (show z.length ≠ 0 by omega)
      rw [e3, e4]
      decide
end
/-! ### comprehensions over things that stand -/
/-- J yields xs, while all that stood at H stands -/
def Src (J : It) (H : Hp) (xs : List V) : Prop := ∀ i H', Ch [] H H' → (i < xs.length → J.go i H' ∧ ∀ x H2, J.yld i H' x H2 → H2 = H' ∧ xs[i]? = some x) ∧ (i = xs.length → J.stop i H')
theorem src_tup {K : PySem.W.Frag} {a : Addr} {xs : List V} {H : Hp} (h : TpA K H a xs) : Src (Itt K a) H xs := fun i H' c => by
  have h' : SqT K H' a xs := (h.mono (Tl.ch0 c)).sq
  refine ⟨fun hi => ⟨⟨xs, xs[i], h', by simp [hi]⟩, fun x H2 y => ⟨y.1, ?_⟩⟩, fun e => ⟨xs, h', by omega⟩⟩
  have e := y.1
  subst e
  exact y.2 xs h'
theorem rd_mono {H H' : Hp} {a : Addr} {o : HO} (c : Ch [] H H') (h : Rd H a o) : Rd H' a o := by
  rcases h with h | ⟨ob, h⟩
  · exact .inl (c _ _ h (by simp))
  · exact .inr ⟨ob, c _ _ h (by simp)⟩
theorem sqL_mono {K : PySem.W.Frag} {H H' : Hp} {a : Addr} {xs : List V} (c : Ch [] H H') (h : SqL K H a xs) : SqL K H' a xs := h.elim (fun z => .inl (rd_mono c z)) .inr
theorem src_list {K : PySem.W.Frag} {a : Addr} {xs : List V} {H : Hp} (h : SqL K H a xs) : Src (Itl K a) H xs := fun i H' c => by
  have h' : SqL K H' a xs := sqL_mono c h
  refine ⟨fun hi => ⟨⟨xs, xs[i], h', by simp [hi]⟩, fun x H2 y => ⟨y.1, ?_⟩⟩, fun e => ⟨xs, h', by omega⟩⟩
  have e := y.1
  subst e
  exact y.2 xs h'
/-- the signs of a text, as texts -/
def sgV (z : Str) : List V := z.cps.toList.map fun c => V.str ⟨#[c]⟩
theorem src_str {z : Str} {H : Hp} : Src (Its z) H (sgV z) := fun i H' c => by
  have l : (sgV z).length = z.cps.size := by unfold sgV; simp
  refine ⟨fun hi => ⟨by rw [l] at hi; exact hi, fun x H2 y => ⟨y.1, ?_⟩⟩, fun e => by rw [l] at e; exact Nat.le_of_eq e.symm⟩
  obtain ⟨c, hc, rfl⟩ := y.2
  unfold sgV
  rw [List.getElem?_map, Array.getElem?_toList, hc]
  rfl
theorem src_range {lo : Int} {n : Nat} {H : Hp} : Src (Itr lo n) H ((List.range n).map fun (i : Nat) => V.int (lo + i)) := fun i H' c => by
  have l : ((List.range n).map fun (i : Nat) => V.int (lo + i)).length = n := by simp
  refine ⟨fun hi => ⟨by rw [l] at hi; exact hi, fun x H2 y => ⟨y.1, ?_⟩⟩, fun e => by rw [l] at e; exact Nat.le_of_eq e.symm⟩
  rw [l] at hi
  rw [y.2, List.getElem?_map, List.getElem?_range hi]
  rfl
theorem imAll_append {K : PySem.W.Frag} {H : Hp} : ∀ {xs ys : List V} {ds es : List PyData}, ImAll K H xs ds → ImAll K H ys es → ImAll K H (xs ++ ys) (ds ++ es)
  | _, _, _, _, .nil, h => h
  | _, _, _, _, .cons a r, h => .cons a (imAll_append r h)
theorem take_succ {α : Type} {l : List α} {i : Nat} {x : α} (h : l[i]? = some x) : l.take (i + 1) = l.take i ++ [x] := by
  rw [List.take_add_one, h]; rfl
/-- the block of a comprehension: what comes of each thing -/
theorem vBlk (K : PySem.W.Frag) {J : It} {H : Hp} {xs : List V} {g : TG} {tt : TT} {te : TE} {τ : L2.St} {B : L2.St → Prop} {Q : Addr → Hp → Prop} (f : V → Option PyData) (src : Src J H xs) (hl : xs.length < sizeLine)
    (hs : ∀ (D : Addr) (x : V) (H' : Hp) (R : V → Hp → Prop) (R0 : Hp → Prop), x ∈ xs → H D = none → Ch [] H H' → (∀ y d H4, Ch [] H' H4 → f x = some d → Im K H4 y d → R y H4) → (∀ H4, Ch [] H' H4 → f x = none → R0 H4) →
      g x τ H' fun σ2 H2 => B σ2 ∧ tt σ2 H2 fun b H3 => if b = true then te σ2 H3 R else R0 H3)
    (hd : ∀ (D : Addr) (H' : Hp) (ys : List V), H D = none → Ch [] H H' → H' D = some (.lst ys) → ImAll K H' ys (xs.filterMap f) → Q D H') :
    ∀ D, H D = none → ∃ W : Nat → Nat → Hp → Prop, (∃ m, W 0 m (upd H D (.lst []))) ∧ ∀ i m H, W i m H →
      (J.stop i H ∧ Q D H) ∨ (J.go i H ∧ ∃ Nx : Hp → Prop, (∀ H', Nx H' → ∃ m', m' < m ∧ W (i + 1) m' H') ∧ ∀ x H', J.yld i H x H' → g x τ H' fun σ2 H2 => B σ2 ∧ tt σ2 H2 fun b H3 =>
        if b = true then te σ2 H3 fun y H4 => ∃ acc, H4 D = some (.lst acc) ∧ acc.length < sizeLine ∧ Nx (upd H4 D (.lst (acc ++ [y]))) else Nx H3) := by
  intro D hD
  let Pv : Nat → Hp → Prop := fun i H' => Ch [] H H' ∧ ∃ ys, H' D = some (.lst ys) ∧ ImAll K H' ys ((xs.take i).filterMap f) ∧ ys.length ≤ i
  refine ⟨fun i m H' => m = xs.length - i ∧ i ≤ xs.length ∧ Pv i H', ⟨xs.length, by simp, Nat.zero_le _, Ch.alloc hD _, [], upd_same, .nil, Nat.le_refl _⟩, ?_⟩
  rintro i m H' ⟨rfl, hi, hc, ys, hy, im, hyl⟩
  obtain ⟨s1, s2⟩ := src i H' hc
  by_cases hlt : i < xs.length
  · obtain ⟨g1, g2⟩ := s1 hlt
    refine .inr ⟨g1, Pv (i + 1), fun H2 p => ⟨xs.length - (i + 1), by omega, rfl, hlt, p⟩, fun x H2 hy2 => ?_⟩
    obtain ⟨rfl, hx⟩ := g2 x H2 hy2
    refine hs D x H2 _ _ (List.mem_of_getElem? hx) hD hc (fun y d H4 c4 fd iy => ?_) (fun H4 c4 fn => ?_)
    · have e4 : H4 D = some (.lst ys) := c4 _ _ hy (by simp)
      have t : Tl H4 (upd H4 D (.lst (ys ++ [y]))) := Tl.set e4 (fun _ => lst_nt) _
      refine ⟨ys, e4, by omega, fun b o e hb => ?_, ys ++ [y], upd_same, ?_, by rw [List.length_append]; exact Nat.succ_le_succ hyl⟩
      · rw [upd_ne (fun z => by rw [z, hD] at e; cases e)]
        exact c4 _ _ (hc _ _ e hb) hb
      · rw [take_succ hx, List.filterMap_append]
        refine imAll_append (im.mono ((Tl.ch0 c4).trans t)) ?_
        have e5 : [x].filterMap f = [d] := by simp [fd]
        rw [e5]
        exact .cons (iy.mono t) .nil
    · refine ⟨hc.trans c4, ys, c4 _ _ hy (by simp), ?_, by omega⟩
      rw [take_succ hx, List.filterMap_append]
      have e5 : [x].filterMap f = [] := by simp [fn]
      rw [e5, List.append_nil]
      exact im.mono (Tl.ch0 c4)
  · have e : i = xs.length := by omega
    subst e
    refine .inl ⟨s2 rfl, hd D H' ys hD hc hy ?_⟩
    rw [List.take_length] at im
    exact im
section
variable {K : PySem.W.Frag} {g : TG} {tt : TT} {te tl : TE} {vs : List Nat} {σ : L2.St} {H : Hp} {Q : VK} {wi : TI}
theorem vLc (q : wi σ H fun J H1 => ∀ D, H1 D = none → ∃ W : Nat → Nat → Hp → Prop, (∃ m, W 0 m (upd H1 D (.lst []))) ∧ ∀ i m H, W i m H →
      (J.stop i H ∧ Q (.ref D) H) ∨ (J.go i H ∧ ∃ Nx : Hp → Prop, (∀ H', Nx H' → ∃ m', m' < m ∧ W (i + 1) m' H') ∧ ∀ x H', J.yld i H x H' → g x (wipe σ vs) H' fun σ2 H2 => wipe σ2 vs = wipe σ vs ∧ tt σ2 H2 fun b H3 =>
        if b = true then te σ2 H3 fun y H4 => ∃ acc, H4 D = some (.lst acc) ∧ acc.length < sizeLine ∧ Nx (upd H4 D (.lst (acc ++ [y]))) else Nx H3)) : tLc wi g tt te vs σ H Q := q
variable {R : It → Hp → Prop}
theorem vITup (q : tl σ H fun x H1 => ∃ a, x = .ref a ∧ (∃ xs, SqT K H1 a xs) ∧ R (Itt K a) H1) : iTup K tl σ H R := q
theorem vIList (q : tl σ H fun x H1 => ∃ a, x = .ref a ∧ (∃ xs, SqL K H1 a xs) ∧ R (Itl K a) H1) : iList K tl σ H R := q
theorem vIStr (q : tl σ H fun x H1 => ∃ z, x = .str z ∧ R (Its z) H1) : iStr tl σ H R := q
theorem vItt {a : Addr} {xs : List V} (h : SqT K H a xs) (q : R (Itt K a) H) : ∃ b, V.ref a = .ref b ∧ (∃ xs, SqT K H b xs) ∧ R (Itt K b) H := ⟨a, rfl, ⟨xs, h⟩, q⟩
theorem vItl {a : Addr} {xs : List V} (h : SqL K H a xs) (q : R (Itl K a) H) : ∃ b, V.ref a = .ref b ∧ (∃ xs, SqL K H b xs) ∧ R (Itl K b) H := ⟨a, rfl, ⟨xs, h⟩, q⟩
theorem vIts {z : Str} (q : R (Its z) H) : ∃ y, V.str z = .str y ∧ R (Its y) H := ⟨z, rfl, q⟩
theorem vAndV {ta tb : TE} (q : ta σ H fun x H1 => ∃ c, x = .bl c ∧ if c = true then tb σ H1 Q else Q (.bl false) H1) : tAndV ta tb σ H Q := q
theorem vOrV {ta tb : TE} (q : ta σ H fun x H1 => ∃ c, x = .bl c ∧ if c = true then Q (.bl true) H1 else tb σ H1 Q) : tOrV ta tb σ H Q := q
theorem vNotV {ta : TE} (q : ta σ H fun x H1 => ∃ c, x = .bl c ∧ Q (.bl (!c)) H1) : tNotV ta σ H Q := q
theorem vTs {tt : TT} {te : TE} {R : VK} {R0 : Hp → Prop} (q : te σ H R) : tYes σ H fun b H3 => if b = true then te σ H3 R else R0 H3 := q
theorem imInts {H : Hp} : ∀ {ys : List V} {ns : List Int}, ImAll K H ys (ns.map PyData.int) → ys = ns.map V.int
  | _, [], .nil => rfl
  | _, n :: r, .cons (.int _) h => by rw [imInts h]; rfl
theorem imBls {H : Hp} : ∀ {ys : List V} {ns : List Bool}, ImAll K H ys (ns.map PyData.bool) → ys = ns.map V.bl
  | _, [], .nil => rfl
  | _, n :: r, .cons (.bl _) h => by rw [imBls h]; rfl
end
/-! ### a list one has got -/
section
variable {K : PySem.W.Frag} {S : List Addr} {H0 H H' : Hp} {L : List (Addr × HO)} {D : List (V × PyData)} {p : Addr} {o : HO}
theorem Led.got (l : Led K S H0 H L D) (hp : H p = none) (c : Ch [] H H') (e : H' p = some o) (m : ∀ xs, o ≠ .tup xs) : Led K S H0 H' (L ++ [(p, o)]) D := by
  have l2 := l.same c
  have hn := l.notin hp
  refine ⟨l2.ch, fun q hq => ?_, fun q hq => ?_, fun s hs => ?_, ?_, fun q hq => ?_, l2.im, l2.tl⟩
  · rcases List.mem_append.mp hq with h | h
    · exact l2.own q h
    · rw [List.mem_singleton.mp h]; exact e
  · rcases List.mem_append.mp hq with h | h
    · exact l.new q h
    · rw [List.mem_singleton.mp h]; exact .inl (l.fresh hp)
  · rw [List.map_append]; exact List.mem_append_left _ (l.cov s hs)
  · rw [List.map_append]
    refine List.nodup_append.mpr ⟨l.nd, by simp, fun a ha b hb e2 => ?_⟩
    have hb' : b = p := by simpa using hb
    subst e2 hb'
    exact hn ha
  · rcases List.mem_append.mp hq with h | h
    · exact l.nt q h
    · rw [List.mem_singleton.mp h]; exact m
end
end Fw
namespace Fw
open PySem PySem.Spec PyProof.Rows L2
section
variable {X : Cx} {CX : CXT} {x : Str} {e : Expr} {es : List Expr} {ta : TA} {p pos : Pos} {C fI : Addr} {k : Nat} {fd : FuncData} {ps : List Str} {sp : Sp}
/-- C(e, ..), C an own exception class over ValueError with its own __init__; where nothing is handled, and its context None -/
theorem mkN (T : OexC X.K C) (iC : PySem.W.findIn X.K (.ref C) "__init__" = some (some (.ref fI))) (tI : PySem.W.typeIn X.K (.ref fI) = some (.type "function")) (F1 : FnOk X.prog X.w X.K X.mg X.base CX k fI fd ps sp) (hr : Room (k + 1) X.A) (hb : Binds X.K fd ps [])
    (hx : Passes CX X (fun _ _ _ => False)) (hg : Gl X x) (hm : X.mg x = some (.ref C)) (ha : PA X (e :: es) ta) (hdb : (x == ("__debug__" : Str)) = false := by decide)
    (he : starEach (e :: es) X.env = (false, eval e X.env) :: starEach es X.env := by rfl) (hpl : (backTo pos (starEach es X.env)).any (·.1) = false := by rfl) : L2N.PMk X (.Call (.Name x p) (e :: es) [] pos) (tMkO C sp [] ta) := by
  intro pins s σ H Q I h
  obtain ⟨nm, q, N, bs, bm, sn, sub, ab, col, dd, k0, k1, k2, k3, k5, hC, hbm⟩ := T.cls
  refine wpAny_Call_Name_kw (ld_glob I hg hm ?_ hdb)
  refine PySem.W.callWith_K (h₀ := X.base) I.ok.mod.kin T.kC (thn (ha.run pos pins s σ H _ I h) ?_) he hpl
  rintro us ⟨hp, g, dr, tk, os⟩ ⟨vs, H1, I1, rv, hz, q1⟩
  refine ⟨I1.kIn, ?_⟩
  let h2 : Heap := (hp.push (PySem.W.kdv_tup us)).push (PySem.HandSPX.excO C hp.objs.size)
  have fresh : H1 (hp.objs.size + 1) = none := I1.hok.fresh (Nat.le_succ _)
  have old : ∀ b o, hp.get? b = some o → h2.get? b = some o := fun b o e => Heap.get?_push_of_some _ (Heap.get?_push_of_some _ e)
  have at1 : h2.get? (hp.objs.size + 1) = some (PySem.HandSPX.excO C hp.objs.size) := by heap_get
  have I2 : Inv X pins σ (upd H1 (hp.objs.size + 1) (exo (hp.objs.size + 1) C none)) ⟨h2, g, dr, tk, os⟩ := I1.laid (t' := tk) old (Nat.le_succ _) (exo_ok at1)
  have q2 := q1 (hp.objs.size + 1) fresh
  rw [List.append_nil] at q2
  have lv := F1.len _ _ _ _ q2
  have lu : (Value.ref (hp.objs.size + 1) :: us).length = ps.length := by
    rw [← lv]
    exact congrArg (· + 1) (Paired.length rv).symm
  have b2 := hb _ (Value.ref (hp.objs.size + 1) :: us) I2.kIn (by rw [List.append_nil]; exact lu)
  rw [List.append_nil] at b2
  have small : us.length ≤ sizeLine := by
    have e1 : us.length = vs.length := (Paired.length rv).symm
    rw [e1, sizeLine_eq]
    exact Nat.le_trans hz (by decide)
  have run := F1.run _ X.stack _ _ ⟨Value.ref (hp.objs.size + 1) :: us, []⟩ (Value.ref (hp.objs.size + 1) :: us) (V.ref (hp.objs.size + 1) :: vs) _ _ (hr.make C us []) (I2.env0.make C us []) b2 (.cons rfl rv) q2
  refine wpAny_call (PySem.HandSPX.call_own F.excBase_ValueError (fun Y => PySem.HandSPX.refsVE_contains Y bm hbm) (I1.kIn _ _ hC) (PySem.W.looks_findIn I1.kIn iC) (fun self => PySem.W.bind_fn I1.kIn self tI) small (codeAny_mono run ?_))
  rintro r ⟨g2, gg2, d2, t2, o2⟩ hq
  match r, hq with
  | .error er, hq => exact hx pins σ _ _ er _ I2 hq
  | .ok .next, hq => exact hq.elim
  | .ok .brk, hq => exact hq.elim
  | .ok .cont, hq => exact hq.elim
  | .ok (.ret u), hq =>
    obtain ⟨v, H2, os2, bare, un, hok, rv2, rfl, d, fs, ea, ed, hd1, q3⟩ := hq
    obtain ⟨t0, G, J, kG, ge, hoe, na⟩ := mk_end0 (d2 := d2) (t2 := t2) I1 (Nat.le_succ _) old un hok os2 bare ea ed hd1
    exact ⟨rv2, hp.objs.size + 1, _, _, ⟨G, gg2, d2, t2, o2⟩, _, .ref C, some d, rfl, J, kG, ge, hoe, ⟨rfl, rfl, fun vs hv => by cases hv; rfl⟩, rfl, rfl, na, rfl, bare, raises_own T.exC T.tyC, q3⟩
end
section
variable {CX : CXT} {P : Program} {w : World} {K : PySem.W.Frag} {mg : Str → Option Value} {base : Heap} {N : List Str} {qual : Str} {scope : Scope} {f : Addr} {cd : Value} {A : Around} {outer : List Env} {s : Shared} {H : Hp} {E : XK}
theorem kx0 : (cxOf CX P w K mg base N qual scope f cd A outer s H E).K = K := rfl
theorem kx1 : (cxOf CX P w K mg base N qual scope f cd A outer s H E).nox.K = K := rfl
end
section
variable {σ : L2.St} {H : Hp} {Q : VK}
theorem vChain {r r' : R2} {ta tb tc : TE} (q : ta σ H fun x H1 => tb σ H1 fun y H2 => r x y H2 fun z H3 => ∃ k, z = .bl k ∧ (if k = true then tc σ H3 fun w' H4 => r' y w' H4 Q else Q (.bl false) H3)) : tChain r r' ta tb tc σ H Q := q
theorem vFmt {te : TE} (q : te σ H fun x H1 => (∃ y : Str, x = .str y ∧ y.length ≤ sizeLine ∧ Q (.str y) H1) ∨ ∃ i : Int, x = .int i ∧ i.natAbs.log2 < 1920 ∧ Q (.str (toString i)) H1) : tFmt te σ H Q := q
theorem vFmtI {i : Int} {R : Str → Prop} {R' : Int → Prop} (h : i.natAbs.log2 < 1920) (q : R' i) : (∃ y : Str, V.int i = .str y ∧ y.length ≤ sizeLine ∧ R y) ∨ ∃ j : Int, V.int i = .int j ∧ j.natAbs.log2 < 1920 ∧ R' j := .inr ⟨i, rfl, h, q⟩
theorem vFmtS {z : Str} {R : Str → Prop} {R' : Int → Prop} (h : z.length ≤ sizeLine) (q : R z) : (∃ y : Str, V.str z = .str y ∧ y.length ≤ sizeLine ∧ R y) ∨ ∃ j : Int, V.str z = .int j ∧ j.natAbs.log2 < 1920 ∧ R' j := .inl ⟨z, rfl, h, q⟩
theorem vJsC {t : TE} {ts : List TE} {acc : Str} {R : Str → Hp → Prop} (q : t σ H fun x H1 => ∃ y : Str, x = .str y ∧ (acc ++ y).length ≤ sizeLine ∧ tJs ts (acc ++ y) σ H1 R) : tJs (t :: ts) acc σ H R := q
theorem vJsN {acc : Str} {R : Str → Hp → Prop} (q : R acc H) : tJs [] acc σ H R := q
theorem vIntS {z : Str} {n : Int} {R : Int → Prop} (h : PySem.intText? z = some n) (l : z.length ≤ 640) (q : R n) : ∃ a m, [V.str z] = [.str a] ∧ PySem.intText? a = some m ∧ a.length ≤ 640 ∧ R m := ⟨z, n, rfl, h, l, q⟩
theorem vStrI {i : Int} {R : Int → Prop} (h : i.natAbs.log2 < 1920) (q : R i) : ∃ j, [V.int i] = [.int j] ∧ j.natAbs.log2 < 1920 ∧ R j := ⟨i, rfl, h, q⟩
theorem vInS {c : Nat} {z : Str} {R : Nat → Str → Prop} (q : R c z) : ∃ (d : Nat) (y : Str), V.str ⟨#[c]⟩ = .str ⟨#[d]⟩ ∧ V.str z = .str y ∧ R d y := ⟨c, z, rfl, rfl, q⟩
end
section
variable {σ : L2.St} {H : Hp} {wi : TI} {g : TG} {tb : TS} {nx bk ct : L2.St → Hp → Prop} {rt : VK}
theorem vFor (q : wi σ H fun J H1 => ∃ W : Nat → Nat → L2.St → Hp → Prop, (∃ m, W 0 m σ H1) ∧ ∀ i m σ H, W i m σ H →
  (J.stop i H ∧ nx σ H) ∨ (J.go i H ∧ ∃ N : L2.St → Hp → Prop, (∀ σ' H', N σ' H' → ∃ m', m' < m ∧ W (i + 1) m' σ' H') ∧ ∀ x H', J.yld i H x H' → g x σ H' fun σ2 H2 => tb ⟨N, rt, nx, N⟩ σ2 H2)) : tFor wi g tb ⟨nx, rt, bk, ct⟩ σ H := q
/-- a loop over things that stand: J yields xs whatever the body does to what W speaks of -/
theorem vForR {lo : Int} {n : Nat} (Pv : Nat → L2.St → Hp → Prop) (h0 : Pv 0 σ H) (hs : ∀ i σ H, i < n → Pv i σ H → g (.int (lo + i)) σ H fun σ2 H2 => tb ⟨Pv (i + 1), rt, nx, Pv (i + 1)⟩ σ2 H2) (hd : ∀ σ H, Pv n σ H → nx σ H) :
    ∃ W : Nat → Nat → L2.St → Hp → Prop, (∃ m, W 0 m σ H) ∧ ∀ i m σ H, W i m σ H →
      ((Itr lo n).stop i H ∧ nx σ H) ∨ ((Itr lo n).go i H ∧ ∃ N : L2.St → Hp → Prop, (∀ σ' H', N σ' H' → ∃ m', m' < m ∧ W (i + 1) m' σ' H') ∧ ∀ x H', (Itr lo n).yld i H x H' → g x σ H' fun σ2 H2 => tb ⟨N, rt, nx, N⟩ σ2 H2) :=
  for_range (D := ⟨nx, rt, nx, nx⟩) Pv h0 hs hd
end
theorem ifTT {A B : Prop} (h : A) : if true = true then A else B := h
theorem ifFF {A B : Prop} (h : B) : if false = true then A else B := h
theorem ifNT {A B : Prop} (h : B) : if (!true) = true then A else B := h
theorem ifNF {A B : Prop} (h : A) : if (!false) = true then A else B := h
theorem vJs1 {z acc : Str} {R : Str → Prop} (l : (acc ++ z).length ≤ sizeLine) (q : R z) : ∃ y, V.str z = .str y ∧ (acc ++ y).length ≤ sizeLine ∧ R y := ⟨z, rfl, l, q⟩
theorem intTxt {i : Int} (h : i.natAbs.log2 < 1920) : (Str.ofString (toString i)).length ≤ 1930 := by
  have e := int_text_length_le (k := 1920) (by decide) h
  have e2 : (Str.ofString (toString i)).length = (toString i).length := PySem.ofString_length _
  omega
theorem len_app (x y : Str) : (x ++ y).length = x.length + y.length := by
  show (x.cps ++ y.cps).size = _
  rw [Array.size_append]; rfl
/-! ### built-in functions -/
section
variable {K : PySem.W.Frag}
theorem tyT {H : Hp} {a : Addr} {xs : List V} (h : TpA K H a xs) : TyX K H (.ref a) (.type "tuple") := by
  rcases h with h | ⟨o, its, n, h1, h2, _⟩
  · exact .base (.tup h)
  · exact .kTuple h1 h2
theorem vIsi {H : Hp} {Q : VK} {x : V} {t : Value} {n : String} {b : Bool} (ty : TyX K H x t) (k : PySem.W.kitOne K t (.type n) = some b) (q : Q (.bl b) H) : rIsi K [x, .ty n] H Q := ⟨x, .ty n, t, .type n, b, rfl, .ty n, ty, k, q⟩
theorem vLenT {H : Hp} {R : Nat → Prop} {a : Addr} {xs : List V} (h : TpA K H a xs) (q : R xs.length) : ∃ x n, [V.ref a] = [x] ∧ LenV K x H n ∧ R n := ⟨_, _, rfl, .inr ⟨xs, h.sq, rfl⟩, q⟩
theorem vLenS {H : Hp} {R : Nat → Prop} {z : Str} (h : z.length ≤ sizeLine) (q : R z.length) : ∃ x n, [V.str z] = [x] ∧ LenV K x H n ∧ R n := ⟨_, _, rfl, ⟨h, rfl⟩, q⟩
theorem vLenL {H : Hp} {R : Nat → Prop} {a : Addr} {xs : List V} (h : SqL K H a xs) (q : R xs.length) : ∃ x n, [V.ref a] = [x] ∧ LenV K x H n ∧ R n := ⟨_, _, rfl, .inl ⟨xs, h, rfl⟩, q⟩
theorem vAll {H : Hp} {Q : VK} {a : Addr} {bs : List Bool} (h : H a = some (.lst (bs.map V.bl))) (q : Q (.bl (bs.all id)) H) : rAll K [V.ref a] H Q := ⟨a, bs, rfl, .inl (.inl h), q⟩
end
end Fw
/-! plain: whole numbers as text -/
namespace Fw
open PySem PySem.Spec PyProof.Rows L2 TL
/-- the signs of a text -/
abbrev sg (z : Str) : List Nat := z.cps.toList
theorem sg_inj {x y : Str} (h : sg x = sg y) : x = y := by
  obtain ⟨⟨a⟩⟩ := x
  obtain ⟨⟨b⟩⟩ := y
  have h' : a = b := h
  rw [h']
theorem sg_len (z : Str) : (sg z).length = z.length := Array.length_toList
theorem sg_app (x y : Str) : sg (x ++ y) = sg x ++ sg y := tl_append x y
theorem str_dec {x y : Str} : decide (V.str x = V.str y) = decide (sg x = sg y) := by
  by_cases h : x = y
  · subst h; simp
  · have h2 : sg x ≠ sg y := fun e => h (sg_inj e)
    rw [decide_eq_false h2]
    exact decide_eq_false fun e => h (V.str.inj e)
theorem sIx_pos {n d : Nat} {v : Int} (h : 0 ≤ v) : HT.sIx n d (some v) = min v.toNat n := if_neg (by omega)
theorem cut_to (z : Str) {v : Int} (h : 0 ≤ v) : sg (cutS z none (some v)) = (sg z).take v.toNat := by
  show ((sg z).drop (HT.sIx z.length 0 none)).take (HT.sIx z.length z.length (some v) - HT.sIx z.length 0 none) = _
  rw [HT.sIx_none, sIx_pos h, List.drop_zero, Nat.sub_zero, ← sg_len]
  exact List.take_eq_take_min.symm
theorem cut_from (z : Str) {v : Int} (h : 0 ≤ v) : sg (cutS z (some v) none) = (sg z).drop v.toNat := by
  show ((sg z).drop (HT.sIx z.length 0 (some v))).take (HT.sIx z.length z.length none - HT.sIx z.length 0 (some v)) = _
  rw [HT.sIx_none, sIx_pos h, ← sg_len]
  by_cases hv : v.toNat ≤ (sg z).length
  · rw [Nat.min_eq_left hv, List.take_of_length_le (by rw [List.length_drop]; omega)]
  · rw [Nat.min_eq_right (by omega), List.drop_of_length_le (by omega), List.drop_of_length_le (by omega), List.take_nil]
open NumText
def isDg (c : Nat) : Bool := decide (48 ≤ c ∧ c ≤ 57)
theorem digits_sg : sg "0123456789" = [48, 49, 50, 51, 52, 53, 54, 55, 56, 57] := by decide +kernel
theorem mem_digits (c : Nat) : decide (c ∈ sg "0123456789") = isDg c := by
  unfold isDg
  rw [digits_sg]
  refine decide_eq_decide.mpr ⟨fun h => ?_, fun h => ?_⟩
  · simp at h; omega
  · simp; omega
theorem all_dg {l : List Nat} : l.all isDg = true ↔ AllDigits l := by
  unfold AllDigits isDg
  simp
/-- the number that a word of digits is, if it is written as numbers are -/
def numIn (z : List Nat) : Option Int := if 1 ≤ z.length ∧ z.length ≤ 60 ∧ z.all isDg = true ∧ (z = [48] ∨ z.head? ≠ some 48) then some ((digitsVal z : Nat) : Int) else none
def sgnIn (z : List Nat) : Option Int := if z.take 1 = [45] then (match numIn (z.drop 1) with | some n => if 0 < n then some (-n) else none | none => none) else numIn z
def oV : Option Int → V | some i => .int i | none => .non
def oD : Option Int → PyData | some i => .int i | none => .none
theorem imO {K : PySem.W.Frag} {H : Hp} (o : Option Int) : Im K H (oV o) (oD o) := by
  cases o with
  | none => exact .non
  | some i => exact .int i
theorem val_snoc (l : List Nat) (c : Nat) : digitsVal (l ++ [c]) = digitsVal l * 10 + (c - 48) := by unfold digitsVal; rw [List.foldl_append]; rfl
theorem numL_head (n : Nat) : numL n = [48] ∨ (numL n).head? ≠ some 48 := by
  induction n using Nat.strongRecOn with
  | _ n ih =>
    by_cases h : n < 10
    · rw [numL_lt h]
      by_cases h0 : n = 0
      · left; rw [h0]
      · right; simp; omega
    · right
      rw [numL_step (by omega)]
      have hne := numL_ne (n / 10)
      have e : (numL (n / 10) ++ [48 + n % 10]).head? = (numL (n / 10)).head? := by
        cases q : numL (n / 10) with
        | nil => exact absurd q hne
        | cons a r => rfl
      rw [e]
      rcases ih (n / 10) (by omega) with q | q
      · have v := numL_val (n / 10)
        rw [q] at v
        have v' : (0 : Nat) = n / 10 := v
        omega
      · exact q
theorem numL_canon : ∀ (k : Nat) (p : List Nat), p.length = k → AllDigits p → p ≠ [] → (p = [48] ∨ p.head? ≠ some 48) → numL (digitsVal p) = p := by
  intro k
  induction k using Nat.strongRecOn with
  | _ k ih =>
    intro p hk hp hne hh
    rcases List.eq_nil_or_concat p with e | ⟨q, c, e⟩
    · exact absurd e hne
    · rw [List.concat_eq_append] at e
      subst e
      have hc : 48 ≤ c ∧ c ≤ 57 := hp c (by simp)
      have hq : AllDigits q := fun d hd => hp d (by simp [hd])
      rw [val_snoc]
      by_cases q0 : q = []
      · subst q0
        have v0 : digitsVal [] = 0 := rfl
        rw [v0, Nat.zero_mul, Nat.zero_add, numL_lt (by omega)]
        show [48 + (c - 48)] = [c]
        rw [show 48 + (c - 48) = c by omega]
      · have hq2 : q.head? ≠ some 48 := by
          rcases hh with z | z
          · have := congrArg List.length z
            simp at this
            exact absurd this q0
          · cases q with
            | nil => exact absurd rfl q0
            | cons a r => exact z
        have r := ih q.length (by rw [← hk, List.length_append]; simp) q rfl hq q0 (.inr hq2)
        have pos : 0 < digitsVal q := by
          rcases Nat.eq_zero_or_pos (digitsVal q) with z | z
          · rw [z, numL_lt (by omega)] at r
            rw [← r] at hq2
            simp at hq2
          · exact z
        rw [numL_step (by omega)]
        have e1 : (digitsVal q * 10 + (c - 48)) / 10 = digitsVal q := by omega
        have e2 : 48 + (digitsVal q * 10 + (c - 48)) % 10 = c := by omega
        rw [e1, e2, r]
theorem numL_iff {p : List Nat} (hp : AllDigits p) (hne : p ≠ []) : numL (digitsVal p) = p ↔ (p = [48] ∨ p.head? ≠ some 48) :=
  ⟨fun e => by rw [← e]; exact numL_head _, numL_canon _ p rfl hp hne⟩
theorem sg_nat (n : Nat) : sg (toString ((n : Nat) : Int) : String) = numL n := tl_num n
theorem sg_neg {n : Nat} (h : 0 < n) : sg (toString (-(n : Nat) : Int) : String) = 45 :: numL n := by
  obtain ⟨m, rfl⟩ : ∃ m, n = m + 1 := ⟨n - 1, by omega⟩
  have e : (toString (-((m + 1 : Nat) : Int)) : String) = "-" ++ (toString ((m + 1 : Nat)) : String) := rfl
  rw [e]
  show tl (Str.ofString ("-" ++ toString (m + 1))) = _
  rw [tl_ofString, String.toList_append, List.map_append]
  have t := tl_num (m + 1)
  rw [tl_ofString] at t
  exact congrArg (fun l => 45 :: l) t
/-! ### flat data -/
def fl : PyData → Bool
  | .none | .bool _ | .int _ => true
  | .str x => PyData.strOk x
  | _ => false
theorem fl_lay : ∀ {ds : List PyData}, ds.all fl = true → PyData.canLayAll0 ds = true ∧ PyData.depthAll ds = 0
  | [], _ => ⟨by simp [PyData.canLayAll0], by simp [PyData.depthAll]⟩
  | d :: r, h => by
    rw [List.all_cons, Bool.and_eq_true] at h
    obtain ⟨h1, h2⟩ := fl_lay h.2
    have hd : d.canLay0 = true ∧ d.depth = 0 := by
      cases d with
      | none => exact ⟨by simp [PyData.canLay0], by simp [PyData.depth]⟩
      | bool b => exact ⟨by simp [PyData.canLay0], by simp [PyData.depth]⟩
      | int b => exact ⟨by simp [PyData.canLay0], by simp [PyData.depth]⟩
      | str b => exact ⟨by unfold PyData.canLay0; exact h.1, by simp [PyData.depth]⟩
      | _ => cases h.1
    exact ⟨by unfold PyData.canLayAll0; rw [hd.1, h1]; rfl, by unfold PyData.depthAll; rw [hd.2, h2]; rfl⟩
theorem shaped_list {ds : List PyData} (h : ds.all fl = true) : SeqAt.shaped (.list ds) = true := by
  obtain ⟨h1, h2⟩ := fl_lay h
  unfold SeqAt.shaped PyData.canLay0 PyData.depth
  rw [h1, h2]
  rfl
theorem shaped_tup {ds : List PyData} (h : ds.all fl = true) : SeqAt.shaped (.tuple ds) = true := by
  obtain ⟨h1, h2⟩ := fl_lay h
  unfold SeqAt.shaped PyData.canLay0 PyData.depth
  rw [h1, h2]
  rfl
theorem eqv_nil {ds : List PyData} : PyData.eqv (.list ds) (.list []) = ds.isEmpty := by
  cases ds with
  | nil => simp [PyData.eqv, PyData.eqvAll]
  | cons d r => simp [PyData.eqv, PyData.eqvAll]
/-- a text of signs that Python has -/
def okS (l : List Nat) : Prop := ∀ c ∈ l, c < 0x110000
theorem okS.ok {z : Str} (h : okS (sg z)) : PyData.strOk z = true := by
  unfold PyData.strOk
  rw [← Array.all_toList, List.all_eq_true]
  exact fun c hc => decide_eq_true (h c hc)
end Fw
namespace Fw
open PySem PySem.Spec PyProof.Rows L2
/-- an own exception class x over ValueError whose __init__ keeps its argument as f -/
structure XC (K : PySem.W.Frag) (mg : Str → Option Value) (x f : Str) : Prop where
  g : mg x = some (.ref (He.ga K x))
  o : OexC K (He.ga K x)
  i : PySem.W.findIn K (.ref (He.ga K x)) "__init__" = some (some (.ref (He.ma K (He.ga K x) "__init__")))
  t : PySem.W.typeIn K (.ref (He.ma K (He.ga K x) "__init__")) = some (.type "function")
  a : PySem.W.findIn K (.ref (He.ga K x)) f = some none
/-- what such an __init__ does -/
def spI (K : PySem.W.Frag) (f : Str) : Sp := fun vs H Q _ => ∃ (a C : Addr) (v : V), vs = [.ref a, v] ∧ OexC K C ∧ PySem.W.findIn K (.ref C) f = some none ∧ H a = some (exo a C none) ∧
  ∀ dx, H dx = none → dx ≠ a → Q .non (upd (upd H dx (exd dx [(f, v)])) a (exo a C (some dx)))
section
variable {K : PySem.W.Frag} {H : Hp} {f : Str} {C : Addr} {v : V} {Q : XK} {E : XK}
theorem mkO_go (T : OexC K C) (ha : PySem.W.findIn K (.ref C) f = some none) (q : ∀ d, H d = none → Q (.ref C) (some d) (upd H d (.xd [(f, v)]))) : [v].length ≤ 1000 ∧ ∀ a, H a = none → spI K f (.ref a :: ([v] ++ [])) (upd H a (exo a C none))
    (fun v H2 => v = .non ∧ ∃ (d : Addr) (fs : List (Str × V)), H2 a = some (exo a C (some d)) ∧ H2 d = some (exd d fs) ∧ H d = none ∧ Q (.ref C) (some d) (upd (del H2 a) d (.xd fs))) E := by
  refine ⟨by show 1 ≤ 1000; decide, fun a hn => ⟨a, C, v, rfl, T, ha, upd_same, fun dx hd hne => ⟨rfl, dx, [(f, v)], upd_same, ?_, ?_, ?_⟩⟩⟩
  · rw [upd_ne hne]; exact upd_same
  · rw [upd_ne hne] at hd; exact hd
  · rw [upd_ne hne] at hd
    have e : upd (del (upd (upd (upd H a (exo a C none)) dx (exd dx [(f, v)])) a (exo a C (some dx))) a) dx (.xd [(f, v)]) = upd H dx (.xd [(f, v)]) := by
      funext b
      by_cases h1 : b = dx
      · subst h1; rw [upd_same, upd_same]
      · rw [upd_ne h1, upd_ne h1]
        by_cases h2 : b = a
        · subst h2; rw [del_same, hn]
        · rw [del_ne h2, upd_ne h2, upd_ne h1, upd_ne h2]
    rw [e]
    exact q dx hd
variable {σ : L2.St} {ta : TA}
theorem vMk {sp : Sp} {dvs : List V} (q : ta σ H fun vs H1 => vs.length ≤ 1000 ∧ ∀ a, H1 a = none → sp (.ref a :: (vs ++ dvs)) (upd H1 a (exo a C none)) (fun v H2 => v = .non ∧ ∃ (d : Addr) (fs : List (Str × V)), H2 a = some (exo a C (some d)) ∧ H2 d = some (exd d fs) ∧ H1 d = none ∧ Q (.ref C) (some d) (upd (del H2 a) d (.xd fs))) (fun _ _ _ => False)) : tMkO C sp dvs ta σ H Q := q
end
/-! ### facts of an exception class, by looking -/
def oexB (K : PySem.W.Frag) (C : Addr) : Bool := (match K.lookup C with
  | some ⟨.type "type", _, .cls cd, sl⟩ => (match cd.mro, sl.toList with
    | .ref C' :: bm, [_, _, _, _, some (.builtin n), _] => C' == C && (n == "ValueError.__new__" && (!cd.hasDel && (cd.hasDict && PySem.HandSPX.refsVE bm)))
    | _, _ => false)
  | _ => false) && (decide (PySem.W.findIn K (.ref C) "__setattr__" = some (some (.builtin "object.__setattr__"))) && (decide (PySem.W.subIn K (.ref C) (.type "BaseException") = some true) && (decide (PySem.W.typeIn K (.ref C) = some (.type "type")) && PySem.W.keepIn K (.ref C))))
theorem oexB_ok {K : PySem.W.Frag} {C : Addr} (h : oexB K C = true) : OexC K C := by
  unfold oexB at h
  rw [Bool.and_eq_true, Bool.and_eq_true, Bool.and_eq_true, Bool.and_eq_true] at h
  obtain ⟨h1, h2, h3, h4, h5⟩ := h
  refine ⟨?_, of_decide_eq_true h2, of_decide_eq_true h3, of_decide_eq_true h4, h5⟩
  split at h1
  · rename_i dd cd sl ho
    split at h1
    · rename_i C' bm k0 k1 k2 k3 n k5 hm hs
      simp only [Bool.and_eq_true, beq_iff_eq, Bool.not_eq_true'] at h1
      obtain ⟨rfl, rfl, hdel, hdi, hr⟩ := h1
      obtain ⟨nm, bs, mro, ns, qn, hd, sn, sub, ab, col, del⟩ := cd
      dsimp only at hm hdel hdi
      subst hm hdel hdi
      have hsl : sl = #[k0, k1, k2, k3, some (.builtin "ValueError.__new__"), k5] := by
        obtain ⟨l⟩ := sl
        simp only at hs
        rw [hs]
      subst hsl
      exact ⟨nm, qn, ns, bs, bm, sn, sub, ab, col, dd, k0, k1, k2, k3, k5, ho, hr⟩
    · cases h1
  · cases h1
def xcB (K : PySem.W.Frag) (x f : Str) : Bool := oexB K (He.ga K x) && (decide (PySem.W.nsIn K mainGlobals x = some (some (.ref (He.ga K x)))) && (decide (PySem.W.findIn K (.ref (He.ga K x)) "__init__" = some (some (.ref (He.ma K (He.ga K x) "__init__")))) &&
  (decide (PySem.W.typeIn K (.ref (He.ma K (He.ga K x) "__init__")) = some (.type "function")) && decide (PySem.W.findIn K (.ref (He.ga K x)) f = some none))))
theorem xcB_ok {K : PySem.W.Frag} {h : Heap} {mg : Str → Option Value} {x f : Str} (X : K.In h) (G : h.Ns mainGlobals mg) (c : xcB K x f = true) : XC K mg x f := by
  unfold xcB at c
  rw [Bool.and_eq_true, Bool.and_eq_true, Bool.and_eq_true, Bool.and_eq_true] at c
  obtain ⟨h1, h2, h3, h4, h5⟩ := c
  exact ⟨PySem.W.mg_of X G (of_decide_eq_true h2), oexB_ok h1, of_decide_eq_true h3, of_decide_eq_true h4, of_decide_eq_true h5⟩
/-- a def's rule where an exception is handled -/
theorem okH {CX : CXT} {P : Program} {w : World} {K : PySem.W.Frag} {mg : Str → Option Value} {base : Heap} {k : Nat} {f : Addr} {fd : FuncData} {x qual : Str} {params : Arguments} {body : List Stmt} {scope : Scope} {N ps : List Str} {sp : Sp} (F : FunD K x qual params body scope [] [] f fd) (S : FnScope N ps scope) (len : ∀ vs H Q E, sp vs H Q E → vs.length = ps.length)
    (hb : ∀ (cdv : Value) (A : Around) (outer : List Env) (s : Shared) (H : Hp) (vs : List V) (Q : VK) (E : XK) (p : Addr × Obj), L2H.Hot1 A p → L2H.RoomH k (A.deeper (envOfC qual scope s.heap.objs.size f cdv)) → sp vs H Q E →
      ∃ t, PSs (L2H.cxH CX P w K mg base N qual scope f cdv A outer s H E p) body t ∧ t { nx := fun _ H' => Q .non H', rt := Q } (L2.start N vs) H) : L2H.FnH P w K mg base CX (k + 1) f fd ps sp := by
  obtain ⟨oc, od, dV, kV, doc, pm, an, cdv, ct, osl, rfl, lk, hcd, _, _⟩ := F.ex
  exact L2H.fn_ofH lk hcd S len fun A outer s H vs Q E p h1 hr hsp => hb cdv A outer s H vs Q E p h1 hr hsp
end Fw
local macro_rules | `(tactic| walk_at "1") => `(tactic| with_reducible first
  | refine Fw.vSeq ?_ | refine Fw.vVar (by rfl) ?_ | refine Fw.vC ?_ | refine Fw.vOp ?_ | refine Fw.vCons ?_ | refine Fw.vNil ?_ | refine Fw.vCB ?_ | refine Fw.vCall ?_ | refine Fw.vCallS ?_
  | refine Fw.vAsg ?_ | refine Fw.vIfS ?_ | refine Fw.vRet ?_ | refine Fw.vRetN ?_ | refine Fw.vTest ?_ | refine Fw.vB ?_ | refine Fw.vBl ?_ | refine Fw.vI0 ?_ | refine Fw.vU ?_ | refine Fw.vUn ?_
  | refine Fw.vAnd ?_ | refine Fw.vOr ?_ | refine Fw.vNot ?_ | refine Fw.vIf ?_ | refine Fw.vTup ?_ | refine Fw.vLst ?_ | refine Fw.vDrop ?_ | refine Fw.vPar ?_ | (refine Fw.vPar2 ?_; try dsimp only [List.set]) | refine Fw.vSub ?_
  | refine Fw.vSl ?_ | refine Fw.vNoPart ?_ | refine Fw.vPart ?_ | refine Fw.vInt ?_ | refine Fw.vNext ?_ | refine Fw.vGNil ?_ | refine Fw.vGCons ?_ | refine Fw.vAug (by rfl) ?_
  | refine Fw.ifTT ?_ | refine Fw.ifFF ?_ | refine Fw.ifNT ?_ | refine Fw.ifNF ?_ | refine Fw.vFor ?_ | refine Fw.vAndV ?_ | refine Fw.vChain ?_ | refine Fw.vFmt ?_ | refine Fw.vJsC ?_ | refine Fw.vJsN ?_ | refine Fw.vInS ?_ | refine Fw.vOrV ?_ | refine Fw.vNotV ?_ | refine Fw.vLc ?_ | refine Fw.vITup ?_ | refine Fw.vIList ?_ | refine Fw.vIStr ?_ | refine Fw.vTs ?_
  | refine Fw.vEq rfl ?_ | refine Fw.vNe rfl ?_ | refine Fw.vBreak ?_ | refine Fw.vCont ?_)
local macro_rules | `(tactic| walk_at "2") => `(tactic| first | walk_at "1" | (with_reducible refine Fw.vName ?_; try dsimp only [List.set]))
local macro_rules | `(tactic| walk_at "3") => `(tactic| first | walk_at "2" | refine ⟨_, rfl, ?_⟩ | refine ⟨rfl, ?_⟩)
local macro_rules | `(tactic| walk_at "kx") => `(tactic| try dsimp only [Fw.kx0, Fw.kx1])
local macro_rules | `(tactic| walk_at "go") => `(tactic| repeat (first | walk_at "3" | dsimp only | dsimp only [L2.wipe, List.map, List.set]))

namespace K77
open PySem PySem.Spec PyProof.Rows L2 Fw
def top (i : Nat) : Stmt := PySem.Challenge.pw_fracwalk_k77_values_as_text.main.body.getD i (.Pass ⟨0, 0, 0, 0⟩)
structure Tx (K : PySem.W.Frag) (mg : Str → Option Value) : Prop where
  g_are_integers : mg "are_integers" = some (.ref (He.ga K "are_integers"))
  f_are_integers : ∃ fd, FnP K "are_integers" (top 4) (He.ga K "are_integers") fd
  g_common_divisor : mg "common_divisor" = some (.ref (He.ga K "common_divisor"))
  f_common_divisor : ∃ fd, FnP K "common_divisor" (top 5) (He.ga K "common_divisor") fd
  g_format_value : mg "format_value" = some (.ref (He.ga K "format_value"))
  f_format_value : ∃ fd, FnP K "format_value" (top 10) (He.ga K "format_value") fd
  g_number_in : mg "number_in" = some (.ref (He.ga K "number_in"))
  f_number_in : ∃ fd, FnP K "number_in" (top 11) (He.ga K "number_in") fd
  g_signed_number_in : mg "signed_number_in" = some (.ref (He.ga K "signed_number_in"))
  f_signed_number_in : ∃ fd, FnP K "signed_number_in" (top 12) (He.ga K "signed_number_in") fd
  c_DIGITS : ∃ u, mg "DIGITS" = some u ∧ RelV (.str "0123456789") u
  c_MAX_DIGITS : ∃ u, mg "MAX_DIGITS" = some u ∧ RelV (.int 60) u
  g_require_value : mg "require_value" = some (.ref (He.ga K "require_value"))
  f_require_value : ∃ fd, FnP K "require_value" (top 6) (He.ga K "require_value") fd
  g_parse_value : mg "parse_value" = some (.ref (He.ga K "parse_value"))
  f_parse_value : ∃ fd, FnP K "parse_value" (top 13) (He.ga K "parse_value") fd
  g__law_pen : mg "_law_pen" = some (.ref (He.ga K "_law_pen"))
  f__law_pen : ∃ fd, FnP K "_law_pen" (top 15) (He.ga K "_law_pen") fd
  g__law_fresh : mg "_law_fresh" = some (.ref (He.ga K "_law_fresh"))
  f__law_fresh : ∃ fd, FnP K "_law_fresh" (top 16) (He.ga K "_law_fresh") fd
  g__law_draw : mg "_law_draw" = some (.ref (He.ga K "_law_draw"))
  f__law_draw : ∃ fd, FnP K "_law_draw" (top 17) (He.ga K "_law_draw") fd
  g__law_common : mg "_law_common" = some (.ref (He.ga K "_law_common"))
  f__law_common : ∃ fd, FnP K "_law_common" (top 18) (He.ga K "_law_common") fd
  g__law_fraction : mg "_law_fraction" = some (.ref (He.ga K "_law_fraction"))
  f__law_fraction : ∃ fd, FnP K "_law_fraction" (top 19) (He.ga K "_law_fraction") fd
  g__law_number : mg "_law_number" = some (.ref (He.ga K "_law_number"))
  f__law_number : ∃ fd, FnP K "_law_number" (top 20) (He.ga K "_law_number") fd
  g__law_expected : mg "_law_expected" = some (.ref (He.ga K "_law_expected"))
  f__law_expected : ∃ fd, FnP K "_law_expected" (top 21) (He.ga K "_law_expected") fd
  g__law_outcome : mg "_law_outcome" = some (.ref (He.ga K "_law_outcome"))
  f__law_outcome : ∃ fd, FnP K "_law_outcome" (top 22) (He.ga K "_law_outcome") fd
  f_law : ∃ fd, FnP K "law" (top 23) (He.ga K "law") fd
  x_NotAValue : XC K mg "NotAValue" "value"
  f_NotAValue_init : ∃ fd, FunD K "__init__" "NotAValue.__init__" (defArgs (inClass (top 1) 0)) (defBody (inClass (top 1) 0)) (defScope (inClass (top 1) 0)) [] [] (He.ma K (He.ga K "NotAValue") "__init__") fd
  x_ParseError : XC K mg "ParseError" "line"
  f_ParseError_init : ∃ fd, FunD K "__init__" "ParseError.__init__" (defArgs (inClass (top 2) 0)) (defBody (inClass (top 2) 0)) (defScope (inClass (top 2) 0)) [] [] (He.ma K (He.ga K "ParseError") "__init__") fd
  xf_ParseError : XfC K (He.ga K "ParseError")
  vV : PySem.W.findCls K (.type "ValueError") (.type "type") "__init__" = some (.val (.builtin "ValueError.__init__"))
  e_NN : PySem.W.exmOne K (.ref (He.ga K "NotAValue")) (.ref (He.ga K "NotAValue")) = some true
  e_PP : PySem.W.exmOne K (.ref (He.ga K "ParseError")) (.ref (He.ga K "ParseError")) = some true
  n_list : mg "list" = none
  n_range : mg "range" = none
  n_str : mg "str" = none
  n_repr : mg "repr" = none
  n_ValueError : mg "ValueError" = none
  n_len : mg "len" = none
  n_all : mg "all" = none
  n_abs : mg "abs" = none
  n_isinstance : mg "isinstance" = none
  n_int : mg "int" = none
  n_bool : mg "bool" = none
  n_tuple : mg "tuple" = none
section
variable {P : Program} {w : World} {K : PySem.W.Frag} {mg : Str → Option Value} {base : Heap}
def sp_are (K : PySem.W.Frag) : Sp := fun vs H Q _ => ∃ (a : Addr) (ns : List Int), vs = [.ref a, .int ns.length] ∧ TpA K H a (ns.map V.int) ∧ ns.length ≤ 1000 ∧ ∀ H', Ch [] H H' → Q (.bl true) H'
abbrev s_are_integers : Stmt := (top 4)
theorem sc_are_integers : FnScope ["value", "count", "number"] ["value", "count"] (defScope s_are_integers) := ⟨rfl, rfl, rfl, by decide +kernel, rfl, by decide +kernel, by decide +kernel⟩
theorem ok_are_integers (T : Tx K mg) : Cl P w K mg base CX0 1 "are_integers" (sp_are K) [] := by
  obtain ⟨fd, F⟩ := T.f_are_integers
  refine ⟨_, fd, ["value", "count"], [], ?_, T.g_are_integers, F.kp, F.bindsN (fun _ _ _ _ _ _ us hl => match us, hl with | [_, _], _ => rfl), .nil⟩
  refine F.ok sc_are_integers (fun vs H Q E h => ?_) (fun cdv A outer s H vs Q E hr h => ?_)
  · first | (obtain ⟨_, rfl, _⟩ := h; rfl) | (obtain ⟨_, _, rfl, _⟩ := h; rfl) | (obtain ⟨_, _, _, rfl, _⟩ := h; rfl) | (obtain ⟨_, _, _, _, rfl, _⟩ := h; rfl) | (obtain ⟨_, _, _, _, _, rfl, _⟩ := h; rfl) | (obtain ⟨_, _, _, _, _, _, rfl, _⟩ := h; rfl)
  · have hu := hu_of hr
    refine ⟨_, (PSs.nox (by exact (pss_cons (ps_if (PW.pt (pw_or (pt_not (pt_val (pe_callB (id := "isinstance") call_isi (by rfl) T.n_isinstance (by decide +kernel) (pa_cons (pv 0) (pa_cons (pe_bltn (v := .ty "tuple") rfl T.n_tuple (by decide +kernel) rfl) pa_nil))))) (pw_or1 (pt_cmpR op_ne (pe_callB (id := "len") call_len (by rfl) T.n_len (by decide +kernel) (pa_cons (pv 0) pa_nil)) (pv 1) (nomark _)))))
      (pss_one (ps_ret pe_bl))
      pss_nil)
      (pss_one (ps_ret (pe_callB (id := "all") (cr_all rfl) (by rfl) T.n_all (by decide +kernel) (pa_cons (pe_lc (own := [("number", 2)]) (g := gName 2) (by rfl) sc_are_integers.nd (pi_tup (pv 0)) (blkOk_by (own := [("number", 2)]) (N := ["value", "count", "number"]) (sc := defScope s_are_integers) (by decide +kernel)) (fun _ _ _ _ _ => (pg_name (i := 2) sc_are_integers.nd rfl (Or.inl rfl))) (fun _ _ _ _ _ => pts_nil) (fun _ _ _ _ _ => (pe_and (pe_callB (id := "isinstance") (show CallR _ _ (rIsi K) from call_isi) (by rfl) T.n_isinstance (by decide +kernel) (pa_cons (pv 2) (pa_cons (pe_bltn (v := .ty "int") rfl T.n_int (by decide +kernel) rfl) pa_nil))) (pe_one (pe_not (pe_callB (id := "isinstance") (show CallR _ _ (rIsi K) from call_isi) (by rfl) T.n_isinstance (by decide +kernel) (pa_cons (pv 2) (pa_cons (pe_bltn (v := .ty "bool") rfl T.n_bool (by decide +kernel) rfl) pa_nil)))))))) pa_nil))))))), ?_⟩
    obtain ⟨a, ns, rfl, ht, hn, q⟩ := h
    rw [show L2.start ["value", "count", "number"] [V.ref a, V.int ns.length] = [some (.ref a), some (.int ns.length), none] from rfl]
    walk_at "kx"
    walk_at "go"
    refine vIsi (tyT ht) (by rfl) ?_
    walk_at "go"
    refine vLenT ht ?_
    walk_at "go"
    refine ifF (by simp) ?_
    walk_at "go"
    refine ⟨⟨_, ht.sq⟩, vBlk K (fun v => match v with | .int _ => some (.bool true) | _ => none) (src_tup ht) (by rw [List.length_map, sizeLine_eq]; omega) (fun D x H' R R0 hx _ _ hR _ => ?_) (fun D H' ys hD hc hy im => ?_)⟩
    · obtain ⟨i, _, rfl⟩ := List.mem_map.mp hx
      walk_at "go"
      refine vIsi (.base (.int i)) (by rfl) ?_
      walk_at "go"
      refine vIsi (.base (.int i)) (by rfl) ?_
      walk_at "go"
      exact hR _ _ _ (Ch.refl _ _) rfl (.bl _)
    · have e : (ns.map V.int).filterMap (fun v => match v with | .int _ => some (PyData.bool true) | _ => none) = (ns.map fun _ => true).map PyData.bool := by
        rw [List.filterMap_map, List.map_map]
        exact (List.filterMap_eq_map (f := fun _ : Int => PyData.bool true) ▸ rfl)
      rw [e] at im
      cases imBls im
      walk_at "go"
      refine vAll hy ?_
      have e2 : (ns.map fun _ => true).all id = true := by simp
      rw [e2]
      exact q _ hc
def sp_common : Sp := fun vs H Q _ => ∃ a b : Int, vs = [.int a, .int b] ∧ Q (.int (Int.gcd a b : Int)) H
abbrev s_common_divisor : Stmt := (top 5)
theorem sc_common_divisor : FnScope ["one", "other"] ["one", "other"] (defScope s_common_divisor) := ⟨rfl, rfl, rfl, by decide +kernel, rfl, by decide +kernel, by decide +kernel⟩
theorem ok_common_divisor (T : Tx K mg) : Cl P w K mg base CX0 1 "common_divisor" sp_common [] := by
  obtain ⟨fd, F⟩ := T.f_common_divisor
  refine ⟨_, fd, ["one", "other"], [], ?_, T.g_common_divisor, F.kp, F.bindsN (fun _ _ _ _ _ _ us hl => match us, hl with | [_, _], _ => rfl), .nil⟩
  refine F.ok sc_common_divisor (fun vs H Q E h => ?_) (fun cdv A outer s H vs Q E hr h => ?_)
  · first | (obtain ⟨_, rfl, _⟩ := h; rfl) | (obtain ⟨_, _, rfl, _⟩ := h; rfl) | (obtain ⟨_, _, _, rfl, _⟩ := h; rfl) | (obtain ⟨_, _, _, _, rfl, _⟩ := h; rfl) | (obtain ⟨_, _, _, _, _, rfl, _⟩ := h; rfl) | (obtain ⟨_, _, _, _, _, _, rfl, _⟩ := h; rfl)
  · have hu := hu_of hr
    refine ⟨_, (PSs.nox (by exact (pss_cons (ps_par (i := 0) (j := 1) (by rfl) sc_common_divisor.nd rfl rfl (by decide) rfl rfl (pa_cons (pe_callB (id := "abs") call_abs (by rfl) T.n_abs (by decide +kernel) (pa_cons (pv 0) pa_nil)) (pa_cons (pe_callB (id := "abs") call_abs (by rfl) T.n_abs (by decide +kernel) (pa_cons (pv 1) pa_nil)) pa_nil)) (by rfl))
      (pss_cons (ps_while PassesOwn.never (pt_cmpR op_ne (pv 1) pe_int (nomark _))
      (pss_one (ps_par (i := 0) (j := 1) (by rfl) sc_common_divisor.nd rfl rfl (by decide) rfl rfl (pa_cons (pv 1) (pa_cons (pe_op op_mod (pv 0) (pv 1)) pa_nil)) (by rfl))))
      (pss_one (ps_ret (pv 0))))))), ?_⟩
    obtain ⟨a, b, rfl, q⟩ := h
    rw [show L2.start ["one", "other"] [V.int a, V.int b] = [some (.int a), some (.int b)] from rfl]
    walk_at "go"
    refine vWhile (fun m σ H' => ∃ x y : Int, σ = [some (.int x), some (.int y)] ∧ 0 ≤ y ∧ Int.gcd x y = Int.gcd a b ∧ 0 ≤ x ∧ m = y.toNat ∧ H' = H) _
      ⟨_, _, rfl, by split <;> omega, by split <;> split <;> simp, by split <;> omega, rfl, rfl⟩ ?_
    rintro m σ H' ⟨x, y, rfl, hy, hg, hx, rfl, rfl⟩
    walk_at "go"
    refine iteB (fun e => ?_) (fun e => ?_)
    · have hy0 : y ≠ 0 := by simpa using e
      refine vTurn ?_
      walk_at "go"
      refine vI (by show 0 < y; omega) ?_
      walk_at "go"
      refine ⟨_, ?_, y, x % y, rfl, Int.emod_nonneg _ hy0, ?_, hy, rfl, rfl⟩
      · have := Int.emod_lt_of_pos x (show 0 < y by omega)
        have := Int.emod_nonneg x hy0
        omega
      · rw [← hg, Int.emod_def, Int.gcd_sub_mul_left_right, Int.gcd_comm]
    · have hy0 : y = 0 := by simpa using e
      walk_at "go"
      subst hy0
      have : (Int.gcd a b : Int) = x := by rw [← hg, Int.gcd_zero_right]; omega
      rw [← this]
      exact q
abbrev s__law_common : Stmt := (top 18)
theorem sc__law_common : FnScope ["one", "other"] ["one", "other"] (defScope s__law_common) := ⟨rfl, rfl, rfl, by decide +kernel, rfl, by decide +kernel, by decide +kernel⟩
theorem ok__law_common (T : Tx K mg) : Cl P w K mg base CX0 1 "_law_common" sp_common [] := by
  obtain ⟨fd, F⟩ := T.f__law_common
  refine ⟨_, fd, ["one", "other"], [], ?_, T.g__law_common, F.kp, F.bindsN (fun _ _ _ _ _ _ us hl => match us, hl with | [_, _], _ => rfl), .nil⟩
  refine F.ok sc__law_common (fun vs H Q E h => ?_) (fun cdv A outer s H vs Q E hr h => ?_)
  · first | (obtain ⟨_, rfl, _⟩ := h; rfl) | (obtain ⟨_, _, rfl, _⟩ := h; rfl) | (obtain ⟨_, _, _, rfl, _⟩ := h; rfl) | (obtain ⟨_, _, _, _, rfl, _⟩ := h; rfl) | (obtain ⟨_, _, _, _, _, rfl, _⟩ := h; rfl) | (obtain ⟨_, _, _, _, _, _, rfl, _⟩ := h; rfl)
  · have hu := hu_of hr
    refine ⟨_, (PSs.nox (by exact (pss_cons (ps_par (i := 0) (j := 1) (by rfl) sc__law_common.nd rfl rfl (by decide) rfl rfl (pa_cons (pe_callB (id := "abs") call_abs (by rfl) T.n_abs (by decide +kernel) (pa_cons (pv 0) pa_nil)) (pa_cons (pe_callB (id := "abs") call_abs (by rfl) T.n_abs (by decide +kernel) (pa_cons (pv 1) pa_nil)) pa_nil)) (by rfl))
      (pss_cons (ps_while PassesOwn.never (pt_cmpR op_ne (pv 1) pe_int (nomark _))
      (pss_one (ps_par (i := 0) (j := 1) (by rfl) sc__law_common.nd rfl rfl (by decide) rfl rfl (pa_cons (pv 1) (pa_cons (pe_op op_mod (pv 0) (pv 1)) pa_nil)) (by rfl))))
      (pss_one (ps_ret (pv 0))))))), ?_⟩
    obtain ⟨a, b, rfl, q⟩ := h
    rw [show L2.start ["one", "other"] [V.int a, V.int b] = [some (.int a), some (.int b)] from rfl]
    walk_at "go"
    refine vWhile (fun m σ H' => ∃ x y : Int, σ = [some (.int x), some (.int y)] ∧ 0 ≤ y ∧ Int.gcd x y = Int.gcd a b ∧ 0 ≤ x ∧ m = y.toNat ∧ H' = H) _
      ⟨_, _, rfl, by split <;> omega, by split <;> split <;> simp, by split <;> omega, rfl, rfl⟩ ?_
    rintro m σ H' ⟨x, y, rfl, hy, hg, hx, rfl, rfl⟩
    walk_at "go"
    refine iteB (fun e => ?_) (fun e => ?_)
    · have hy0 : y ≠ 0 := by simpa using e
      refine vTurn ?_
      walk_at "go"
      refine vI (by show 0 < y; omega) ?_
      walk_at "go"
      refine ⟨_, ?_, y, x % y, rfl, Int.emod_nonneg _ hy0, ?_, hy, rfl, rfl⟩
      · have := Int.emod_lt_of_pos x (show 0 < y by omega)
        have := Int.emod_nonneg x hy0
        omega
      · rw [← hg, Int.emod_def, Int.gcd_sub_mul_left_right, Int.gcd_comm]
    · have hy0 : y = 0 := by simpa using e
      walk_at "go"
      subst hy0
      have : (Int.gcd a b : Int) = x := by rw [← hg, Int.gcd_zero_right]; omega
      rw [← this]
      exact q
end
end K77

namespace K77
open PySem PySem.Spec PyProof.Rows L2 Fw
section
variable {P : Program} {w : World} {K : PySem.W.Frag} {mg : Str → Option Value} {base : Heap}
def sp_fmt (K : PySem.W.Frag) : Sp := fun vs H Q _ => ∃ (a : Addr) (p q : Int), vs = [.ref a] ∧ TpA K H a [.int p, .int q] ∧ p.natAbs.log2 < 1920 ∧ q.natAbs.log2 < 1920 ∧ Q (.str (Str.empty ++ (Str.ofString (toString p)) ++ "/" ++ Str.ofString (toString q))) H
abbrev s_format_value : Stmt := (top 10)
theorem sc_format_value : FnScope ["value"] ["value"] (defScope s_format_value) := ⟨rfl, rfl, rfl, by decide +kernel, rfl, by decide +kernel, by decide +kernel⟩
theorem ok_format_value (T : Tx K mg) : Cl P w K mg base CX0 1 "format_value" (sp_fmt K) [] := by
  obtain ⟨fd, F⟩ := T.f_format_value
  refine ⟨_, fd, ["value"], [], ?_, T.g_format_value, F.kp, F.bindsN (fun _ _ _ _ _ _ us hl => match us, hl with | [_], _ => rfl), .nil⟩
  refine F.ok sc_format_value (fun vs H Q E h => ?_) (fun cdv A outer s H vs Q E hr h => ?_)
  · first | (obtain ⟨_, rfl, _⟩ := h; rfl) | (obtain ⟨_, _, rfl, _⟩ := h; rfl) | (obtain ⟨_, _, _, rfl, _⟩ := h; rfl) | (obtain ⟨_, _, _, _, rfl, _⟩ := h; rfl) | (obtain ⟨_, _, _, _, _, rfl, _⟩ := h; rfl) | (obtain ⟨_, _, _, _, _, _, rfl, _⟩ := h; rfl)
  · have hu := hu_of hr
    refine ⟨_, (PSs.nox (by exact (pss_one (ps_ret (pe_joined (PJ.cons (pe_fmt (pe_ix ix_tup (pv 0) pe_int (fun _ _ => rfl))) (PJ.cons pe_str (PJ.cons (pe_fmt (pe_ix ix_tup (pv 0) pe_int (fun _ _ => rfl))) PJ.nil)))))))), ?_⟩
    obtain ⟨a, p, q, rfl, ht, hp, hq, qq⟩ := h
    rw [show L2.start ["value"] [V.ref a] = [some (.ref a)] from rfl]
    have l1 := intTxt hp
    have l2 := intTxt hq
    have l0 : Str.empty.length = 0 := rfl
    have l3 : (Str.ofString "/").length = 1 := rfl
    walk_at "kx"
    walk_at "go"
    refine vIxT ht.sq atI_0 (vFmtI hp (vJs1 ?_ ?_))
    · rw [len_app, sizeLine_eq]; omega
    walk_at "go"
    refine ⟨?_, ?_⟩
    · rw [len_app, len_app, sizeLine_eq]; omega
    walk_at "go"
    refine vIxT ht.sq atI_1 (vFmtI hq (vJs1 ?_ ?_))
    · rw [len_app, len_app, len_app, sizeLine_eq]; omega
    walk_at "go"
    exact qq
theorem numIn_none {l : List Nat} (h : ¬ (1 ≤ l.length ∧ l.length ≤ 60 ∧ l.all isDg = true ∧ (l = [48] ∨ l.head? ≠ some 48))) : numIn l = none := if_neg h
theorem numIn_some {l : List Nat} (h : 1 ≤ l.length ∧ l.length ≤ 60 ∧ l.all isDg = true ∧ (l = [48] ∨ l.head? ≠ some 48)) : numIn l = some ((NumText.digitsVal l : Nat) : Int) := if_pos h
theorem sg_zero : sg "0" = [48] := by decide +kernel
theorem sg_one (c : Nat) : sg ⟨#[c]⟩ = [c] := rfl
theorem head_atI {z : Str} (h : 1 ≤ z.length) : ∃ c r, sg z = c :: r ∧ atI z.cps.toList 0 = some c := by
  cases e : sg z with
  | nil =>
    have := sg_len z
    rw [e] at this
    exact absurd this (by simp; omega)
  | cons c r =>
    refine ⟨c, r, rfl, ?_⟩
    show atI (sg z) 0 = some c
    rw [e]
    exact atI_0
def fDg : V → Option PyData := fun v => match v with | .str s => some (.bool ((sg s).all isDg)) | _ => none
theorem signs_len (z : Str) : (sgV z).length = z.length := by unfold sgV; rw [List.length_map]; exact sg_len z
theorem fDg_signs (z : Str) : (sgV z).filterMap fDg = ((sg z).map isDg).map PyData.bool := by
  unfold sgV
  rw [List.filterMap_map, List.map_map, ← List.filterMap_eq_map]
  congr 1
  funext c
  show some (PyData.bool ([c].all isDg)) = some (PyData.bool (isDg c))
  simp
theorem all_map_id (l : List Nat) (p : Nat → Bool) : (l.map p).all id = l.all p := by rw [List.all_map]; rfl
def sp_num : Sp := fun vs H Q _ => ∃ (z : Str), vs = [.str z] ∧ z.length ≤ 1000000 ∧ ∀ H', Ch [] H H' → Q (oV (numIn (sg z))) H'
abbrev s_number_in : Stmt := (top 11)
theorem sc_number_in : FnScope ["word", "sign"] ["word"] (defScope s_number_in) := ⟨rfl, rfl, rfl, by decide +kernel, rfl, by decide +kernel, by decide +kernel⟩
theorem ok_number_in (T : Tx K mg) : Cl P w K mg base CX0 1 "number_in" sp_num [] := by
  obtain ⟨fd, F⟩ := T.f_number_in
  refine ⟨_, fd, ["word"], [], ?_, T.g_number_in, F.kp, F.bindsN (fun _ _ _ _ _ _ us hl => match us, hl with | [_], _ => rfl), .nil⟩
  refine F.ok sc_number_in (fun vs H Q E h => ?_) (fun cdv A outer s H vs Q E hr h => ?_)
  · first | (obtain ⟨_, rfl, _⟩ := h; rfl) | (obtain ⟨_, _, rfl, _⟩ := h; rfl) | (obtain ⟨_, _, _, rfl, _⟩ := h; rfl) | (obtain ⟨_, _, _, _, rfl, _⟩ := h; rfl) | (obtain ⟨_, _, _, _, _, rfl, _⟩ := h; rfl) | (obtain ⟨_, _, _, _, _, _, rfl, _⟩ := h; rfl)
  · have hu := hu_of hr
    refine ⟨_, (PSs.nox (by exact (pss_cons (ps_if (PW.pt (pw_or (pt_not (pt_chain op_le op_le pe_int (pe_callB (id := "len") call_len (by rfl) T.n_len (by decide +kernel) (pa_cons (pv 0) pa_nil)) (C8.pe_gc rfl T.c_MAX_DIGITS))) (pw_or1 (pt_not (pt_val (pe_callB (id := "all") (cr_all rfl) (by rfl) T.n_all (by decide +kernel) (pa_cons (pe_lc (own := [("sign", 1)]) (g := gName 1) (by rfl) sc_number_in.nd (pi_str (pv 0)) (blkOk_by (own := [("sign", 1)]) (N := ["word", "sign"]) (sc := defScope s_number_in) (by decide +kernel)) (fun _ _ _ _ _ => (pg_name (i := 1) sc_number_in.nd rfl (Or.inl rfl))) (fun _ _ _ _ _ => pts_nil) (fun _ _ _ _ _ => (pe_cmpR op_in_sign (pv 1) (C8.pe_gc rfl T.c_DIGITS) rfl))) pa_nil)))))))
      (pss_one (ps_ret pe_non))
      pss_nil)
      (pss_one (ps_ret (pe_ifExp (PW.pt (pw_or (pt_cmpR op_eq (pv 0) pe_str (nomark _)) (pw_or1 (pt_cmpR op_ne (pe_ix ix_str (pv 0) pe_int (fun _ _ => rfl)) pe_str (nomark _))))) (pe_callTy (T := "int") call_int_str (by rfl) T.n_int (by decide +kernel) (pa_cons (pv 0) pa_nil)) pe_non)))))), ?_⟩
    obtain ⟨z, rfl, hz, q⟩ := h
    rw [show L2.start ["word", "sign"] [V.str z] = [some (.str z), none] from rfl]
    have hl := sg_len z
    have no : ∀ {H'}, Ch [] H H' → ¬ (1 ≤ (sg z).length ∧ (sg z).length ≤ 60 ∧ (sg z).all isDg = true ∧ (sg z = [48] ∨ (sg z).head? ≠ some 48)) → Q .non H' := fun c h => by
      have := q _ c
      rw [numIn_none h] at this
      exact this
    walk_at "kx"
    walk_at "go"
    refine vLenS (szl hz) ?_
    walk_at "go"
    refine iteB (fun c1 => ?_) (fun c1 => ?_)
    · walk_at "go"
      refine iteB (fun c2 => ?_) (fun c2 => ?_)
      · walk_at "go"
        refine no (Ch.refl _ _) fun h => ?_
        simp at c2
        omega
      · walk_at "go"
        refine vBlk K fDg src_str (by rw [signs_len, sizeLine_eq]; omega) (fun D x H' R R0 hx _ _ hR _ => ?_) (fun D H' ys hD hc hy im => ?_)
        · obtain ⟨c, _, rfl⟩ := List.mem_map.mp hx
          walk_at "go"
          exact hR _ _ _ (Ch.refl _ _) (by show some (PyData.bool ([c].all isDg)) = _; rw [mem_digits]; simp) (.bl _)
        · rw [fDg_signs] at im
          cases imBls im
          walk_at "go"
          refine vAll hy ?_
          rw [all_map_id]
          walk_at "go"
          refine iteB (fun c3 => ?_) (fun c3 => ?_)
          · walk_at "go"
            refine no hc fun h => ?_
            rw [h.2.2.1] at c3
            cases c3
          · have hd : (sg z).all isDg = true := by simpa using c3
            have hl1 : 1 ≤ z.length := by simp at c1; omega
            have hl2 : z.length ≤ 60 := by simp at c2; omega
            have yes : (sg z = [48] ∨ (sg z).head? ≠ some 48) → Q (.int (NumText.digitsVal (sg z) : Nat)) H' := fun h => by
              have := q _ hc
              rw [numIn_some ⟨by omega, by omega, hd, h⟩] at this
              exact this
            have ht : PySem.intText? z = some ((NumText.digitsVal (sg z) : Nat) : Int) := intText_digits (all_dg.mp hd) (fun e => by rw [show sg z = [] from e] at hl; simp at hl; omega) (by omega)
            obtain ⟨c, r, e, a0⟩ := head_atI hl1
            walk_at "go"
            rw [str_dec, sg_zero]
            refine iteB (fun c4 => ?_) (fun c4 => ?_)
            · walk_at "go"
              refine vIntS ht (by omega) (yes (.inl (of_decide_eq_true c4)))
            · walk_at "go"
              refine vIxS (szl hz) a0 ?_
              walk_at "go"
              rw [str_dec, sg_zero, sg_one]
              refine iteB (fun c5 => ?_) (fun c5 => ?_)
              · walk_at "go"
                refine vIntS ht (by omega) (yes (.inr ?_))
                rw [e]
                simpa using c5
              · walk_at "go"
                refine no hc fun h => ?_
                rcases h.2.2.2 with h | h
                · exact absurd h (of_decide_eq_false c4)
                · rw [e] at h
                  simp at c5 h
                  exact h c5
    · walk_at "go"
      refine no (Ch.refl _ _) fun h => ?_
      simp at c1
      omega
end
end K77

namespace K77
open PySem PySem.Spec PyProof.Rows L2 Fw
section
variable {P : Program} {w : World} {K : PySem.W.Frag} {mg : Str → Option Value} {base : Heap}
theorem sg_minus : sg "-" = [45] := by decide +kernel
def sp_sgn : Sp := fun vs H Q _ => ∃ (z : Str), vs = [.str z] ∧ z.length ≤ 1000000 ∧ ∀ H', Ch [] H H' → Q (oV (sgnIn (sg z))) H'
theorem sgn_plain {l : List Nat} (h : l.take 1 ≠ [45]) : sgnIn l = numIn l := if_neg h
theorem sgn_minus {l : List Nat} (h : l.take 1 = [45]) : sgnIn l = (match numIn (l.drop 1) with | some n => if 0 < n then some (-n) else none | none => none) := if_pos h
abbrev s_signed_number_in : Stmt := (top 12)
theorem sc_signed_number_in : FnScope ["word", "number"] ["word"] (defScope s_signed_number_in) := ⟨rfl, rfl, rfl, by decide +kernel, rfl, by decide +kernel, by decide +kernel⟩
theorem ok_signed_number_in (T : Tx K mg) (c_number_in : Cl P w K mg base CX0 1 "number_in" sp_num []) : Cl P w K mg base CX0 2 "signed_number_in" sp_sgn [] := by
  obtain ⟨fd, F⟩ := T.f_signed_number_in
  refine ⟨_, fd, ["word"], [], ?_, T.g_signed_number_in, F.kp, F.bindsN (fun _ _ _ _ _ _ us hl => match us, hl with | [_], _ => rfl), .nil⟩
  refine F.ok sc_signed_number_in (fun vs H Q E h => ?_) (fun cdv A outer s H vs Q E hr h => ?_)
  · first | (obtain ⟨_, rfl, _⟩ := h; rfl) | (obtain ⟨_, _, rfl, _⟩ := h; rfl) | (obtain ⟨_, _, _, rfl, _⟩ := h; rfl) | (obtain ⟨_, _, _, _, rfl, _⟩ := h; rfl) | (obtain ⟨_, _, _, _, _, rfl, _⟩ := h; rfl) | (obtain ⟨_, _, _, _, _, _, rfl, _⟩ := h; rfl)
  · have hu := hu_of hr
    refine ⟨_, (PSs.nox (by exact (pss_cons (ps_if (pt_cmpR op_ne (pe_slice sl_str (pv 0) po_none (po_some pe_int)) pe_str (nomark _))
      (pss_one (ps_ret (pcl c_number_in (hr.mono (by decide)) pass0 (pa_cons (pv 0) pa_nil))))
      pss_nil)
      (pss_cons (ps_set (i := 1) sc_signed_number_in.nd rfl (Or.inl rfl) (pcl c_number_in (hr.mono (by decide)) pass0 (pa_cons (pe_slice sl_str (pv 0) (po_some pe_int) po_none) pa_nil)))
      (pss_one (ps_ret (pe_ifExp (PW.pt (pw_and (pt_cmpR op_notN (pv 1) pe_non (nomark _)) (pw_and1 (pt_cmpR op_gt (pv 1) pe_int (nomark _))))) (pe_un un_neg (pv 1)) pe_non))))))), ?_⟩
    obtain ⟨z, rfl, hz, q⟩ := h
    rw [show L2.start ["word", "number"] [V.str z] = [some (.str z), none] from rfl]
    walk_at "kx"
    walk_at "go"
    refine ⟨szl hz, ?_⟩
    walk_at "go"
    rw [str_dec, sg_minus, cut_to z (by omega)]
    refine iteB (fun c1 => ?_) (fun c1 => ?_)
    · have c1 : (sg z).take 1 ≠ [45] := by simpa using c1
      walk_at "go"
      refine ⟨hz, fun H' hc => ?_⟩
      have := q H' hc
      rw [sgn_plain c1] at this
      exact this
    · have c1 : (sg z).take 1 = [45] := by simpa using c1
      walk_at "go"
      refine ⟨szl hz, ?_⟩
      walk_at "go"
      refine ⟨Nat.le_trans (cutS_length z _ _) hz, fun H' hc => ?_⟩
      rw [cut_from z (by omega), show (1 : Int).toNat = 1 from rfl]
      have q' := q H' hc
      rw [sgn_minus c1] at q'
      generalize numIn ((sg z).drop 1) = o at q' ⊢
      cases o with
      | none =>
        dsimp only [oV]
        walk_at "go"
        refine ifF (by rfl) ?_
        walk_at "go"
        exact q'
      | some n =>
        dsimp only at q'
        dsimp only [oV]
        walk_at "go"
        refine iteB (fun c2 => ?_) (fun c2 => ?_)
        · walk_at "go"
          rw [if_pos (of_decide_eq_true c2)] at q'
          exact q'
        · walk_at "go"
          rw [if_neg (of_decide_eq_false c2)] at q'
          exact q'
theorem sgn_of_neg {p : List Nat} (hp : p.all isDg = true) (h1 : 1 ≤ p.length) (h2 : p.length ≤ 60) : sgnIn (45 :: p) = if sg (Str.ofString (toString (-((NumText.digitsVal p : Nat) : Int)))) = 45 :: p then some (-((NumText.digitsVal p : Nat) : Int)) else none := by
  have hd := all_dg.mp hp
  have hne : p ≠ [] := fun e => by rw [e] at h1; simp at h1
  rw [sgn_minus rfl]
  show (match numIn p with | some n => if 0 < n then some (-n) else none | none => none) = _
  rcases Nat.eq_zero_or_pos (NumText.digitsVal p) with z | z
  · have e0 : sg (Str.ofString (toString (-((0 : Nat) : Int)))) = [48] := by decide +kernel
    rw [z, if_neg (fun e => by rw [e0] at e; exact absurd (List.cons.inj e).1 (by decide))]
    by_cases c : p = [48] ∨ p.head? ≠ some 48
    · rw [numIn_some ⟨h1, h2, hp, c⟩, z]
      rfl
    · rw [numIn_none (fun h => c h.2.2.2)]
  · rw [sg_neg z]
    by_cases c : p = [48] ∨ p.head? ≠ some 48
    · rw [numIn_some ⟨h1, h2, hp, c⟩, if_pos (by rw [(numL_iff hd hne).mpr c])]
      exact if_pos (by omega)
    · rw [numIn_none (fun h => c h.2.2.2), if_neg (fun e => c ((numL_iff hd hne).mp (List.cons.inj e).2))]
theorem sgn_of_pos {p : List Nat} (hm : p.take 1 ≠ [45]) (hp : p.all isDg = true) (h1 : 1 ≤ p.length) (h2 : p.length ≤ 60) : sgnIn p = if sg (Str.ofString (toString ((NumText.digitsVal p : Nat) : Int))) = p then some ((NumText.digitsVal p : Nat) : Int) else none := by
  have hd := all_dg.mp hp
  have hne : p ≠ [] := fun e => by rw [e] at h1; simp at h1
  rw [sgn_plain hm, sg_nat]
  by_cases c : p = [48] ∨ p.head? ≠ some 48
  · rw [numIn_some ⟨h1, h2, hp, c⟩, if_pos ((numL_iff hd hne).mpr c)]
  · rw [numIn_none (fun h => c h.2.2.2), if_neg (fun e => c ((numL_iff hd hne).mp e))]
theorem sgn_bad {l p : List Nat} (h : (l.take 1 = [45] ∧ p = l.drop 1) ∨ (l.take 1 ≠ [45] ∧ p = l)) (hb : ¬ (p.all isDg = true ∧ 1 ≤ p.length ∧ p.length ≤ 60)) : sgnIn l = none := by
  have n : numIn p = none := numIn_none fun h => hb ⟨h.2.2.1, h.1, h.2.1⟩
  rcases h with ⟨h1, rfl⟩ | ⟨h1, rfl⟩
  · rw [sgn_minus h1, n]
  · rw [sgn_plain h1, n]
def fNd : V → Option PyData := fun v => match v with | .str s => if (sg s).all isDg = true then none else some (.str s) | _ => none
theorem fNd_sgV (z : Str) : (sgV z).filterMap fNd = [] ↔ (sg z).all isDg = true := by
  unfold sgV
  rw [List.filterMap_map, List.filterMap_eq_nil_iff]
  constructor
  · intro h
    rw [List.all_eq_true]
    intro c hc
    have := h c hc
    by_cases d : isDg c = true
    · exact d
    · have e : (fNd ∘ fun c => V.str ⟨#[c]⟩) c = some (.str ⟨#[c]⟩) := if_neg (by simpa using d)
      rw [e] at this
      cases this
  · intro h c hc
    exact if_pos (by simpa using List.all_eq_true.mp h c hc)
theorem sgV_len (z : Str) : (sgV z).length = z.length := by unfold sgV; rw [List.length_map]; exact sg_len z
theorem val_lt0 : ∀ (l : List Nat) (acc : Nat), NumText.AllDigits l → l.foldl (fun acc c => acc * 10 + (c - 48)) acc < (acc + 1) * 10 ^ l.length
  | [], acc, _ => by simp
  | c :: r, acc, h => by
    have hc := h.head
    have ih := val_lt0 r (acc * 10 + (c - 48)) h.tail
    rw [List.foldl_cons, List.length_cons, Nat.pow_succ]
    refine Nat.lt_of_lt_of_le ih ?_
    have e : (acc + 1) * (10 ^ r.length * 10) = ((acc + 1) * 10) * 10 ^ r.length := by rw [Nat.mul_comm (10 ^ r.length) 10, Nat.mul_assoc]
    rw [e]
    exact Nat.mul_le_mul_right _ (by omega)
theorem val_lt {p : List Nat} (h : NumText.AllDigits p) : NumText.digitsVal p < 10 ^ p.length := by
  have e := val_lt0 p 0 h
  rw [Nat.zero_add, Nat.one_mul] at e
  exact e
theorem val_log {p : List Nat} (h : NumText.AllDigits p) (l : p.length ≤ 60) : (NumText.digitsVal p).log2 < 1920 := by
  have h1 := val_lt h
  have h2 : 10 ^ p.length ≤ 10 ^ 60 := Nat.pow_le_pow_right (by omega) l
  have h3 : NumText.digitsVal p < 2 ^ 1920 := by
    refine Nat.lt_trans (Nat.lt_of_lt_of_le h1 h2) ?_
    decide +kernel
  rcases Nat.eq_zero_or_pos (NumText.digitsVal p) with z | z
  · rw [z]; decide
  · exact (Nat.log2_lt (by omega)).mpr h3
/-- what int(word) is and what str says of it -/
theorem word_neg {z p : Str} (h : sg z = 45 :: sg p) (hd : (sg p).all isDg = true) (h1 : 1 ≤ (sg p).length) (h2 : p.length ≤ 60) :
    ∃ n : Int, PySem.intText? z = some n ∧ sgnIn (sg z) = (if sg (Str.ofString (toString n)) = sg z then some n else none) ∧ n.natAbs.log2 < 1920 ∧ z.length ≤ 61 := by
  have d := all_dg.mp hd
  have l1 := sg_len z
  have l2 := sg_len p
  rw [h, List.length_cons] at l1
  have ne : sg p ≠ [] := fun e => by rw [e] at h1; simp at h1
  refine ⟨-((NumText.digitsVal (sg p) : Nat) : Int), intText_neg h d ne (by omega), ?_, ?_, by omega⟩
  · rw [h]; exact sgn_of_neg hd h1 (by omega)
  · rw [Int.natAbs_neg, Int.natAbs_natCast]; exact val_log d (by omega)
theorem word_pos {z : Str} (h : (sg z).take 1 ≠ [45]) (hd : (sg z).all isDg = true) (h1 : 1 ≤ (sg z).length) (h2 : z.length ≤ 60) :
    ∃ n : Int, PySem.intText? z = some n ∧ sgnIn (sg z) = (if sg (Str.ofString (toString n)) = sg z then some n else none) ∧ n.natAbs.log2 < 1920 ∧ z.length ≤ 61 := by
  have d := all_dg.mp hd
  have l1 := sg_len z
  have ne : sg z ≠ [] := fun e => by rw [e] at h1; simp at h1
  refine ⟨((NumText.digitsVal (sg z) : Nat) : Int), intText_digits d ne (by omega), sgn_of_pos h hd h1 (by omega), ?_, by omega⟩
  rw [Int.natAbs_natCast]; exact val_log d (by omega)
theorem take1 {l : List Nat} {c : Nat} (h : l.take 1 = [c]) : l = c :: l.drop 1 := by
  cases l with
  | nil => cases h
  | cons a r => simp at h; rw [h]; rfl
def sp_lnum : Sp := fun vs H Q _ => ∃ (z : Str), vs = [.str z] ∧ z.length ≤ 1000000 ∧ okS (sg z) ∧ ∀ H', Ch [] H H' → Q (oV (sgnIn (sg z))) H'
abbrev s__law_number : Stmt := (top 20)
theorem sc__law_number : FnScope ["word", "plain", "sign"] ["word"] (defScope s__law_number) := ⟨rfl, rfl, rfl, by decide +kernel, rfl, by decide +kernel, by decide +kernel⟩
theorem ok__law_number (T : Tx K mg) : Cl P w K mg base CX0 1 "_law_number" sp_lnum [] := by
  obtain ⟨fd, F⟩ := T.f__law_number
  refine ⟨_, fd, ["word"], [], ?_, T.g__law_number, F.kp, F.bindsN (fun _ _ _ _ _ _ us hl => match us, hl with | [_], _ => rfl), .nil⟩
  refine F.ok sc__law_number (fun vs H Q E h => ?_) (fun cdv A outer s H vs Q E hr h => ?_)
  · first | (obtain ⟨_, rfl, _⟩ := h; rfl) | (obtain ⟨_, _, rfl, _⟩ := h; rfl) | (obtain ⟨_, _, _, rfl, _⟩ := h; rfl) | (obtain ⟨_, _, _, _, rfl, _⟩ := h; rfl) | (obtain ⟨_, _, _, _, _, rfl, _⟩ := h; rfl) | (obtain ⟨_, _, _, _, _, _, rfl, _⟩ := h; rfl)
  · have hu := hu_of hr
    refine ⟨_, (PSs.nox (by exact (pss_cons (ps_set (i := 1) sc__law_number.nd rfl (Or.inl rfl) (pe_ifExp (pt_cmpR op_eq (pe_slice sl_str (pv 0) po_none (po_some pe_int)) pe_str (nomark _)) (pe_slice sl_str (pv 0) (po_some pe_int) po_none) (pv 0)))
      (pss_cons (ps_if (PW.pt (pw_or (pt_cmpR op_eq (pv 1) pe_str (nomark _)) (pw_or (pt_cmpR op_gt (pe_callB (id := "len") call_len (by rfl) T.n_len (by decide +kernel) (pa_cons (pv 1) pa_nil)) pe_int (nomark _)) (pw_or1 (pt_cmpR (op_neD hr.units) (pe_lc (own := [("sign", 2)]) (g := gName 2) (by rfl) sc__law_number.nd (pi_str (pv 1)) (blkOk_by (own := [("sign", 2)]) (N := ["word", "plain", "sign"]) (sc := defScope s__law_number) (by decide +kernel)) (fun _ _ _ _ _ => (pg_name (i := 2) sc__law_number.nd rfl (Or.inl rfl))) (fun _ _ _ _ _ => (pts_one (pt_cmpR op_notIn_sign (pv 2) pe_str rfl))) (fun _ _ _ _ _ => (pv 2))) (pe_lst pa_nil) (nomark _))))))
      (pss_one (ps_ret pe_non))
      pss_nil)
      (pss_one (ps_ret (pe_ifExp (pt_cmpR op_eq (pe_callTy (T := "str") call_str_int (by rfl) T.n_str (by decide +kernel) (pa_cons (pe_callTy (T := "int") call_int_str (by rfl) T.n_int (by decide +kernel) (pa_cons (pv 0) pa_nil)) pa_nil)) (pv 0) (nomark _)) (pe_callTy (T := "int") call_int_str (by rfl) T.n_int (by decide +kernel) (pa_cons (pv 0) pa_nil)) pe_non))))))), ?_⟩
    obtain ⟨z, rfl, hz, ok, q⟩ := h
    rw [show L2.start ["word", "plain", "sign"] [V.str z] = [some (.str z), none, none] from rfl]
    have no : ∀ {H'}, Ch [] H H' → sgnIn (sg z) = none → Q .non H' := fun c h => by
      have := q _ c
      rw [h] at this
      exact this
    walk_at "kx"
    walk_at "go"
    refine ⟨szl hz, ?_⟩
    walk_at "go"
    rw [str_dec, sg_minus, cut_to z (by omega)]
    refine iteB (fun c1 => ?_) (fun c1 => ?_)
    · have c1 : (sg z).take 1 = [45] := of_decide_eq_true c1
      walk_at "go"
      refine ⟨szl hz, ?_⟩
      walk_at "go"
      have hp1 : sg (cutS z (some 1) none) = (sg z).drop 1 := cut_from z (by omega)
      have hp2 : (cutS z (some 1) none).length ≤ 1000000 := Nat.le_trans (cutS_length z _ _) hz
      generalize cutS z (some 1) none = p at hp1 hp2 ⊢
      refine iteB (fun c2 => ?_) (fun c2 => ?_)
      · walk_at "go"
        refine no (Ch.refl _ _) (sgn_bad (.inl ⟨c1, hp1⟩) fun h => ?_)
        have e := of_decide_eq_true c2
        rw [V.str.inj e] at h
        exact absurd h.2.1 (by decide +kernel)
      · have np : 1 ≤ (sg p).length := by
          rcases Nat.eq_zero_or_pos (sg p).length with z0 | z0
          · refine absurd (congrArg V.str (sg_inj (x := p) (y := "") ?_)) (of_decide_eq_false c2)
            rw [List.eq_nil_of_length_eq_zero z0]
            decide +kernel
          · exact z0
        walk_at "go"
        refine vLenS (szl hp2) ?_
        walk_at "go"
        have lp := sg_len p
        refine iteB (fun c3 => ?_) (fun c3 => ?_)
        · walk_at "go"
          refine no (Ch.refl _ _) (sgn_bad (.inl ⟨c1, hp1⟩) fun h => ?_)
          have := of_decide_eq_true c3
          omega
        · have l60 : p.length ≤ 60 := by
            have := of_decide_eq_false c3
            omega
          walk_at "go"
          refine vBlk K fNd src_str (by have := sgV_len p; rw [sizeLine_eq]; omega) (fun D x H' R R0 hx _ _ hR hR0 => ?_) (fun D H' ys hD hc hy im => ?_)
          · obtain ⟨c, _, rfl⟩ := List.mem_map.mp hx
            walk_at "go"
            rw [mem_digits]
            have e1 : (sg (⟨#[c]⟩ : Str)).all isDg = isDg c := by show [c].all isDg = _; simp
            refine iteB (fun d => ?_) (fun d => ?_)
            · walk_at "go"
              exact hR _ _ _ (Ch.refl _ _) (if_neg (by rw [e1]; simpa using d)) (.str _)
            · walk_at "go"
              exact hR0 _ (Ch.refl _ _) (if_pos (by rw [e1]; simpa using d))
          · walk_at "go"
            refine ⟨by simp, fun pl hpl => ?_⟩
            have c4 : Ch [] H (upd H' pl (.lst [])) := hc.trans (Ch.alloc hpl _)
            have im2 := im.mono (Tl.alloc hpl (.lst []))
            have flat : ((sgV p).filterMap fNd).all fl = true := by
              rw [List.all_eq_true]
              intro d hd
              obtain ⟨v, hv, e⟩ := List.mem_filterMap.mp hd
              obtain ⟨c, hcm, rfl⟩ := List.mem_map.mp hv
              have e3 : (if (sg (⟨#[c]⟩ : Str)).all isDg = true then none else some (PyData.str ⟨#[c]⟩)) = some d := e
              by_cases q : (sg (⟨#[c]⟩ : Str)).all isDg = true
              · rw [if_pos q] at e3; cases e3
              · rw [if_neg q] at e3
                cases e3
                exact okS.ok (z := ⟨#[c]⟩) fun b hb => (fun b hb => ok b (List.mem_of_mem_drop (by rw [← hp1]; exact hb))) b (by rw [List.mem_singleton.mp hb]; exact hcm)
            refine ⟨_, _, .lst (.inl (.inl (by rw [upd_ne (ne_of_none hy hpl)]; exact hy))) im2.dp, .lst (.inl (.inl upd_same)) .nil, shaped_list flat, shaped_list rfl, ?_⟩
            rw [eqv_nil]
            walk_at "go"
            refine iteB (fun c5 => ?_) (fun c5 => ?_)
            · walk_at "go"
              refine no c4 (sgn_bad (.inl ⟨c1, hp1⟩) fun h => ?_)
              rw [(fNd_sgV p).mpr h.1] at c5
              cases c5
            · have hd : (sg p).all isDg = true := (fNd_sgV p).mp (by simpa using c5)
              walk_at "go"
              have key := word_neg (z := z) (p := p) (by rw [hp1]; exact take1 c1) hd np l60
              obtain ⟨n, e1, e2, e3, e4⟩ := key
              refine vIntS e1 (by omega) ?_
              walk_at "go"
              refine ⟨e3, ?_⟩
              walk_at "go"
              rw [str_dec]
              have q' := q _ c4
              rw [e2] at q'
              refine iteB (fun c6 => ?_) (fun c6 => ?_)
              · walk_at "go"
                rw [if_pos (of_decide_eq_true c6)] at q'
                exact vIntS e1 (by omega) q'
              · walk_at "go"
                rw [if_neg (of_decide_eq_false c6)] at q'
                exact q'
    · have c1 : (sg z).take 1 ≠ [45] := of_decide_eq_false c1
      walk_at "go"
      refine iteB (fun c2 => ?_) (fun c2 => ?_)
      · walk_at "go"
        refine no (Ch.refl _ _) (sgn_bad (.inr ⟨c1, rfl⟩) fun h => ?_)
        have e := of_decide_eq_true c2
        rw [V.str.inj e] at h
        exact absurd h.2.1 (by decide +kernel)
      · have np : 1 ≤ (sg z).length := by
          rcases Nat.eq_zero_or_pos (sg z).length with z0 | z0
          · refine absurd (congrArg V.str (sg_inj (x := z) (y := "") ?_)) (of_decide_eq_false c2)
            rw [List.eq_nil_of_length_eq_zero z0]
            decide +kernel
          · exact z0
        walk_at "go"
        refine vLenS (szl hz) ?_
        walk_at "go"
        have lp := sg_len z
        refine iteB (fun c3 => ?_) (fun c3 => ?_)
        · walk_at "go"
          refine no (Ch.refl _ _) (sgn_bad (.inr ⟨c1, rfl⟩) fun h => ?_)
          have := of_decide_eq_true c3
          omega
        · have l60 : z.length ≤ 60 := by
            have := of_decide_eq_false c3
            omega
          walk_at "go"
          refine vBlk K fNd src_str (by have := sgV_len z; rw [sizeLine_eq]; omega) (fun D x H' R R0 hx _ _ hR hR0 => ?_) (fun D H' ys hD hc hy im => ?_)
          · obtain ⟨c, _, rfl⟩ := List.mem_map.mp hx
            walk_at "go"
            rw [mem_digits]
            have e1 : (sg (⟨#[c]⟩ : Str)).all isDg = isDg c := by show [c].all isDg = _; simp
            refine iteB (fun d => ?_) (fun d => ?_)
            · walk_at "go"
              exact hR _ _ _ (Ch.refl _ _) (if_neg (by rw [e1]; simpa using d)) (.str _)
            · walk_at "go"
              exact hR0 _ (Ch.refl _ _) (if_pos (by rw [e1]; simpa using d))
          · walk_at "go"
            refine ⟨by simp, fun pl hpl => ?_⟩
            have c4 : Ch [] H (upd H' pl (.lst [])) := hc.trans (Ch.alloc hpl _)
            have im2 := im.mono (Tl.alloc hpl (.lst []))
            have flat : ((sgV z).filterMap fNd).all fl = true := by
              rw [List.all_eq_true]
              intro d hd
              obtain ⟨v, hv, e⟩ := List.mem_filterMap.mp hd
              obtain ⟨c, hcm, rfl⟩ := List.mem_map.mp hv
              have e3 : (if (sg (⟨#[c]⟩ : Str)).all isDg = true then none else some (PyData.str ⟨#[c]⟩)) = some d := e
              by_cases q : (sg (⟨#[c]⟩ : Str)).all isDg = true
              · rw [if_pos q] at e3; cases e3
              · rw [if_neg q] at e3
                cases e3
                exact okS.ok (z := ⟨#[c]⟩) fun b hb => ok b (by rw [List.mem_singleton.mp hb]; exact hcm)
            refine ⟨_, _, .lst (.inl (.inl (by rw [upd_ne (ne_of_none hy hpl)]; exact hy))) im2.dp, .lst (.inl (.inl upd_same)) .nil, shaped_list flat, shaped_list rfl, ?_⟩
            rw [eqv_nil]
            walk_at "go"
            refine iteB (fun c5 => ?_) (fun c5 => ?_)
            · walk_at "go"
              refine no c4 (sgn_bad (.inr ⟨c1, rfl⟩) fun h => ?_)
              rw [(fNd_sgV z).mpr h.1] at c5
              cases c5
            · have hd : (sg z).all isDg = true := (fNd_sgV z).mp (by simpa using c5)
              walk_at "go"
              have key := word_pos (z := z) c1 hd np l60
              obtain ⟨n, e1, e2, e3, e4⟩ := key
              refine vIntS e1 (by omega) ?_
              walk_at "go"
              refine ⟨e3, ?_⟩
              walk_at "go"
              rw [str_dec]
              have q' := q _ c4
              rw [e2] at q'
              refine iteB (fun c6 => ?_) (fun c6 => ?_)
              · walk_at "go"
                rw [if_pos (of_decide_eq_true c6)] at q'
                exact vIntS e1 (by omega) q'
              · walk_at "go"
                rw [if_neg (of_decide_eq_false c6)] at q'
                exact q'
end
end K77

namespace K77
open PySem PySem.Spec PyProof.Rows L2 Fw
section
variable {P : Program} {w : World} {K : PySem.W.Frag} {mg : Str → Option Value} {base : Heap}
/-- the law's pen at p, its cells at q -/
def PenAt (H : Hp) (p q : Addr) : Prop := ∃ (at_ n : Int) (cs : List Int), H p = some (.lst [.ref q, .int at_, .int n]) ∧ H q = some (.lst (cs.map V.int)) ∧ 0 ≤ at_ ∧ 0 ≤ n
theorem PenAt.ne {H : Hp} {p q : Addr} (h : PenAt H p q) : q ≠ p := fun e => by
  obtain ⟨a, n, cs, h1, h2, _⟩ := h
  subst e
  rw [h1] at h2
  have z := HO.lst.inj (Option.some.inj h2)
  cases cs with
  | nil => cases z
  | cons c r => exact absurd (List.cons.inj z).1 (fun y => by cases y)
theorem PenAt.mono {H H' : Hp} {p q : Addr} (c : Ch [] H H') (h : PenAt H p q) : PenAt H' p q := by
  obtain ⟨a, n, cs, h1, h2, h3, h4⟩ := h
  exact ⟨a, n, cs, c _ _ h1 (by simp), c _ _ h2 (by simp), h3, h4⟩
theorem dpInts {H : Hp} : ∀ (cs : List Int), DpAll K H (cs.map V.int) (cs.map PyData.int)
  | [] => .nil
  | c :: r => .cons (.int c) (dpInts r)
theorem fl_ints (cs : List Int) : (cs.map PyData.int).all fl = true := by
  rw [List.all_map, List.all_eq_true]
  intro c _
  rfl
def sp_pen (K : PySem.W.Frag) : Sp := fun vs H Q _ => ∃ (a : Addr) (ns : List Int), vs = [.ref a] ∧ SqL K H a (ns.map V.int) ∧ ∀ p q H', H p = none → Ch [] H H' → PenAt H' p q → Q (.ref p) H'
abbrev s__law_pen : Stmt := (top 15)
theorem sc__law_pen : FnScope ["script"] ["script"] (defScope s__law_pen) := ⟨rfl, rfl, rfl, by decide +kernel, rfl, by decide +kernel, by decide +kernel⟩
theorem ok__law_pen (T : Tx K mg) : Cl P w K mg base CX0 1 "_law_pen" (sp_pen K) [] := by
  obtain ⟨fd, F⟩ := T.f__law_pen
  refine ⟨_, fd, ["script"], [], ?_, T.g__law_pen, F.kp, F.bindsN (fun _ _ _ _ _ _ us hl => match us, hl with | [_], _ => rfl), .nil⟩
  refine F.ok sc__law_pen (fun vs H Q E h => ?_) (fun cdv A outer s H vs Q E hr h => ?_)
  · first | (obtain ⟨_, rfl, _⟩ := h; rfl) | (obtain ⟨_, _, rfl, _⟩ := h; rfl) | (obtain ⟨_, _, _, rfl, _⟩ := h; rfl) | (obtain ⟨_, _, _, _, rfl, _⟩ := h; rfl) | (obtain ⟨_, _, _, _, _, rfl, _⟩ := h; rfl) | (obtain ⟨_, _, _, _, _, _, rfl, _⟩ := h; rfl)
  · have hu := hu_of hr
    refine ⟨_, (PSs.nox (by exact (pss_one (ps_ret (pe_lst (pa_cons (pe_callTy (T := "list") call_list_of (by rfl) T.n_list (by decide +kernel) (pa_cons (pe_slice sl_list (pv 0) po_none (po_some pe_int)) pa_nil)) (pa_cons pe_int (pa_cons pe_int pa_nil)))))))), ?_⟩
    obtain ⟨a, ns, rfl, hs, q⟩ := h
    rw [show L2.start ["script"] [V.ref a] = [some (.ref a)] from rfl]
    walk_at "kx"
    walk_at "go"
    refine ⟨a, ns.map V.int, rfl, hs, fun b hb => ?_⟩
    have e1 : ∃ cs : List Int, cutV (ns.map V.int) none (some 63) = cs.map V.int := ⟨(ns.drop 0).take (HT.sIx ns.length ns.length (some 63) - 0), by
      unfold cutV
      rw [List.length_map, List.map_take, List.map_drop]
      rfl⟩
    obtain ⟨cs, e1⟩ := e1
    rw [e1]
    walk_at "go"
    refine ⟨b, cs.map V.int, rfl, .inl (.inl (.inl upd_same)), fun c hc => ?_⟩
    walk_at "go"
    refine ⟨by show 3 ≤ sizeLine; decide, fun p hp => ?_⟩
    have hbc := ne_of_none (upd_same (H := H) (a := b) (o := .lst (cs.map V.int))) hc
    refine q p c _ ?_ ((Ch.alloc hb _).trans ((Ch.alloc hc _).trans (Ch.alloc hp _))) ⟨0, 0, cs, upd_same, ?_, by decide, by decide⟩
    · cases e : H p with
      | none => rfl
      | some u =>
        have := (Ch.alloc (S := []) hb (.lst (cs.map V.int))).trans (Ch.alloc hc (.lst (cs.map V.int))) p u e (by simp)
        rw [hp] at this
        cases this
    · rw [upd_ne (ne_of_none (upd_same (H := upd H b (.lst (cs.map V.int))) (a := c) (o := .lst (cs.map V.int))) hp)]
      exact upd_same
theorem atI_int {α : Type} {l : List α} {i : Int} {x : α} (h : 0 ≤ i) (e : l[i.toNat]? = some x) : atI l i = some x := by
  have hl : i.toNat < l.length := (List.getElem?_eq_some_iff.mp e).1
  unfold atI ixN
  rw [if_pos h, if_pos (by omega)]
  exact e
def sp_fresh : Sp := fun vs H Q _ => ∃ (p q : Addr), vs = [.ref p] ∧ PenAt H p q ∧ ∀ f H', 0 ≤ f → Ch [p] H H' → PenAt H' p q → Q (.int f) H'
abbrev s__law_fresh : Stmt := (top 16)
theorem sc__law_fresh : FnScope ["pen", "at", "cell", "p", "state", "found", "turn"] ["pen"] (defScope s__law_fresh) := ⟨rfl, rfl, rfl, by decide +kernel, rfl, by decide +kernel, by decide +kernel⟩
theorem ok__law_fresh (T : Tx K mg) : Cl P w K mg base CX0 1 "_law_fresh" sp_fresh [] := by
  obtain ⟨fd, F⟩ := T.f__law_fresh
  refine ⟨_, fd, ["pen"], [], ?_, T.g__law_fresh, F.kp, F.bindsN (fun _ _ _ _ _ _ us hl => match us, hl with | [_], _ => rfl), .nil⟩
  refine F.ok sc__law_fresh (fun vs H Q E h => ?_) (fun cdv A outer s H vs Q E hr h => ?_)
  · first | (obtain ⟨_, rfl, _⟩ := h; rfl) | (obtain ⟨_, _, rfl, _⟩ := h; rfl) | (obtain ⟨_, _, _, rfl, _⟩ := h; rfl) | (obtain ⟨_, _, _, _, rfl, _⟩ := h; rfl) | (obtain ⟨_, _, _, _, _, rfl, _⟩ := h; rfl) | (obtain ⟨_, _, _, _, _, _, rfl, _⟩ := h; rfl)
  · have hu := hu_of hr
    refine ⟨_, (PSs.nox (by exact (pss_cons (ps_set (i := 1) sc__law_fresh.nd rfl (Or.inl rfl) (pe_ix ix_list (pv 0) pe_int (fun _ _ => rfl)))
      (pss_cons (ps_asg (pe_op op_add (pv 1) pe_int) (pg_sub (pv 0) pe_int set_list))
      (pss_cons (ps_set (i := 2) sc__law_fresh.nd rfl (Or.inl rfl) pe_int)
      (pss_cons (ps_if (pt_cmpR (op_neD hr.units) (pe_ix ix_list (pv 0) pe_int (fun _ _ => rfl)) (pe_lst pa_nil) (nomark _))
      (pss_one (ps_set (i := 2) sc__law_fresh.nd rfl (Or.inl rfl) (pe_ix ix_list (pe_ix ix_list (pv 0) pe_int (fun _ _ => rfl)) (pe_op op_mod (pv 1) (pe_callB (id := "len") call_len (by rfl) T.n_len (by decide +kernel) (pa_cons (pe_ix ix_list (pv 0) pe_int (fun _ _ => rfl)) pa_nil))) (fun _ _ => rfl))))
      pss_nil)
      (pss_cons (ps_if (PW.pt (pw_and (pt_cmpR op_lt (pv 1) (pe_callB (id := "len") call_len (by rfl) T.n_len (by decide +kernel) (pa_cons (pe_ix ix_list (pv 0) pe_int (fun _ _ => rfl)) pa_nil)) (nomark _)) (pw_and1 (pt_cmpR op_ge (pv 2) (pe_op op_pow pe_int pe_int) (nomark _)))))
      (pss_one (ps_ret (pe_op op_sub (pv 2) (pe_op op_pow pe_int pe_int))))
      pss_nil)
      (pss_cons (ps_set (i := 3) sc__law_fresh.nd rfl (Or.inl rfl) pe_int)
      (pss_cons (ps_set (i := 4) sc__law_fresh.nd rfl (Or.inl rfl) (pe_op op_mod (pe_op op_add (pe_op op_add (pe_op op_mul (pv 2) pe_int) (pe_op op_mul pe_int (pv 1))) pe_int) (pv 3)))
      (pss_cons (ps_set (i := 5) sc__law_fresh.nd rfl (Or.inl rfl) (pv 4))
      (pss_cons (ps_for PassesOwn.never rfl (pi_range1 rfl T.n_range (pa_cons pe_int pa_nil)) (pg_name (i := 6) sc__law_fresh.nd rfl (Or.inl rfl))
      (pss_cons (ps_set (i := 4) sc__law_fresh.nd rfl (Or.inl rfl) (pe_op op_mod (pe_op op_add (pe_op op_add (pe_op op_mul (pv 4) (pv 4)) (pe_op op_mul (pe_op op_mul pe_int (pe_op op_add (pv 6) pe_int)) (pe_op op_add (pv 1) pe_int))) (pv 2)) (pv 3)))
      (pss_one (ps_set (i := 5) sc__law_fresh.nd rfl (Or.inl rfl) (pe_op op_add (pe_op op_mul (pv 5) (pv 3)) (pv 4))))))
      (pss_one (ps_ret (pv 5)))))))))))))), ?_⟩
    obtain ⟨p, q, rfl, hp, qq⟩ := h
    have hne := hp.ne
    obtain ⟨at_, n, cs, h1, h2, h3, h4⟩ := hp
    rw [show L2.start ["pen", "at", "cell", "p", "state", "found", "turn"] [V.ref p] = [some (.ref p), none, none, none, none, none, none] from rfl]
    walk_at "kx"
    walk_at "go"
    refine vIxL (.inl (.inl h1)) atI_1 ?_
    walk_at "go"
    refine ⟨p, _, _, 1, rfl, rfl, h1, rfl, ?_⟩
    walk_at "go"
    refine vIxL (.inl (.inl upd_same)) atI_0 ?_
    walk_at "go"
    refine ⟨by simp, fun e he => ?_⟩
    have ech : Ch [p] H (upd (upd H p (.lst [.ref q, .int (at_ + 1), .int n])) e (.lst [])) := (Ch.set (by simp) _).trans (Ch.alloc he _)
    have e1 : (upd (upd H p (.lst [.ref q, .int (at_ + 1), .int n])) e (.lst [])) p = some (.lst [.ref q, .int (at_ + 1), .int n]) := by
      rw [upd_ne (ne_of_none upd_same he)]; exact upd_same
    have e2 : (upd (upd H p (.lst [.ref q, .int (at_ + 1), .int n])) e (.lst [])) q = some (.lst (cs.map V.int)) := by
      have z : (upd H p (.lst [.ref q, .int (at_ + 1), .int n])) q = some (.lst (cs.map V.int)) := by rw [upd_ne hne]; exact h2
      rw [upd_ne (ne_of_none z he)]; exact z
    have e3 : (upd (upd H p (.lst [.ref q, .int (at_ + 1), .int n])) e (.lst [])) e = some (.lst []) := upd_same
    have pen3 : PenAt (upd (upd H p (.lst [.ref q, .int (at_ + 1), .int n])) e (.lst [])) p q := ⟨at_ + 1, n, cs, e1, e2, by omega, h4⟩
    have ch3 := ech
    show rNeD K (V.ref q) (V.ref e) (upd (upd H p (.lst [.ref q, .int (at_ + 1), .int n])) e (.lst [])) _
    generalize upd (upd H p (.lst [.ref q, .int (at_ + 1), .int n])) e (.lst []) = H2 at *
    refine ⟨_, _, .lst (.inl (.inl e2)) (dpInts cs), .lst (.inl (.inl e3)) .nil, shaped_list (fl_ints cs), shaped_list rfl, ?_⟩
    rw [eqv_nil]
    walk_at "go"
    refine iteB (fun c1 => ?_) (fun c1 => ?_)
    · have cne : cs ≠ [] := fun e => by rw [e] at c1; cases c1
      have lpos : 0 < cs.length := List.length_pos_iff.mpr cne
      walk_at "go"
      refine vIxL (.inl (.inl e1)) atI_0 ?_
      walk_at "go"
      refine vIxL (.inl (.inl e1)) atI_0 ?_
      walk_at "go"
      refine vLenL (.inl (.inl e2)) ?_
      walk_at "go"
      rw [List.length_map]
      refine vI (show (0 : Int) < cs.length by omega) ?_
      have m1 := Int.emod_nonneg at_ (show (cs.length : Int) ≠ 0 by omega)
      have m2 := Int.emod_lt_of_pos at_ (show (0 : Int) < cs.length by omega)
      have m3 : (at_ % (cs.length : Int)).toNat < cs.length := by omega
      have a1 : atI (cs.map V.int) (at_ % (cs.length : Int)) = some (.int cs[(at_ % (cs.length : Int)).toNat]) := atI_int m1 (by rw [List.getElem?_map, List.getElem?_eq_getElem m3]; rfl)
      refine vIxL (.inl (.inl e2)) a1 ?_
      generalize cs[(at_ % (cs.length : Int)).toNat] = cell
      walk_at "go"
      refine vIxL (.inl (.inl e1)) atI_0 ?_
      walk_at "go"
      refine vLenL (.inl (.inl e2)) ?_
      walk_at "go"
      refine iteB (fun d1 => ?_) (fun d1 => ?_)
      · walk_at "go"
        refine vI ⟨by decide, by decide, by decide⟩ ?_
        walk_at "go"
        refine iteB (fun d2 => ?_) (fun d2 => ?_)
        · walk_at "go"
          refine vI ⟨by decide, by decide, by decide⟩ ?_
          walk_at "go"
          have d3 := of_decide_eq_true d2
          exact qq _ _ (by omega) ch3 pen3
        · walk_at "go"
          refine vI (.inr ⟨by decide, by decide⟩) ?_
          walk_at "go"
          refine vI (.inl ⟨by decide, by decide⟩) ?_
          walk_at "go"
          refine vI (by decide) ?_
          walk_at "go"
          refine ⟨by decide, by decide, ?_⟩
          refine vForR (fun i σ H' => ∃ (st f : Int) (t : Option V), σ = [some (.ref p), some (.int at_), some (.int cell), some (.int 2305843009213693951), some (.int st), some (.int f), t] ∧ 0 ≤ st ∧ st < 2305843009213693951 ∧ 0 ≤ f ∧ H' = H2) ⟨_, _, _, rfl, ?_, ?_, ?_, rfl⟩ ?_ ?_
          · exact Int.emod_nonneg _ (by decide)
          · exact Int.emod_lt_of_pos _ (by decide)
          · exact Int.emod_nonneg _ (by decide)
          · rintro i σ H' hi ⟨st, f, t, rfl, s1, s2, s3, rfl⟩
            have hi : i < 6 := hi
            walk_at "go"
            refine vI (.inl ⟨by omega, by omega⟩) ?_
            walk_at "go"
            refine vI (.inl ⟨by decide, by decide⟩) ?_
            walk_at "go"
            refine vI (.inl ⟨by omega, by omega⟩) ?_
            walk_at "go"
            refine vI (by decide) ?_
            walk_at "go"
            refine vI (.inr ⟨by decide, by decide⟩) ?_
            walk_at "go"
            have n1 := Int.emod_nonneg (st * st + 69621 * (0 + (i : Int) + 1) * (at_ + 1) + cell) (show (2305843009213693951 : Int) ≠ 0 by decide)
            refine ⟨_, _, _, rfl, n1, Int.emod_lt_of_pos _ (by decide), ?_, rfl⟩
            have n2 : 0 ≤ f * 2305843009213693951 := Int.mul_nonneg s3 (by decide)
            omega
          · rintro σ H' ⟨st, f, t, rfl, s1, s2, s3, rfl⟩
            walk_at "go"
            exact qq _ _ s3 ch3 pen3
      · walk_at "go"
        refine vI (.inr ⟨by decide, by decide⟩) ?_
        walk_at "go"
        refine vI (.inl ⟨by decide, by decide⟩) ?_
        walk_at "go"
        refine vI (by decide) ?_
        walk_at "go"
        refine ⟨by decide, by decide, ?_⟩
        refine vForR (fun i σ H' => ∃ (st f : Int) (t : Option V), σ = [some (.ref p), some (.int at_), some (.int cell), some (.int 2305843009213693951), some (.int st), some (.int f), t] ∧ 0 ≤ st ∧ st < 2305843009213693951 ∧ 0 ≤ f ∧ H' = H2) ⟨_, _, _, rfl, ?_, ?_, ?_, rfl⟩ ?_ ?_
        · exact Int.emod_nonneg _ (by decide)
        · exact Int.emod_lt_of_pos _ (by decide)
        · exact Int.emod_nonneg _ (by decide)
        · rintro i σ H' hi ⟨st, f, t, rfl, s1, s2, s3, rfl⟩
          have hi : i < 6 := hi
          walk_at "go"
          refine vI (.inl ⟨by omega, by omega⟩) ?_
          walk_at "go"
          refine vI (.inl ⟨by decide, by decide⟩) ?_
          walk_at "go"
          refine vI (.inl ⟨by omega, by omega⟩) ?_
          walk_at "go"
          refine vI (by decide) ?_
          walk_at "go"
          refine vI (.inr ⟨by decide, by decide⟩) ?_
          walk_at "go"
          have n1 := Int.emod_nonneg (st * st + 69621 * (0 + (i : Int) + 1) * (at_ + 1) + cell) (show (2305843009213693951 : Int) ≠ 0 by decide)
          refine ⟨_, _, _, rfl, n1, Int.emod_lt_of_pos _ (by decide), ?_, rfl⟩
          have n2 : 0 ≤ f * 2305843009213693951 := Int.mul_nonneg s3 (by decide)
          omega
        · rintro σ H' ⟨st, f, t, rfl, s1, s2, s3, rfl⟩
          walk_at "go"
          exact qq _ _ s3 ch3 pen3
    · walk_at "go"
      refine vIxL (.inl (.inl e1)) atI_0 ?_
      walk_at "go"
      refine vLenL (.inl (.inl e2)) ?_
      walk_at "go"
      refine iteB (fun d1 => ?_) (fun d1 => ?_)
      · walk_at "go"
        refine vI ⟨by decide, by decide, by decide⟩ ?_
        walk_at "go"
        refine vI (.inr ⟨by decide, by decide⟩) ?_
        walk_at "go"
        refine vI (.inl ⟨by decide, by decide⟩) ?_
        walk_at "go"
        refine vI (by decide) ?_
        walk_at "go"
        refine ⟨by decide, by decide, ?_⟩
        refine vForR (fun i σ H' => ∃ (st f : Int) (t : Option V), σ = [some (.ref p), some (.int at_), some (.int 0), some (.int 2305843009213693951), some (.int st), some (.int f), t] ∧ 0 ≤ st ∧ st < 2305843009213693951 ∧ 0 ≤ f ∧ H' = H2) ⟨_, _, _, rfl, ?_, ?_, ?_, rfl⟩ ?_ ?_
        · exact Int.emod_nonneg _ (by decide)
        · exact Int.emod_lt_of_pos _ (by decide)
        · exact Int.emod_nonneg _ (by decide)
        · rintro i σ H' hi ⟨st, f, t, rfl, s1, s2, s3, rfl⟩
          have hi : i < 6 := hi
          walk_at "go"
          refine vI (.inl ⟨by omega, by omega⟩) ?_
          walk_at "go"
          refine vI (.inl ⟨by decide, by decide⟩) ?_
          walk_at "go"
          refine vI (.inl ⟨by omega, by omega⟩) ?_
          walk_at "go"
          refine vI (by decide) ?_
          walk_at "go"
          refine vI (.inr ⟨by decide, by decide⟩) ?_
          walk_at "go"
          have n1 := Int.emod_nonneg (st * st + 69621 * (0 + (i : Int) + 1) * (at_ + 1) + 0) (show (2305843009213693951 : Int) ≠ 0 by decide)
          refine ⟨_, _, _, rfl, n1, Int.emod_lt_of_pos _ (by decide), ?_, rfl⟩
          have n2 : 0 ≤ f * 2305843009213693951 := Int.mul_nonneg s3 (by decide)
          omega
        · rintro σ H' ⟨st, f, t, rfl, s1, s2, s3, rfl⟩
          walk_at "go"
          exact qq _ _ s3 ch3 pen3
      · walk_at "go"
        refine vI (.inr ⟨by decide, by decide⟩) ?_
        walk_at "go"
        refine vI (.inl ⟨by decide, by decide⟩) ?_
        walk_at "go"
        refine vI (by decide) ?_
        walk_at "go"
        refine ⟨by decide, by decide, ?_⟩
        refine vForR (fun i σ H' => ∃ (st f : Int) (t : Option V), σ = [some (.ref p), some (.int at_), some (.int 0), some (.int 2305843009213693951), some (.int st), some (.int f), t] ∧ 0 ≤ st ∧ st < 2305843009213693951 ∧ 0 ≤ f ∧ H' = H2) ⟨_, _, _, rfl, ?_, ?_, ?_, rfl⟩ ?_ ?_
        · exact Int.emod_nonneg _ (by decide)
        · exact Int.emod_lt_of_pos _ (by decide)
        · exact Int.emod_nonneg _ (by decide)
        · rintro i σ H' hi ⟨st, f, t, rfl, s1, s2, s3, rfl⟩
          have hi : i < 6 := hi
          walk_at "go"
          refine vI (.inl ⟨by omega, by omega⟩) ?_
          walk_at "go"
          refine vI (.inl ⟨by decide, by decide⟩) ?_
          walk_at "go"
          refine vI (.inl ⟨by omega, by omega⟩) ?_
          walk_at "go"
          refine vI (by decide) ?_
          walk_at "go"
          refine vI (.inr ⟨by decide, by decide⟩) ?_
          walk_at "go"
          have n1 := Int.emod_nonneg (st * st + 69621 * (0 + (i : Int) + 1) * (at_ + 1) + 0) (show (2305843009213693951 : Int) ≠ 0 by decide)
          refine ⟨_, _, _, rfl, n1, Int.emod_lt_of_pos _ (by decide), ?_, rfl⟩
          have n2 : 0 ≤ f * 2305843009213693951 := Int.mul_nonneg s3 (by decide)
          omega
        · rintro σ H' ⟨st, f, t, rfl, s1, s2, s3, rfl⟩
          walk_at "go"
          exact qq _ _ s3 ch3 pen3
end
end K77

namespace K77
open PySem PySem.Spec PyProof.Rows L2 Fw
section
variable {P : Program} {w : World} {K : PySem.W.Frag} {mg : Str → Option Value} {base : Heap}
def sp_draw : Sp := fun vs H Q _ => ∃ (p q : Addr) (m : Int), vs = [.ref p, .int m] ∧ PenAt H p q ∧ 0 < m ∧ m.natAbs.log2 < 9000 ∧ ∀ d H', 0 ≤ d → d < m → Ch [p] H H' → PenAt H' p q → Q (.int d) H'
abbrev s__law_draw : Stmt := (top 17)
theorem sc__law_draw : FnScope ["pen", "many", "digit"] ["pen", "many"] (defScope s__law_draw) := ⟨rfl, rfl, rfl, by decide +kernel, rfl, by decide +kernel, by decide +kernel⟩
theorem ok__law_draw (T : Tx K mg) (c__law_fresh : Cl P w K mg base CX0 1 "_law_fresh" sp_fresh []) : Cl P w K mg base CX0 2 "_law_draw" sp_draw [] := by
  obtain ⟨fd, F⟩ := T.f__law_draw
  refine ⟨_, fd, ["pen", "many"], [], ?_, T.g__law_draw, F.kp, F.bindsN (fun _ _ _ _ _ _ us hl => match us, hl with | [_, _], _ => rfl), .nil⟩
  refine F.ok sc__law_draw (fun vs H Q E h => ?_) (fun cdv A outer s H vs Q E hr h => ?_)
  · first | (obtain ⟨_, rfl, _⟩ := h; rfl) | (obtain ⟨_, _, rfl, _⟩ := h; rfl) | (obtain ⟨_, _, _, rfl, _⟩ := h; rfl) | (obtain ⟨_, _, _, _, rfl, _⟩ := h; rfl) | (obtain ⟨_, _, _, _, _, rfl, _⟩ := h; rfl) | (obtain ⟨_, _, _, _, _, _, rfl, _⟩ := h; rfl)
  · have hu := hu_of hr
    refine ⟨_, (PSs.nox (by exact (pss_cons (ps_if (pt_cmpR op_lt (pe_ix ix_list (pv 0) pe_int (fun _ _ => rfl)) (pv 1) (nomark _))
      (pss_one (ps_asg (pcl c__law_fresh (hr.mono (by decide)) pass0 (pa_cons (pv 0) pa_nil)) (pg_sub (pv 0) pe_int set_list)))
      pss_nil)
      (pss_cons (ps_set (i := 2) sc__law_draw.nd rfl (Or.inl rfl) (pe_op op_mod (pe_ix ix_list (pv 0) pe_int (fun _ _ => rfl)) (pv 1)))
      (pss_cons (ps_asg (pe_op op_fdivW (pe_ix ix_list (pv 0) pe_int (fun _ _ => rfl)) (pv 1)) (pg_sub (pv 0) pe_int set_list))
      (pss_one (ps_ret (pv 2)))))))), ?_⟩
    obtain ⟨p, q, m, rfl, hp, hm, hl, qq⟩ := h
    have hne := hp.ne
    rw [show L2.start ["pen", "many", "digit"] [V.ref p, V.int m] = [some (.ref p), some (.int m), none] from rfl]
    walk_at "kx"
    obtain ⟨at_, n, cs, h1, h2, h3, h4⟩ := id hp
    walk_at "go"
    refine vIxL (.inl (.inl h1)) atI_2 ?_
    walk_at "go"
    refine iteB (fun c1 => ?_) (fun c1 => ?_)
    · walk_at "go"
      refine ⟨p, q, rfl, hp, fun f H1 hf ch pen => ?_⟩
      obtain ⟨at2, n2, cs2, g1, g2, g3, g4⟩ := id pen
      walk_at "go"
      refine ⟨p, _, _, 2, rfl, rfl, g1, rfl, ?_⟩
      walk_at "go"
      refine vIxL (.inl (.inl upd_same)) atI_2 ?_
      walk_at "go"
      refine vI hm ?_
      walk_at "go"
      refine vIxL (.inl (.inl upd_same)) atI_2 ?_
      walk_at "go"
      refine vI ⟨hm, hl⟩ ?_
      walk_at "go"
      refine ⟨p, _, _, 2, rfl, rfl, upd_same, rfl, ?_⟩
      walk_at "go"
      refine qq _ _ (Int.emod_nonneg _ (by omega)) (Int.emod_lt_of_pos _ hm) (ch.trans ((Ch.set (by simp) _).trans (Ch.set (by simp) _))) ⟨at2, f / m, cs2, upd_same, ?_, g3, Int.ediv_nonneg hf (by omega)⟩
      rw [upd_ne hne, upd_ne hne]
      exact g2
    · walk_at "go"
      refine vIxL (.inl (.inl h1)) atI_2 ?_
      walk_at "go"
      refine vI hm ?_
      walk_at "go"
      refine vIxL (.inl (.inl h1)) atI_2 ?_
      walk_at "go"
      refine vI ⟨hm, hl⟩ ?_
      walk_at "go"
      refine ⟨p, _, _, 2, rfl, rfl, h1, rfl, ?_⟩
      walk_at "go"
      refine qq _ _ (Int.emod_nonneg _ (by omega)) (Int.emod_lt_of_pos _ hm) (Ch.set (by simp) _) ⟨at_, n / m, cs, upd_same, ?_, h3, Int.ediv_nonneg h4 (by omega)⟩
      rw [upd_ne hne]
      exact h2
def small (m : Int) : m.natAbs < 2 ^ 200 → m.natAbs.log2 < 9000 := fun h => by
  rcases Nat.eq_zero_or_pos m.natAbs with z | z
  · rw [z]; decide
  · exact Nat.lt_of_lt_of_le ((Nat.log2_lt (by omega)).mpr h) (by decide)
theorem chFresh {H H1 : Hp} {p q c : Addr} (ch : Ch [p] H H1) (pen : PenAt H1 p q) (hc : H1 c = none) : H c = none := by
  cases e : H c with
  | none => rfl
  | some u =>
    obtain ⟨_, _, _, h1, _⟩ := pen
    by_cases z : c = p
    · rw [z, h1] at hc; cases hc
    · rw [ch c u e (by simpa using z)] at hc; cases hc
theorem PenAt.neP {H : Hp} {p q c : Addr} (pen : PenAt H p q) (hc : H c = none) : c ≠ p := fun z => by
  obtain ⟨_, _, _, h1, _⟩ := pen
  rw [z, h1] at hc
  cases hc
theorem draw_go {H : Hp} {Q : VK} {E : XK} {p q : Addr} {m : Int} (hp : PenAt H p q) (hm : 0 < m) (hl : m.natAbs < 2 ^ 200) (k : ∀ d H', 0 ≤ d → d < m → Ch [p] H H' → PenAt H' p q → Q (.int d) H') : sp_draw [.ref p, .int m] H Q E :=
  ⟨p, q, m, rfl, hp, hm, small m hl, k⟩
/-- a fraction of the law's: in lowest terms -/
def okV (a b : Int) : Prop := 0 ≤ b ∧ Int.gcd a b = 1 ∧ (b = 0 → a = 1)
theorem frac_ok {a b : Int} (h1 : a.natAbs ≤ 10 ^ 20) (h2 : 0 < b) (h3 : b ≤ 10 ^ 20) :
    CDivW a (Int.gcd a b) ∧ okV (a / (Int.gcd a b : Nat)) (b / (Int.gcd a b : Nat)) ∧ (a / (Int.gcd a b : Nat)).natAbs ≤ 10 ^ 21 ∧ (b / (Int.gcd a b : Nat)).natAbs ≤ 10 ^ 21 ∧ True := by
  have gp : 0 < Int.gcd a b := Int.gcd_pos_of_ne_zero_right _ (by omega)
  have gl : Int.gcd a b ≤ b.natAbs := Nat.le_of_dvd (by omega) (Int.gcd_dvd_natAbs_right ..)
  have d1 : ((Int.gcd a b : Nat) : Int) ∣ a := Int.gcd_dvd_left ..
  have d2 : ((Int.gcd a b : Nat) : Int) ∣ b := Int.gcd_dvd_right ..
  have n1 : (a / (Int.gcd a b : Nat)).natAbs ≤ a.natAbs := by
    rw [Int.natAbs_ediv_of_dvd d1, Int.natAbs_natCast]
    exact Nat.div_le_self _ _
  have n2 : (b / (Int.gcd a b : Nat)).natAbs ≤ b.natAbs := by
    rw [Int.natAbs_ediv_of_dvd d2, Int.natAbs_natCast]
    exact Nat.div_le_self _ _
  refine ⟨⟨by omega, small _ ?_⟩, ⟨Int.ediv_nonneg (by omega) (by omega), Int.gcd_ediv_gcd_ediv_gcd gp, fun e => ?_⟩, by omega, by omega, trivial⟩
  · rw [Int.natAbs_natCast]
    have : (10 : Nat) ^ 20 < 2 ^ 200 := by decide
    omega
  · have e2 := Int.mul_ediv_cancel' d2
    rw [e, Int.mul_zero] at e2
    omega
def sp_frac (K : PySem.W.Frag) : Sp := fun vs H Q _ => ∃ (p q : Addr), vs = [.ref p] ∧ PenAt H p q ∧ ∀ a b c H', H' c = some (.tup [.int a, .int b]) → H c = none → okV a b → a.natAbs ≤ 10 ^ 21 → b.natAbs ≤ 10 ^ 21 → Ch [p] H H' → PenAt H' p q → Q (.ref c) H'
abbrev s__law_fraction : Stmt := (top 19)
theorem sc__law_fraction : FnScope ["pen", "option", "size", "p", "q", "divisor"] ["pen"] (defScope s__law_fraction) := ⟨rfl, rfl, rfl, by decide +kernel, rfl, by decide +kernel, by decide +kernel⟩
theorem ok__law_fraction (T : Tx K mg) (c__law_draw : Cl P w K mg base CX0 2 "_law_draw" sp_draw []) (c__law_common : Cl P w K mg base CX0 1 "_law_common" sp_common []) : Cl P w K mg base CX0 3 "_law_fraction" (sp_frac K) [] := by
  obtain ⟨fd, F⟩ := T.f__law_fraction
  refine ⟨_, fd, ["pen"], [], ?_, T.g__law_fraction, F.kp, F.bindsN (fun _ _ _ _ _ _ us hl => match us, hl with | [_], _ => rfl), .nil⟩
  refine F.ok sc__law_fraction (fun vs H Q E h => ?_) (fun cdv A outer s H vs Q E hr h => ?_)
  · first | (obtain ⟨_, rfl, _⟩ := h; rfl) | (obtain ⟨_, _, rfl, _⟩ := h; rfl) | (obtain ⟨_, _, _, rfl, _⟩ := h; rfl) | (obtain ⟨_, _, _, _, rfl, _⟩ := h; rfl) | (obtain ⟨_, _, _, _, _, rfl, _⟩ := h; rfl) | (obtain ⟨_, _, _, _, _, _, rfl, _⟩ := h; rfl)
  · have hu := hu_of hr
    refine ⟨_, (PSs.nox (by exact (pss_cons (ps_set (i := 1) sc__law_fraction.nd rfl (Or.inl rfl) (pcl c__law_draw (hr.mono (by decide)) pass0 (pa_cons (pv 0) (pa_cons pe_int pa_nil))))
      (pss_cons (ps_if (pt_cmpR op_eq (pv 1) pe_int (nomark _))
      (pss_one (ps_ret (pe_tup (pa_cons pe_int (pa_cons pe_int pa_nil)))))
      pss_nil)
      (pss_cons (ps_set (i := 2) sc__law_fraction.nd rfl (Or.inl rfl) (pe_ix ix_list (pe_lst (pa_cons pe_int (pa_cons pe_int (pa_cons pe_int (pa_cons (pe_op op_pow pe_int pe_int) (pa_cons (pe_op op_pow pe_int pe_int) pa_nil)))))) (pcl c__law_draw (hr.mono (by decide)) pass0 (pa_cons (pv 0) (pa_cons pe_int pa_nil))) (fun _ _ => rfl)))
      (pss_cons (ps_par (i := 3) (j := 4) (by rfl) sc__law_fraction.nd rfl rfl (by decide) rfl rfl (pa_cons (pe_op op_sub (pcl c__law_draw (hr.mono (by decide)) pass0 (pa_cons (pv 0) (pa_cons (pe_op op_add (pe_op op_mul pe_int (pv 2)) pe_int) pa_nil))) (pv 2)) (pa_cons (pe_op op_add pe_int (pcl c__law_draw (hr.mono (by decide)) pass0 (pa_cons (pv 0) (pa_cons (pv 2) pa_nil)))) pa_nil)) (by rfl))
      (pss_cons (ps_if (pt_cmpR op_eq (pv 1) pe_int (nomark _))
      (pss_one (ps_set (i := 4) sc__law_fraction.nd rfl (Or.inl rfl) pe_int))
      pss_nil)
      (pss_cons (ps_set (i := 5) sc__law_fraction.nd rfl (Or.inl rfl) (pcl c__law_common (hr.mono (by decide)) pass0 (pa_cons (pv 3) (pa_cons (pv 4) pa_nil))))
      (pss_one (ps_ret (pe_tup (pa_cons (pe_op op_fdivW (pv 3) (pv 5)) (pa_cons (pe_op op_fdivW (pv 4) (pv 5)) pa_nil))))))))))))), ?_⟩
    obtain ⟨p, q, rfl, hp, qq⟩ := h
    rw [show L2.start ["pen", "option", "size", "p", "q", "divisor"] [V.ref p] = [some (.ref p), none, none, none, none, none] from rfl]
    walk_at "kx"
    walk_at "go"
    refine draw_go hp (by decide) (by decide) fun o H1 o1 o2 ch1 p1 => ?_
    walk_at "go"
    refine iteB (fun c1 => ?_) (fun c1 => ?_)
    · walk_at "go"
      refine ⟨by decide, fun c hc => ?_⟩
      exact qq 1 0 c _ upd_same (chFresh ch1 p1 hc) ⟨by decide, by decide, fun _ => rfl⟩ (by decide) (by decide) (ch1.trans (Ch.alloc hc _)) (p1.mono (Ch.alloc hc _))
    · walk_at "go"
      refine vI ⟨by decide, by decide, by decide⟩ ?_
      walk_at "go"
      refine vI ⟨by decide, by decide, by decide⟩ ?_
      walk_at "go"
      refine ⟨by decide, fun l hl => ?_⟩
      have pl := p1.mono (Ch.alloc hl (.lst [.int 4, .int 4, .int 9, .int (10 ^ Int.toNat 6), .int (10 ^ Int.toNat 20)]))
      walk_at "go"
      refine draw_go pl (by decide) (by decide) fun d H2 d1 d2 ch2 p2 => ?_
      have e2 : H2 l = some (.lst [.int 4, .int 4, .int 9, .int (10 ^ Int.toNat 6), .int (10 ^ Int.toNat 20)]) := ch2 _ _ upd_same (by simpa using p1.neP hl)
      obtain ⟨s, es, s1, s2⟩ : ∃ s : Int, atI [V.int 4, V.int 4, V.int 9, V.int (10 ^ Int.toNat 6), V.int (10 ^ Int.toNat 20)] d = some (.int s) ∧ 4 ≤ s ∧ s ≤ 10 ^ 20 := by
        have : d = 0 ∨ d = 1 ∨ d = 2 ∨ d = 3 ∨ d = 4 := by omega
        rcases this with rfl | rfl | rfl | rfl | rfl
        · exact ⟨4, rfl, by decide, by decide⟩
        · exact ⟨4, rfl, by decide, by decide⟩
        · exact ⟨9, rfl, by decide, by decide⟩
        · exact ⟨10 ^ 6, rfl, by decide, by decide⟩
        · exact ⟨10 ^ 20, rfl, by decide, by decide⟩
      refine vIxL (.inl (.inl e2)) es ?_
      walk_at "go"
      refine vI (.inl ⟨by decide, by decide⟩) ?_
      walk_at "go"
      refine draw_go p2 (by omega) (by omega) fun x H3 x1 x2 ch3 p3 => ?_
      walk_at "go"
      refine draw_go p3 (by omega) (by omega) fun y H4 y1 y2 ch4 p4 => ?_
      walk_at "go"
      have ch14 : Ch [p] H H4 := ch1.trans ((Ch.alloc hl _).trans (ch2.trans (ch3.trans ch4)))
      refine iteB (fun c2 => ?_) (fun c2 => ?_)
      · walk_at "go"
        refine ⟨_, _, rfl, ?_⟩
        obtain ⟨g1, g2, g3, g4, g5⟩ := frac_ok (a := x - s) (b := 1) (by omega) (by omega) (by omega)
        walk_at "go"
        refine vI g1 ?_
        walk_at "go"
        refine vI g1 ?_
        walk_at "go"
        refine ⟨by show 2 ≤ sizeLine; decide, fun c hc => ?_⟩
        exact qq _ _ c _ upd_same (chFresh ch14 p4 hc) g2 g3 g4 (ch14.trans (Ch.alloc hc _)) (p4.mono (Ch.alloc hc _))
      · walk_at "go"
        refine ⟨_, _, rfl, ?_⟩
        obtain ⟨g1, g2, g3, g4, g5⟩ := frac_ok (a := x - s) (b := 1 + y) (by omega) (by omega) (by omega)
        walk_at "go"
        refine vI g1 ?_
        walk_at "go"
        refine vI g1 ?_
        walk_at "go"
        refine ⟨by show 2 ≤ sizeLine; decide, fun c hc => ?_⟩
        exact qq _ _ c _ upd_same (chFresh ch14 p4 hc) g2 g3 g4 (ch14.trans (Ch.alloc hc _)) (p4.mono (Ch.alloc hc _))
end
end K77

namespace K77
open PySem PySem.Spec PyProof.Rows L2 Fw
section
variable {P : Program} {w : World} {K : PySem.W.Frag} {mg : Str → Option Value} {base : Heap}
abbrev s_NotAValue_init : Stmt := inClass (top 1) 0
theorem sc_NotAValue_init : FnScope ["self", "value"] ["self", "value"] (defScope s_NotAValue_init) := ⟨rfl, rfl, rfl, by decide +kernel, rfl, by decide +kernel, by decide +kernel⟩
theorem ok_NotAValue_init (T : Tx K mg) : ∃ fd, FnOk P w K mg base CX0 1 (He.ma K (He.ga K "NotAValue") "__init__") fd ["self", "value"] (spI K "value") ∧ Binds K fd ["self", "value"] [] := by
  obtain ⟨fd, F⟩ := T.f_NotAValue_init
  refine ⟨fd, ?_, F.bindsN (fun _ _ _ _ _ _ us hl => match us, hl with | [_, _], _ => rfl)⟩
  refine F.ok sc_NotAValue_init (fun vs H Q E h => ?_) (fun cdv A outer s H vs Q E hr h => ?_)
  · obtain ⟨_, _, _, rfl, _⟩ := h; rfl
  · refine ⟨_, (PSs.nox (by exact (pss_cons (ps_expr (pe_veinit rfl T.n_ValueError T.vV (pa_cons (pv 0) (pa_cons pe_str pa_nil)))) (pss_one (ps_ost (f := "value") (pv 0) (pv 1)))))), ?_⟩
    obtain ⟨a, C, v, rfl, hC, hf, ha, q⟩ := h
    rw [show L2.start ["self", "value"] [V.ref a, v] = [some (.ref a), some v] from rfl]
    walk_at "kx"
    walk_at "go"
    refine ⟨a, C, _, rfl, by show 1 ≤ 1000; decide, hC, ha, ?_⟩
    walk_at "go"
    exact ⟨a, C, rfl, hC, hf, .inl ⟨ha, fun dx h1 h2 => q dx h1 h2⟩⟩
theorem okH_NotAValue_init (T : Tx K mg) : ∃ fd, L2H.FnH P w K mg base CX0 1 (He.ma K (He.ga K "NotAValue") "__init__") fd ["self", "value"] (spI K "value") ∧ Binds K fd ["self", "value"] [] := by
  obtain ⟨fd, F⟩ := T.f_NotAValue_init
  refine ⟨fd, ?_, F.bindsN (fun _ _ _ _ _ _ us hl => match us, hl with | [_, _], _ => rfl)⟩
  refine okH F sc_NotAValue_init (fun vs H Q E h => ?_) (fun cdv A outer s H vs Q E p hp hr h => ?_)
  · obtain ⟨_, _, _, rfl, _⟩ := h; rfl
  · refine ⟨_, (PSs.nox (by exact (pss_cons (ps_expr (pe_veinit rfl T.n_ValueError T.vV (pa_cons (pv 0) (pa_cons pe_str pa_nil)))) (pss_one (ps_ost (f := "value") (pv 0) (pv 1)))))), ?_⟩
    obtain ⟨a, C, v, rfl, hC, hf, ha, q⟩ := h
    rw [show L2.start ["self", "value"] [V.ref a, v] = [some (.ref a), some v] from rfl]
    walk_at "kx"
    walk_at "go"
    refine ⟨a, C, _, rfl, by show 1 ≤ 1000; decide, hC, ha, ?_⟩
    walk_at "go"
    exact ⟨a, C, rfl, hC, hf, .inl ⟨ha, fun dx h1 h2 => q dx h1 h2⟩⟩
abbrev s_ParseError_init : Stmt := inClass (top 2) 0
theorem sc_ParseError_init : FnScope ["self", "line"] ["self", "line"] (defScope s_ParseError_init) := ⟨rfl, rfl, rfl, by decide +kernel, rfl, by decide +kernel, by decide +kernel⟩
theorem ok_ParseError_init (T : Tx K mg) : ∃ fd, FnOk P w K mg base CX0 1 (He.ma K (He.ga K "ParseError") "__init__") fd ["self", "line"] (spI K "line") ∧ Binds K fd ["self", "line"] [] := by
  obtain ⟨fd, F⟩ := T.f_ParseError_init
  refine ⟨fd, ?_, F.bindsN (fun _ _ _ _ _ _ us hl => match us, hl with | [_, _], _ => rfl)⟩
  refine F.ok sc_ParseError_init (fun vs H Q E h => ?_) (fun cdv A outer s H vs Q E hr h => ?_)
  · obtain ⟨_, _, _, rfl, _⟩ := h; rfl
  · refine ⟨_, (PSs.nox (by exact (pss_cons (ps_expr (pe_veinit rfl T.n_ValueError T.vV (pa_cons (pv 0) (pa_cons pe_str pa_nil)))) (pss_one (ps_ost (f := "line") (pv 0) (pv 1)))))), ?_⟩
    obtain ⟨a, C, v, rfl, hC, hf, ha, q⟩ := h
    rw [show L2.start ["self", "line"] [V.ref a, v] = [some (.ref a), some v] from rfl]
    walk_at "kx"
    walk_at "go"
    refine ⟨a, C, _, rfl, by show 1 ≤ 1000; decide, hC, ha, ?_⟩
    walk_at "go"
    exact ⟨a, C, rfl, hC, hf, .inl ⟨ha, fun dx h1 h2 => q dx h1 h2⟩⟩
theorem okH_ParseError_init (T : Tx K mg) : ∃ fd, L2H.FnH P w K mg base CX0 1 (He.ma K (He.ga K "ParseError") "__init__") fd ["self", "line"] (spI K "line") ∧ Binds K fd ["self", "line"] [] := by
  obtain ⟨fd, F⟩ := T.f_ParseError_init
  refine ⟨fd, ?_, F.bindsN (fun _ _ _ _ _ _ us hl => match us, hl with | [_, _], _ => rfl)⟩
  refine okH F sc_ParseError_init (fun vs H Q E h => ?_) (fun cdv A outer s H vs Q E p hp hr h => ?_)
  · obtain ⟨_, _, _, rfl, _⟩ := h; rfl
  · refine ⟨_, (PSs.nox (by exact (pss_cons (ps_expr (pe_veinit rfl T.n_ValueError T.vV (pa_cons (pv 0) (pa_cons pe_str pa_nil)))) (pss_one (ps_ost (f := "line") (pv 0) (pv 1)))))), ?_⟩
    obtain ⟨a, C, v, rfl, hC, hf, ha, q⟩ := h
    rw [show L2.start ["self", "line"] [V.ref a, v] = [some (.ref a), some v] from rfl]
    walk_at "kx"
    walk_at "go"
    refine ⟨a, C, _, rfl, by show 1 ≤ 1000; decide, hC, ha, ?_⟩
    walk_at "go"
    exact ⟨a, C, rfl, hC, hf, .inl ⟨ha, fun dx h1 h2 => q dx h1 h2⟩⟩
end
end K77

namespace K77
open PySem PySem.Spec PyProof.Rows L2 Fw
section
variable {P : Program} {w : World} {K : PySem.W.Frag} {mg : Str → Option Value} {base : Heap}
def sp_req (K : PySem.W.Frag) : Sp := fun vs H Q E => ∃ (a : Addr) (p q : Int), vs = [.ref a] ∧ TpA K H a [.int p, .int q] ∧ (okV p q → ∀ H', Ch [] H H' → Q (.ref a) H') ∧ (¬ okV p q → ∀ H' d, Ch [] H H' → E (.ref (He.ga K "NotAValue")) (some d) H')
abbrev s_require_value : Stmt := (top 6)
theorem sc_require_value : FnScope ["value", "p", "q"] ["value"] (defScope s_require_value) := ⟨rfl, rfl, rfl, by decide +kernel, rfl, by decide +kernel, by decide +kernel⟩
theorem ok_require_value (T : Tx K mg) (c_are_integers : Cl P w K mg base CX0 1 "are_integers" (sp_are K) []) (c_common_divisor : Cl P w K mg base CX0 1 "common_divisor" sp_common []) : Cl P w K mg base (L2N.CX P w) 3 "require_value" (sp_req K) [] := by
  obtain ⟨fd, F⟩ := T.f_require_value
  refine ⟨_, fd, ["value"], [], ?_, T.g_require_value, F.kp, F.bindsN (fun _ _ _ _ _ _ us hl => match us, hl with | [_], _ => rfl), .nil⟩
  refine F.ok sc_require_value (fun vs H Q E h => ?_) (fun cdv A outer s H vs Q E hr h => ?_)
  · first | (obtain ⟨_, rfl, _⟩ := h; rfl) | (obtain ⟨_, _, rfl, _⟩ := h; rfl) | (obtain ⟨_, _, _, rfl, _⟩ := h; rfl) | (obtain ⟨_, _, _, _, rfl, _⟩ := h; rfl) | (obtain ⟨_, _, _, _, _, rfl, _⟩ := h; rfl) | (obtain ⟨_, _, _, _, _, _, rfl, _⟩ := h; rfl)
  · have hu := hu_of hr
    have tk : L2N.Takes (cxOf (L2N.CX P w) P w K mg base ["value", "p", "q"] "require_value" (defScope s_require_value) (He.ga K "require_value") cdv A outer s H E) (fun cls d _ H => E cls d H) := L2N.takes_of rfl rfl rfl rfl
    obtain ⟨_, Fi_NotAValue, bi_NotAValue⟩ := ok_NotAValue_init (P := P) (w := w) (base := base) T
    refine ⟨_, (pss_cons (ps_if (pt_not (pt_val (pcl c_are_integers (hr.mono (by decide)) pass0 (pa_cons (pv 0) (pa_cons pe_int pa_nil)))))
      (pss_one (L2N.ps_raise rfl tk (mkN T.x_NotAValue.o T.x_NotAValue.i T.x_NotAValue.t Fi_NotAValue (hr.mono (by decide)) bi_NotAValue pass0 rfl T.x_NotAValue.g (pa_cons (pv 0) pa_nil))))
      pss_nil)
      (pss_cons (ps_asg (pv 0) (pg_tup (by rfl) (pgs_cons (pg_name (i := 1) sc_require_value.nd rfl (Or.inl rfl)) (pgs_cons (pg_name (i := 2) sc_require_value.nd rfl (Or.inl rfl)) pgs_nil))))
      (pss_cons (ps_if (PW.pt (pw_or (pt_cmpR op_lt (pv 2) pe_int (nomark _)) (pw_or (pt_cmpR op_ne (pcl c_common_divisor (hr.mono (by decide)) pass0 (pa_cons (pv 1) (pa_cons (pv 2) pa_nil))) pe_int (nomark _)) (pw_or1 (PW.pt (pw_and (pt_cmpR op_eq (pv 2) pe_int (nomark _)) (pw_and1 (pt_cmpR op_ne (pv 1) pe_int (nomark _)))))))))
      (pss_one (L2N.ps_raise rfl tk (mkN T.x_NotAValue.o T.x_NotAValue.i T.x_NotAValue.t Fi_NotAValue (hr.mono (by decide)) bi_NotAValue pass0 rfl T.x_NotAValue.g (pa_cons (pv 0) pa_nil))))
      pss_nil)
      (pss_one (ps_ret (pv 0)))))), ?_⟩
    obtain ⟨a, p, q, rfl, ht, qy, qn⟩ := h
    rw [show L2.start ["value", "p", "q"] [V.ref a] = [some (.ref a), none, none] from rfl]
    walk_at "kx"
    walk_at "go"
    refine ⟨a, [p, q], rfl, ht, by show 2 ≤ 1000; decide, fun H1 hc1 => ?_⟩
    have ht1 := ht.mono (Tl.ch0 hc1)
    walk_at "go"
    refine vTupG ht1.sq rfl ?_
    walk_at "go"
    have bad : ¬ okV p q → ∀ d, H1 d = none → E (.ref (He.ga K "NotAValue")) (some d) (upd H1 d (.xd [("value", V.ref a)])) := fun n d hd => qn n _ d (hc1.trans (Ch.alloc hd _))
    refine iteB (fun c1 => ?_) (fun c1 => ?_)
    · walk_at "go"
      exact mkO_go T.x_NotAValue.o T.x_NotAValue.a (bad fun h => by have := of_decide_eq_true c1; have := h.1; omega)
    · have c1 := of_decide_eq_false c1
      walk_at "go"
      refine ⟨p, q, rfl, ?_⟩
      walk_at "go"
      refine iteB (fun c2 => ?_) (fun c2 => ?_)
      · walk_at "go"
        refine mkO_go T.x_NotAValue.o T.x_NotAValue.a (bad fun h => ?_)
        rw [h.2.1] at c2
        cases c2
      · have g1 : Int.gcd p q = 1 := by
          have := V.int.inj (of_decide_eq_true (by simpa using c2))
          omega
        walk_at "go"
        refine iteB (fun c3 => ?_) (fun c3 => ?_)
        · have z := V.int.inj (of_decide_eq_true c3)
          walk_at "go"
          refine iteB (fun c4 => ?_) (fun c4 => ?_)
          · walk_at "go"
            refine mkO_go T.x_NotAValue.o T.x_NotAValue.a (bad fun h => ?_)
            rw [h.2.2 z] at c4
            cases c4
          · walk_at "go"
            have : p = 1 := V.int.inj (of_decide_eq_true (by simpa using c4))
            exact qy ⟨by omega, g1, fun _ => this⟩ _ hc1
        · walk_at "go"
          exact qy ⟨by omega, g1, fun z => absurd (by rw [z]) (of_decide_eq_false c3)⟩ _ hc1
def okVb (a b : Int) : Bool := decide (0 ≤ b ∧ Int.gcd a b = 1 ∧ (b = 0 → a = 1))
theorem okVb_iff {a b : Int} : okVb a b = true ↔ okV a b := decide_eq_true_iff
/-- what the words of a value's text are -/
def wordsV (z : List Nat) : List (List Nat) := TL.spl [47] 0 [] z
def parseV (z : List Nat) : Option (Int × Int) := match (wordsV z).map sgnIn with
  | [some p, some q] => if okVb p q = true then some (p, q) else none
  | _ => none
theorem spl_count (S : List Nat) : ∀ (l : List Nat) (k : Nat) (acc : List Nat), (TL.spl S k acc l).length ≤ l.length + 1
  | [], k, acc => by cases k <;> (unfold TL.spl; simp)
  | c :: r, 0, acc => by
    unfold TL.spl
    split
    · have := spl_count S r (S.length - 1) []
      rw [List.length_cons, List.length_cons]; omega
    · have := spl_count S r 0 (acc ++ [c])
      rw [List.length_cons]; omega
  | c :: r, k + 1, acc => by
    unfold TL.spl
    have := spl_count S r k acc
    rw [List.length_cons]; omega
theorem spl_mem (S : List Nat) : ∀ (l : List Nat) (k : Nat) (acc p : List Nat), p ∈ TL.spl S k acc l → p.length ≤ acc.length + l.length ∧ ∀ c ∈ p, c ∈ acc ∨ c ∈ l
  | [], k, acc, p, h => by
    have e : p = acc := by cases k <;> (unfold TL.spl at h; simpa using h)
    subst e
    exact ⟨by simp, fun c hc => .inl hc⟩
  | d :: r, 0, acc, p, h => by
    unfold TL.spl at h
    split at h
    · rcases List.mem_cons.mp h with h | h
      · subst h
        exact ⟨by simp, fun c hc => .inl hc⟩
      · obtain ⟨h1, h2⟩ := spl_mem S r _ _ _ h
        refine ⟨by simp at h1 ⊢; omega, fun c hc => .inr ?_⟩
        rcases h2 c hc with z | z
        · cases z
        · exact List.mem_cons_of_mem _ z
    · obtain ⟨h1, h2⟩ := spl_mem S r _ _ _ h
      refine ⟨by simp at h1 ⊢; omega, fun c hc => ?_⟩
      rcases h2 c hc with z | z
      · rcases List.mem_append.mp z with y | y
        · exact .inl y
        · exact .inr (by rw [List.mem_singleton.mp y]; exact List.mem_cons_self ..)
      · exact .inr (List.mem_cons_of_mem _ z)
  | d :: r, k + 1, acc, p, h => by
    unfold TL.spl at h
    obtain ⟨h1, h2⟩ := spl_mem S r _ _ _ h
    refine ⟨by simp; omega, fun c hc => ?_⟩
    rcases h2 c hc with z | z
    · exact .inl z
    · exact .inr (List.mem_cons_of_mem _ z)
theorem sg_slash : sg "/" = [47] := by decide +kernel
theorem split_words (z : Str) : (Txt.split z "/").map sg = wordsV (sg z) := by
  have h := TL.split_spl z "/" (by rw [show TL.tl "/" = [47] from sg_slash]; simp) (TL.kind_ok (by decide +kernel))
  have e : TL.tl "/" = [47] := sg_slash
  rw [e] at h
  exact h
theorem split_count (z : Str) : (Txt.split z "/").length ≤ z.length + 1 := by
  have e := congrArg List.length (split_words z)
  rw [List.length_map] at e
  rw [e, ← sg_len]
  exact spl_count _ _ _ _
theorem split_part {z s : Str} (h : s ∈ Txt.split z "/") : sg s ∈ wordsV (sg z) := by
  rw [← split_words]
  exact List.mem_map.mpr ⟨s, h, rfl⟩
theorem split_len {z s : Str} (h : s ∈ Txt.split z "/") : s.length ≤ z.length := by
  rw [← sg_len, ← sg_len]
  have := (spl_mem _ _ _ _ _ (split_part h)).1
  simpa using this
theorem split_ok {z s : Str} (h : s ∈ Txt.split z "/") (ok : okS (sg z)) : okS (sg s) := fun c hc => by
  rcases (spl_mem _ _ _ _ _ (split_part h)).2 c hc with y | y
  · cases y
  · exact ok c y
def fSgn : V → Option PyData := fun v => match v with | .str s => some (oD (sgnIn (sg s))) | _ => none
theorem fSgn_split (z : Str) : ((Txt.split z "/").map V.str).filterMap fSgn = ((wordsV (sg z)).map sgnIn).map oD := by
  rw [← split_words, List.filterMap_map, List.map_map, List.map_map, ← List.filterMap_eq_map]
  rfl
theorem imOs {H : Hp} : ∀ {os : List (Option Int)} {ys : List V}, ImAll K H ys (os.map oD) → ys = os.map oV
  | [], _, .nil => rfl
  | none :: r, _, .cons .non h => by rw [imOs h]; rfl
  | some i :: r, _, .cons (.int _) h => by rw [imOs h]; rfl
theorem flat_os (os : List (Option Int)) : (os.map oV).all flatV = true := by
  rw [List.all_map, List.all_eq_true]
  intro o _
  cases o <;> rfl
theorem inV_os (os : List (Option Int)) : inV .non (os.map oV) = os.any Option.isNone := by
  induction os with
  | nil => rfl
  | cons o r ih =>
    cases o with
    | none => rfl
    | some i => exact ih
def sp_parse (K : PySem.W.Frag) : Sp := fun vs H Q E => ∃ z : Str, vs = [.str z] ∧ z.length ≤ 1000000 ∧
  (∀ p q a H', parseV (sg z) = some (p, q) → H' a = some (.tup [.int p, .int q]) → H a = none → Ch [] H H' → Q (.ref a) H') ∧
  (∀ H' d, parseV (sg z) = none → H' d = some (.xd [("line", .int 0)]) → Ch [] H H' → E (.ref (He.ga K "ParseError")) (some d) H')
abbrev s_parse_value : Stmt := (top 13)
theorem sc_parse_value : FnScope ["text", "words", "numbers", "word"] ["text"] (defScope s_parse_value) := ⟨rfl, rfl, rfl, by decide +kernel, rfl, by decide +kernel, by decide +kernel⟩
theorem ok_parse_value (T : Tx K mg) (c_signed_number_in : Cl P w K mg base CX0 2 "signed_number_in" sp_sgn []) (c_require_value : Cl P w K mg base (L2N.CX P w) 3 "require_value" (sp_req K) []) : Cl P w K mg base (L2.CX P w) 4 "parse_value" (sp_parse K) [] := by
  obtain ⟨fd, F⟩ := T.f_parse_value
  refine ⟨_, fd, ["text"], [], ?_, T.g_parse_value, F.kp, F.bindsN (fun _ _ _ _ _ _ us hl => match us, hl with | [_], _ => rfl), .nil⟩
  refine F.ok sc_parse_value (fun vs H Q E h => ?_) (fun cdv A outer s H vs Q E hr h => ?_)
  · first | (obtain ⟨_, rfl, _⟩ := h; rfl) | (obtain ⟨_, _, rfl, _⟩ := h; rfl) | (obtain ⟨_, _, _, rfl, _⟩ := h; rfl) | (obtain ⟨_, _, _, _, rfl, _⟩ := h; rfl) | (obtain ⟨_, _, _, _, _, rfl, _⟩ := h; rfl) | (obtain ⟨_, _, _, _, _, _, rfl, _⟩ := h; rfl)
  · have hu := hu_of hr
    have tk : L2.Takes (cxOf (L2.CX P w) P w K mg base ["text", "words", "numbers", "word"] "parse_value" (defScope s_parse_value) (He.ga K "parse_value") cdv A outer s H E) (fun cls d _ H => E cls d H) := L2.takes_of rfl rfl rfl rfl
    obtain ⟨_, Fi_ParseError, bi_ParseError⟩ := ok_ParseError_init (P := P) (w := w) (base := base) T
    obtain ⟨_, Fh_ParseError, bh_ParseError⟩ := okH_ParseError_init (P := P) (w := w) (base := base) T
    refine ⟨_, (pss_cons (ps_set (i := 1) sc_parse_value.nd rfl (Or.inl rfl) (pe_split (pv 0) pe_str))
      (pss_cons (ps_set (i := 2) sc_parse_value.nd rfl (Or.inl rfl) (pe_callTy (T := "tuple") call_tuple_of (by rfl) T.n_tuple (by decide +kernel) (pa_cons (pe_lc (own := [("word", 3)]) (g := gName 3) (by rfl) sc_parse_value.nd (pi_list (pv 1)) (blkOk_by (own := [("word", 3)]) (N := ["text", "words", "numbers", "word"]) (sc := defScope s_parse_value) (by decide +kernel)) (fun _ _ _ _ _ => (pg_name (i := 3) sc_parse_value.nd rfl (Or.inl rfl))) (fun _ _ _ _ _ => pts_nil) (fun _ _ _ _ _ => (pcl c_signed_number_in (hr.mono (by decide)) pass0 (pa_cons (pv 3) pa_nil)))) pa_nil)))
      (pss_cons (ps_if (PW.pt (pw_or (pt_cmpR op_ne (pe_callB (id := "len") call_len (by rfl) T.n_len (by decide +kernel) (pa_cons (pv 2) pa_nil)) pe_int (nomark _)) (pw_or1 (pt_cmpR op_in_seq pe_non (pv 2) (by rfl)))))
      (pss_one (ps_raise rfl tk (pmk_oex T.x_ParseError.o T.x_ParseError.i T.x_ParseError.t Fi_ParseError (hr.mono (by decide)) bi_ParseError .nil pass0 rfl T.x_ParseError.g (pa_cons pe_int pa_nil))))
      pss_nil)
      (pss_one (L2H.ps_try_onlyX rfl rfl ⟨rfl, by decide, .inl T.x_NotAValue.g⟩ (L2H.passesAt_of rfl) tk (fun _ _ _ tkB tkP hp => (pss_one (ps_ret (pclS c_require_value (hr.mono (by decide)) (fun σ => L2N.passAt tkB σ) (pa_cons (pv 2) pa_nil))))) (fun _ _ _ _ _ _ _ tk hot => (pss_one (L2H.ps_raiseH hot tk (L2H.PMk5.pmk (L2H.pmk5_oexH T.x_ParseError.o T.x_ParseError.i T.x_ParseError.t Fh_ParseError (L2H.roomH_mark (hr.mono (by decide)) _) hot bh_ParseError pass0 rfl T.x_ParseError.g (pa_cons pe_int pa_nil))))))))))), ?_⟩
    obtain ⟨z, rfl, hz, qy, qn⟩ := h
    rw [show L2.start ["text", "words", "numbers", "word"] [V.str z] = [some (.str z), none, none, none] from rfl]
    walk_at "kx"
    walk_at "go"
    refine ⟨⟨z, rfl⟩, ?_⟩
    walk_at "go"
    refine ⟨z, _, rfl, rfl, by decide, by rw [sizeLine_eq]; omega, fun wa hwa => ?_⟩
    walk_at "go"
    refine ⟨⟨_, .inl (.inl upd_same)⟩, vBlk K fSgn (src_list (.inl (.inl upd_same))) (by rw [List.length_map, sizeLine_eq]; have := split_count z; omega) (fun D x H' R R0 hx _ hch hR _ => ?_) (fun D H' ys hD hc hy im => ?_)⟩
    · obtain ⟨s, hs, rfl⟩ := List.mem_map.mp hx
      walk_at "go"
      refine ⟨Nat.le_trans (split_len hs) hz, fun H4 c4 => ?_⟩
      exact hR _ _ _ c4 rfl (imO _)
    · rw [fSgn_split] at im
      cases imOs im
      walk_at "go"
      refine ⟨D, _, rfl, .inl ⟨.inl (.inl hy), fun l hl => ?_⟩⟩
      have ch2 : Ch [] H (upd H' l (.tup (((wordsV (sg z)).map sgnIn).map oV))) := (Ch.alloc hwa _).trans (hc.trans (Ch.alloc hl _))
      have nl : H l = none := by
        cases e : H l with
        | none => rfl
        | some u =>
          have := ((Ch.alloc (S := []) hwa _).trans hc) l u e (by simp)
          rw [hl] at this
          cases this
      have et : (upd H' l (.tup (((wordsV (sg z)).map sgnIn).map oV))) l = some (.tup (((wordsV (sg z)).map sgnIn).map oV)) := upd_same
      generalize upd H' l (.tup (((wordsV (sg z)).map sgnIn).map oV)) = H2 at ch2 et ⊢
      have pe : parseV (sg z) = (match (wordsV (sg z)).map sgnIn with | [some p, some q] => if okVb p q = true then some (p, q) else none | _ => none) := rfl
      generalize (wordsV (sg z)).map sgnIn = os at *
      walk_at "go"
      refine vLenT (.inl et) ?_
      walk_at "go"
      have bad : parseV (sg z) = none → ∀ d, H2 d = none → E (.ref (He.ga K "ParseError")) (some d) (upd H2 d (.xd [("line", .int 0)])) := fun n d hd => qn _ d n upd_same (ch2.trans (Ch.alloc hd _))
      rw [List.length_map]
      refine iteB (fun c1 => ?_) (fun c1 => ?_)
      · walk_at "go"
        refine mkO_go T.x_ParseError.o T.x_ParseError.a (bad ?_)
        rw [pe]
        split
        · rename_i h; cases c1
        · rfl
      · walk_at "go"
        refine ⟨l, _, rfl, .inr (.inl (.inl et)), rfl, flat_os os, ?_⟩
        walk_at "go"
        rw [inV_os]
        refine iteB (fun c2 => ?_) (fun c2 => ?_)
        · walk_at "go"
          refine mkO_go T.x_ParseError.o T.x_ParseError.a (bad ?_)
          rw [pe]
          split
          · rename_i h; cases c2
          · rfl
        · obtain ⟨p, q, rfl⟩ : ∃ p q, os = [some p, some q] := by
            have l2 : os.length = 2 := by
              have := V.int.inj (of_decide_eq_true (by simpa using c1))
              omega
            match os, l2, c2 with
            | [some p, some q], _, _ => exact ⟨p, q, rfl⟩
            | [none, _], _, c => cases c
            | [some p, none], _, c => cases c
          walk_at "go"
          refine ⟨l, p, q, rfl, .inl et, fun hk H3 hc3 => ?_, fun hk H3 d hc3 => ?_⟩
          · exact qy p q l _ (by rw [pe]; exact if_pos (okVb_iff.mpr hk)) (hc3 _ _ et (by simp)) nl (ch2.trans hc3)
          · refine ⟨true, T.e_NN, fun _ a ha => ?_, fun z => by cases z⟩
            walk_at "go"
            refine mkO_go T.x_ParseError.o T.x_ParseError.a fun d hd => qn _ d ?_ upd_same (ch2.trans (hc3.trans (Ch.alloc hd _)))
            rw [pe]
            exact if_neg fun y => hk (okVb_iff.mp y)
theorem passE {X : Cx} : Passes (L2.CX X.prog X.w) X E0 := fun pins σ H s e s' I c => by
  obtain ⟨a, B, H', cls, d, _, _, _, _, _, _, _, z⟩ := c
  exact z.elim
end
end K77

namespace K77
open PySem PySem.Spec PyProof.Rows L2 Fw
section
variable {P : Program} {w : World} {K : PySem.W.Frag} {mg : Str → Option Value} {base : Heap}
theorem takesF {X : Cx} : L2.Takes X (fun _ _ _ _ => False) := fun u s' ⟨a, B, sI, pins, σ, H, cls, d, e, I, nb, up, sky, na, os, ag, w⟩ => w.elim
def expD (l : List Nat) : PyData := match parseV l with
  | some (p, q) => .tuple [.int p, .int q]
  | none => .int 0
def sp_out (K : PySem.W.Frag) : Sp := fun vs H Q _ => ∃ z : Str, vs = [.str z] ∧ z.length ≤ 1000000 ∧ okS (sg z) ∧ ∀ v H', Im K H' v (expD (sg z)) → Ch [] H H' → Q v H'
abbrev s__law_outcome : Stmt := (top 22)
theorem sc__law_outcome : FnScope ["text", "e"] ["text"] (defScope s__law_outcome) := ⟨rfl, rfl, rfl, by decide +kernel, rfl, by decide +kernel, by decide +kernel⟩
theorem ok__law_outcome (T : Tx K mg) (c_parse_value : Cl P w K mg base (L2.CX P w) 4 "parse_value" (sp_parse K) []) : Cl P w K mg base CX0 5 "_law_outcome" (sp_out K) [] := by
  obtain ⟨fd, F⟩ := T.f__law_outcome
  refine ⟨_, fd, ["text"], [], ?_, T.g__law_outcome, F.kp, F.bindsN (fun _ _ _ _ _ _ us hl => match us, hl with | [_], _ => rfl), .nil⟩
  refine F.ok sc__law_outcome (fun vs H Q E h => ?_) (fun cdv A outer s H vs Q E hr h => ?_)
  · first | (obtain ⟨_, rfl, _⟩ := h; rfl) | (obtain ⟨_, _, rfl, _⟩ := h; rfl) | (obtain ⟨_, _, _, rfl, _⟩ := h; rfl) | (obtain ⟨_, _, _, _, rfl, _⟩ := h; rfl) | (obtain ⟨_, _, _, _, _, rfl, _⟩ := h; rfl) | (obtain ⟨_, _, _, _, _, _, rfl, _⟩ := h; rfl)
  · have hu := hu_of hr
    refine ⟨_, (PSs.nox (by exact (pss_one (ps_try_as (i := 1) rfl rfl sc__law_outcome.nd rfl rfl ⟨rfl, by decide, .inl T.x_ParseError.g⟩ takesF (fun _ _ _ tkB hp => (pss_one (ps_ret (pclS c_parse_value (hr.mono (by decide)) (fun σ => passAt tkB σ) (pa_cons (pv 0) pa_nil))))) (fun _ _ _ _ _ hz hf => (pss_one (ps_ret (pe_xf T.xf_ParseError T.x_ParseError.a hz hf (pv 1))))))))), ?_⟩
    obtain ⟨z, rfl, hz, _, q⟩ := h
    rw [show L2.start ["text", "e"] [V.str z] = [some (.str z), none] from rfl]
    walk_at "kx"
    walk_at "go"
    refine ⟨hz, fun a b l H1 hp e1 n1 ch => ?_, fun H1 d hp e1 ch => ?_⟩
    · refine q _ _ ?_ ch
      unfold expD
      rw [hp]
      exact .tup (.inl e1) (.cons (.int a) (.cons (.int b) .nil))
    · refine ⟨true, T.e_PP, fun _ a ha => ?_, fun y => by cases y⟩
      walk_at "go"
      refine ⟨d, _, .int 0, rfl, e1, rfl, ?_⟩
      refine q _ _ ?_ ch
      unfold expD
      rw [hp]
      exact .int 0
abbrev s__law_expected : Stmt := (top 21)
theorem sc__law_expected : FnScope ["text", "numbers", "word"] ["text"] (defScope s__law_expected) := ⟨rfl, rfl, rfl, by decide +kernel, rfl, by decide +kernel, by decide +kernel⟩
theorem ok__law_expected (T : Tx K mg) (c__law_number : Cl P w K mg base CX0 1 "_law_number" sp_lnum []) (c__law_common : Cl P w K mg base CX0 1 "_law_common" sp_common []) : Cl P w K mg base CX0 2 "_law_expected" (sp_out K) [] := by
  obtain ⟨fd, F⟩ := T.f__law_expected
  refine ⟨_, fd, ["text"], [], ?_, T.g__law_expected, F.kp, F.bindsN (fun _ _ _ _ _ _ us hl => match us, hl with | [_], _ => rfl), .nil⟩
  refine F.ok sc__law_expected (fun vs H Q E h => ?_) (fun cdv A outer s H vs Q E hr h => ?_)
  · first | (obtain ⟨_, rfl, _⟩ := h; rfl) | (obtain ⟨_, _, rfl, _⟩ := h; rfl) | (obtain ⟨_, _, _, rfl, _⟩ := h; rfl) | (obtain ⟨_, _, _, _, rfl, _⟩ := h; rfl) | (obtain ⟨_, _, _, _, _, rfl, _⟩ := h; rfl) | (obtain ⟨_, _, _, _, _, _, rfl, _⟩ := h; rfl)
  · have hu := hu_of hr
    refine ⟨_, (PSs.nox (by exact (pss_cons (ps_setLc (i := 1) (own := [("word", 2)]) (g := gName 2) (by rfl) sc__law_expected.nd rfl rfl (sw_true rfl rfl rfl (by decide +kernel)) (pi_list (pe_split (pv 0) pe_str)) (blkOk_by (own := [("word", 2)]) (N := ["text", "numbers", "word"]) (sc := defScope s__law_expected) (by decide +kernel)) (fun _ _ _ _ _ => (pg_name (i := 2) sc__law_expected.nd rfl (Or.inl rfl))) (fun _ _ _ _ _ => pts_nil) (fun _ _ _ _ _ => (pcl c__law_number (hr.mono (by decide)) pass0 (pa_cons (pv 2) pa_nil))))
      (pss_cons (ps_if (PW.pt (pw_or (pt_cmpR op_ne (pe_callB (id := "len") call_len (by rfl) T.n_len (by decide +kernel) (pa_cons (pv 1) pa_nil)) pe_int (nomark _)) (pw_or (pt_cmpR op_in_seq pe_non (pv 1) (by rfl)) (pw_or (pt_cmpR op_lt (pe_ix ix_list (pv 1) pe_int (fun _ _ => rfl)) pe_int (nomark _)) (pw_or1 (pt_cmpR op_ne (pcl c__law_common (hr.mono (by decide)) pass0 (pa_cons (pe_ix ix_list (pv 1) pe_int (fun _ _ => rfl)) (pa_cons (pe_ix ix_list (pv 1) pe_int (fun _ _ => rfl)) pa_nil))) pe_int (nomark _)))))))
      (pss_one (ps_ret pe_int))
      pss_nil)
      (pss_one (ps_ret (pe_ifExp (PW.pt (pw_and (pt_cmpR op_eq (pe_ix ix_list (pv 1) pe_int (fun _ _ => rfl)) pe_int (nomark _)) (pw_and1 (pt_cmpR op_ne (pe_ix ix_list (pv 1) pe_int (fun _ _ => rfl)) pe_int (nomark _))))) pe_int (pe_callTy (T := "tuple") call_tuple_of (by rfl) T.n_tuple (by decide +kernel) (pa_cons (pv 1) pa_nil))))))))), ?_⟩
    obtain ⟨z, rfl, hz, ok, q⟩ := h
    rw [show L2.start ["text", "numbers", "word"] [V.str z] = [some (.str z), none, none] from rfl]
    walk_at "kx"
    walk_at "go"
    refine ⟨⟨z, rfl⟩, ?_⟩
    walk_at "go"
    refine ⟨z, _, rfl, rfl, by decide, by rw [sizeLine_eq]; omega, fun wa hwa => ?_⟩
    walk_at "go"
    refine ⟨⟨_, .inl (.inl upd_same)⟩, vBlk K fSgn (src_list (.inl (.inl upd_same))) (by rw [List.length_map, sizeLine_eq]; have := split_count z; omega) (fun D x H' R R0 hx _ hch hR _ => ?_) (fun D H' ys hD hc hy im => ?_)⟩
    · obtain ⟨s, hs, rfl⟩ := List.mem_map.mp hx
      walk_at "go"
      refine ⟨Nat.le_trans (split_len hs) hz, split_ok hs ok, fun H4 c4 => ?_⟩
      exact hR _ _ _ c4 rfl (imO _)
    · rw [fSgn_split] at im
      cases imOs im
      have ch2 : Ch [] H H' := (Ch.alloc hwa _).trans hc
      have pe : expD (sg z) = (match (match (wordsV (sg z)).map sgnIn with | [some p, some q] => if okVb p q = true then some (p, q) else none | _ => none) with | some (p, q) => .tuple [.int p, .int q] | none => .int 0) := rfl
      generalize (wordsV (sg z)).map sgnIn = os at *
      have no : (∀ p q, os = [some p, some q] → okVb p q = false) → ∀ H3, Ch [] H H3 → Q (.int 0) H3 := fun h H3 c3 => by
        refine q _ _ ?_ c3
        rw [pe]
        split
        · rename_i h2
          split at h2
          · rename_i p q
            rw [if_neg (by rw [h p q rfl]; decide)] at h2
            cases h2
          · cases h2
        · exact .int 0
      walk_at "go"
      refine vLenL (.inl (.inl hy)) ?_
      walk_at "go"
      rw [List.length_map]
      refine iteB (fun c1 => ?_) (fun c1 => ?_)
      · walk_at "go"
        refine no (fun p q e => ?_) _ ch2
        subst e
        cases c1
      · walk_at "go"
        refine ⟨D, _, rfl, .inl (.inl (.inl hy)), rfl, flat_os os, ?_⟩
        walk_at "go"
        rw [inV_os]
        refine iteB (fun c2 => ?_) (fun c2 => ?_)
        · walk_at "go"
          refine no (fun p q e => ?_) _ ch2
          subst e
          cases c2
        · obtain ⟨a, b, rfl⟩ : ∃ p q, os = [some p, some q] := by
            have l2 : os.length = 2 := by
              have := V.int.inj (of_decide_eq_true (by simpa using c1))
              omega
            match os, l2, c2 with
            | [some p, some q], _, _ => exact ⟨p, q, rfl⟩
            | [none, _], _, c => cases c
            | [some p, none], _, c => cases c
          have no2 : okVb a b = false → ∀ H3, Ch [] H H3 → Q (.int 0) H3 := fun h => no fun p q e => by cases e; exact h
          have yes : okVb a b = true → ∀ l H3, H3 l = some (.tup [.int a, .int b]) → Ch [] H H3 → Q (.ref l) H3 := fun h l H3 e3 c3 => by
            refine q _ _ ?_ c3
            rw [pe]
            dsimp only
            rw [if_pos h]
            exact .tup (.inl e3) (.cons (.int a) (.cons (.int b) .nil))
          have hy' : SqL K H' D [.int a, .int b] := .inl (.inl hy)
          walk_at "go"
          refine vIxL hy' atI_1 ?_
          walk_at "go"
          refine iteB (fun c3 => ?_) (fun c3 => ?_)
          · walk_at "go"
            refine no2 (decide_eq_false fun h => ?_) _ ch2
            have := of_decide_eq_true c3
            omega
          · have c3 := of_decide_eq_false c3
            walk_at "go"
            refine vIxL hy' atI_0 ?_
            walk_at "go"
            refine vIxL hy' atI_1 ?_
            walk_at "go"
            refine ⟨a, b, rfl, ?_⟩
            walk_at "go"
            refine iteB (fun c4 => ?_) (fun c4 => ?_)
            · walk_at "go"
              refine no2 (decide_eq_false fun h => ?_) _ ch2
              rw [h.2.1] at c4
              cases c4
            · have g1 : Int.gcd a b = 1 := by
                have := V.int.inj (of_decide_eq_true (by simpa using c4))
                omega
              walk_at "go"
              refine vIxL hy' atI_1 ?_
              walk_at "go"
              refine iteB (fun c5 => ?_) (fun c5 => ?_)
              · have z5 := V.int.inj (of_decide_eq_true c5)
                walk_at "go"
                refine vIxL hy' atI_0 ?_
                walk_at "go"
                refine iteB (fun c6 => ?_) (fun c6 => ?_)
                · walk_at "go"
                  refine no2 (decide_eq_false fun h => ?_) _ ch2
                  rw [h.2.2 z5] at c6
                  cases c6
                · have a1 : a = 1 := V.int.inj (of_decide_eq_true (by simpa using c6))
                  walk_at "go"
                  refine ⟨D, _, rfl, .inl ⟨hy', fun l hl => ?_⟩⟩
                  exact yes (decide_eq_true ⟨by omega, g1, fun _ => a1⟩) l _ upd_same (ch2.trans (Ch.alloc hl _))
              · walk_at "go"
                refine ⟨D, _, rfl, .inl ⟨hy', fun l hl => ?_⟩⟩
                exact yes (decide_eq_true ⟨by omega, g1, fun y => absurd (by rw [y]) (of_decide_eq_false c5)⟩) l _ upd_same (ch2.trans (Ch.alloc hl _))
end
end K77

namespace K77
open PySem PySem.Spec PyProof.Rows L2 Fw
section
open TL
variable {K : PySem.W.Frag}
theorem numIn_num {n : Nat} (h : n < 10 ^ 60) : numIn (numL n) = some (n : Int) := by
  have l1 := numL_len (k := 60) (by decide) h
  have l2 : 1 ≤ (numL n).length := List.length_pos_iff.mpr (numL_ne n)
  rw [numIn_some ⟨l2, l1, all_dg.mpr (numL_digits n), numL_head n⟩, numL_val]
theorem numL_no45 (n : Nat) : (numL n).take 1 ≠ [45] := fun e => by
  have := take1 e
  have h := numL_digits n 45 (by rw [this]; exact List.mem_cons_self ..)
  omega
theorem sgn_int {i : Int} (h : i.natAbs < 10 ^ 60) : sgnIn (sg (Str.ofString (toString i))) = some i := by
  rcases Int.lt_or_le i 0 with c | c
  · obtain ⟨n, rfl⟩ : ∃ n : Nat, i = -(n : Int) := ⟨i.natAbs, by omega⟩
    have n0 : 0 < n := by omega
    have e := sg_neg n0
    rw [show sg (Str.ofString (toString (-(n : Int)))) = 45 :: numL n from e, sgn_minus rfl]
    show (match numIn (numL n) with | some n => if 0 < n then some (-n) else none | none => none) = _
    rw [numIn_num (by omega)]
    exact if_pos (by omega)
  · obtain ⟨n, rfl⟩ : ∃ n : Nat, i = (n : Int) := ⟨i.toNat, by omega⟩
    rw [show sg (Str.ofString (toString (n : Int))) = numL n from sg_nat n, sgn_plain (numL_no45 n)]
    exact numIn_num (by omega)
theorem int_signs (i : Int) : ∀ c ∈ sg (Str.ofString (toString i)), c = 45 ∨ (48 ≤ c ∧ c ≤ 57) := by
  intro c hc
  rcases Int.lt_or_le i 0 with h | h
  · obtain ⟨n, rfl⟩ : ∃ n : Nat, i = -(n : Int) := ⟨i.natAbs, by omega⟩
    rw [show sg (Str.ofString (toString (-(n : Int)))) = 45 :: numL n from sg_neg (by omega)] at hc
    rcases List.mem_cons.mp hc with e | e
    · exact .inl e
    · exact .inr (numL_digits n c e)
  · obtain ⟨n, rfl⟩ : ∃ n : Nat, i = (n : Int) := ⟨i.toNat, by omega⟩
    rw [show sg (Str.ofString (toString (n : Int))) = numL n from sg_nat n] at hc
    exact .inr (numL_digits n c hc)
theorem no_slash (i : Int) : 47 ∉ sg (Str.ofString (toString i)) := fun h => by have := int_signs i 47 h; omega
/-- the text of a pair -/
def pairT (a b : Int) : Str := Str.ofString (toString a) ++ "/" ++ Str.ofString (toString b)
theorem sg_pair (a b : Int) : sg (pairT a b) = sg (Str.ofString (toString a)) ++ 47 :: sg (Str.ofString (toString b)) := by
  unfold pairT
  rw [sg_app, sg_app, sg_slash, List.append_assoc]
  rfl
theorem words_pair (a b : Int) : wordsV (sg (pairT a b)) = [sg (Str.ofString (toString a)), sg (Str.ofString (toString b))] := by
  have h := TL.spl_join (s := 47) (S := []) (parts := [sg (Str.ofString (toString a)), sg (Str.ofString (toString b))]) (by simp) (fun p hp => by
    simp at hp
    rcases hp with e | e
    · rw [e]; exact no_slash a
    · rw [e]; exact no_slash b)
  rw [sg_pair]
  exact h
theorem parse_pair {a b : Int} (h : okV a b) (ha : a.natAbs ≤ 10 ^ 21) (hb : b.natAbs ≤ 10 ^ 21) : parseV (sg (pairT a b)) = some (a, b) := by
  unfold parseV
  have z : (10 : Nat) ^ 21 < 10 ^ 60 := by decide
  rw [words_pair, List.map_cons, List.map_cons, List.map_nil, sgn_int (by omega), sgn_int (by omega)]
  exact if_pos (okVb_iff.mpr h)
theorem pair_ok (a b : Int) : okS (sg (pairT a b)) := fun c hc => by
  rw [sg_pair] at hc
  rcases List.mem_append.mp hc with e | e
  · have := int_signs a c e; omega
  · rcases List.mem_cons.mp e with e | e
    · omega
    · have := int_signs b c e; omega
theorem pair_len {a b : Int} (ha : a.natAbs.log2 < 1920) (hb : b.natAbs.log2 < 1920) : (pairT a b).length ≤ 3900 := by
  unfold pairT
  have := intTxt ha
  have := intTxt hb
  have l3 : (Str.ofString "/").length = 1 := rfl
  rw [len_app, len_app]; omega
theorem log_of {n : Nat} {k : Nat} (h : n < 2 ^ k) (hk : 0 < k) : n.log2 < k := by
  rcases Nat.eq_zero_or_pos n with z | z
  · rw [z]; exact hk
  · exact (Nat.log2_lt (by omega)).mpr h
theorem log21 {a : Int} (h : a.natAbs ≤ 10 ^ 21) : a.natAbs.log2 < 1920 := log_of (Nat.lt_of_le_of_lt h (by decide +kernel)) (by decide)
theorem numIn_log {l : List Nat} {n : Int} (h : numIn l = some n) : n.natAbs.log2 < 1920 := by
  unfold numIn at h
  split at h
  · rename_i c
    cases h
    rw [Int.natAbs_natCast]
    exact val_log (all_dg.mp c.2.2.1) c.2.1
  · cases h
theorem sgn_log {l : List Nat} {n : Int} (h : sgnIn l = some n) : n.natAbs.log2 < 1920 := by
  unfold sgnIn at h
  split at h
  · split at h
    · rename_i m hm
      split at h
      · cases h
        rw [Int.natAbs_neg]
        exact numIn_log hm
      · cases h
    · cases h
  · exact numIn_log h
theorem parse_log {l : List Nat} {p q : Int} (h : parseV l = some (p, q)) : p.natAbs.log2 < 1920 ∧ q.natAbs.log2 < 1920 := by
  unfold parseV at h
  split at h
  · rename_i a b e
    split at h
    · cases h
      have e1 : some p ∈ (wordsV l).map sgnIn := by rw [e]; simp
      have e2 : some q ∈ (wordsV l).map sgnIn := by rw [e]; simp
      obtain ⟨x, _, hx⟩ := List.mem_map.mp e1
      obtain ⟨y, _, hy⟩ := List.mem_map.mp e2
      exact ⟨sgn_log hx, sgn_log hy⟩
    · cases h
  · cases h
/-- data whose repr is told -/
def shOk (d : PyData) : Prop := d.showable = true ∧ d.hasDict = false ∧ d.depth ≤ 100 ∧ d.shown.length ≤ sizeLine
theorem shOk_int {i : Int} (h : i.natAbs.log2 < 1920) : shOk (.int i) := by
  refine ⟨by unfold PyData.showable; exact decide_eq_true h, by unfold PyData.hasDict; rfl, by unfold PyData.depth; decide, ?_⟩
  unfold PyData.shown
  exact Nat.le_trans (intTxt h) (by decide)
theorem shOk_pair {p q : Int} (hp : p.natAbs.log2 < 1920) (hq : q.natAbs.log2 < 1920) : shOk (.tuple [.int p, .int q]) := by
  have l1 := intTxt hp
  have l2 := intTxt hq
  refine ⟨?_, ?_, ?_, ?_⟩
  · simp only [PyData.showable, PyData.showableAll, decide_eq_true hp, decide_eq_true hq, Bool.and_true]
  · simp only [PyData.hasDict, PyData.hasDictAll, Bool.or_false]
  · simp only [PyData.depth, PyData.depthAll]; decide
  · simp only [PyData.shown, PyData.shownAll]
    show (("(" : Str) ++ (Str.ofString (toString p) ++ ", " ++ Str.ofString (toString q)) ++ (")" : Str)).length ≤ sizeLine
    have e1 : (Str.ofString "(").length = 1 := rfl
    have e2 : (Str.ofString ")").length = 1 := rfl
    have e3 : (Str.ofString ", ").length = 2 := rfl
    rw [len_app, len_app, len_app, len_app, sizeLine_eq]
    omega
theorem shOk_exp (l : List Nat) : shOk (expD l) := by
  unfold expD
  split
  · rename_i p q h
    exact shOk_pair (parse_log h).1 (parse_log h).2
  · exact shOk_int (by decide)
/-! the fixed texts -/
def FX1 : List Str := ["", "/", "1/", "/1", "1/0", "-1/0", "0/0", "2/0", "0/1", "-0/1", "0/2", "2/4", "1/-2", "--1/2"]
def FX2 : List Str := ["1/2/3", "1", "01/2", "1/02", "+1/2", " 1/2", "1/2\n", "1 /2", "1_0/3"]
def FX3 : List Str := [rep "9" 60 ++ "/1", rep "9" 61 ++ "/1", "-" ++ rep "9" 60 ++ "/1", "-" ++ rep "9" 61 ++ "/1"]
def FX4 : List Str := ["1/" ++ rep "9" 60]
def FX5 : List Str := ["1/" ++ rep "1" 5000, rep "1" 5000 ++ "/2", "-7/3", "-1/1", "3/1", "a/b"]
def FX : List Str := FX1 ++ FX2 ++ FX3 ++ FX4 ++ FX5
def ok6 (n : Nat) (z : Str) : Prop := z.length ≤ n ∧ okS (sg z)
def ok6b (z : Str) : Bool := decide (z.length ≤ 100) && (sg z).all fun c => decide (c < 1114112)
theorem ok6_of {z : Str} (h : ok6b z = true) : ok6 100 z := by
  unfold ok6b at h
  rw [Bool.and_eq_true] at h
  refine ⟨of_decide_eq_true h.1, fun c hc => ?_⟩
  exact of_decide_eq_true (List.all_eq_true.mp h.2 c hc)
theorem ok6_app {m n k : Nat} {x y : Str} (h : ok6 m x) (g : ok6 n y) (l : m + n ≤ k) : ok6 k (x ++ y) := ⟨by rw [len_app]; have := h.1; have := g.1; omega, fun c hc => by
  rw [sg_app] at hc
  exact (List.mem_append.mp hc).elim (h.2 c) (g.2 c)⟩
theorem ok6_rep {z : Str} {n : Nat} (h : okS (sg z)) : ok6 (z.length * n) (rep z n) := ⟨Nat.le_of_eq (rep_length z n), fun c hc => by
  have e : sg (rep z n) = (List.replicate n z.cps.toList).flatten := rfl
  rw [e] at hc
  obtain ⟨l, hl, hc⟩ := List.mem_flatten.mp hc
  rw [(List.mem_replicate.mp hl).2] at hc
  exact h c hc⟩
theorem FX_len : FX.length = 34 := rfl
theorem len9 : (Str.ofString "9").length = 1 := rfl
theorem len1 : (Str.ofString "1").length = 1 := rfl
theorem FX_ok : ∀ s ∈ FX, ok6 6000 s := by
  have lit : ∀ (L : List Str), L.all ok6b = true → ∀ s ∈ L, ok6 6000 s := fun L h s hs => by
    have := ok6_of (List.all_eq_true.mp h s hs)
    exact ⟨Nat.le_trans this.1 (by decide), this.2⟩
  have l1 := lit FX1 (by decide +kernel)
  have l2 := lit FX2 (by decide +kernel)
  have n9 : okS (sg "9") := (ok6_of (z := "9") (by decide +kernel)).2
  have n1 : okS (sg "1") := (ok6_of (z := "1") (by decide +kernel)).2
  have sl1 : ok6 100 "/1" := ok6_of (by decide +kernel)
  have sl2 : ok6 100 "/2" := ok6_of (by decide +kernel)
  have m : ok6 100 "-" := ok6_of (by decide +kernel)
  have o : ok6 100 "1/" := ok6_of (by decide +kernel)
  have r9 : ∀ n, n ≤ 5000 → ok6 5000 (rep "9" n) := fun n hn => ⟨Nat.le_trans (ok6_rep n9).1 (by rw [len9]; omega), (ok6_rep n9).2⟩
  have r1 : ∀ n, n ≤ 5000 → ok6 5000 (rep "1" n) := fun n hn => ⟨Nat.le_trans (ok6_rep n1).1 (by rw [len1]; omega), (ok6_rep n1).2⟩
  intro s hs
  unfold FX at hs
  rcases List.mem_append.mp hs with hs | hs
  · rcases List.mem_append.mp hs with hs | hs
    · rcases List.mem_append.mp hs with hs | hs
      · rcases List.mem_append.mp hs with hs | hs
        · exact l1 s hs
        · exact l2 s hs
      · rcases List.mem_cons.mp hs with rfl | hs
        · exact ok6_app (r9 60 (by decide)) sl1 (by decide)
        · rcases List.mem_cons.mp hs with rfl | hs
          · exact ok6_app (r9 61 (by decide)) sl1 (by decide)
          · rcases List.mem_cons.mp hs with rfl | hs
            · exact ok6_app (k := 6000) (ok6_app (k := 5100) m (r9 60 (by decide)) (by decide)) sl1 (by decide)
            · rw [List.mem_singleton.mp hs]
              exact ok6_app (k := 6000) (ok6_app (k := 5100) m (r9 61 (by decide)) (by decide)) sl1 (by decide)
    · rw [List.mem_singleton.mp hs]
      exact ok6_app o (r9 60 (by decide)) (by decide)
  · rcases List.mem_cons.mp hs with rfl | hs
    · exact ok6_app o (r1 5000 (by decide)) (by decide)
    · rcases List.mem_cons.mp hs with rfl | hs
      · exact ok6_app (r1 5000 (by decide)) sl2 (by decide)
      · exact lit ["-7/3", "-1/1", "3/1", "a/b"] (by decide +kernel) s hs
theorem okS_cut {z : Str} {lo hi : Option Int} (h : okS (sg z)) : okS (sg (cutS z lo hi)) := fun c hc => h c (List.mem_of_mem_drop (List.mem_of_mem_take hc))
theorem okS_app {x y : Str} (h : okS (sg x)) (g : okS (sg y)) : okS (sg (x ++ y)) := fun c hc => by
  rw [sg_app] at hc
  exact (List.mem_append.mp hc).elim (h c) (g c)
end
end K77

namespace K77
open PySem PySem.Spec PyProof.Rows L2 Fw
section
variable {P : Program} {w : World} {K : PySem.W.Frag} {mg : Str → Option Value} {base : Heap}
theorem vMulS {H : Hp} {Q : VK} {z : Str} {n : Int} (h2 : 2 ≤ n) (h3 : n ≤ 1000000) (h4 : 1 ≤ z.length) (h5 : z.length * n.toNat ≤ 1000000) (q : Q (.str (rep z n.toNat)) H) : rMulS (.str z) (.int n) H Q := ⟨z, n, rfl, rfl, h2, h3, h4, h5, q⟩
theorem vAddS2 {i j : Str} {R : Str → Str → Prop} (l : i.length + j.length ≤ sizeLine) (q : R i j) : ∃ x y : Str, V.str i = .str x ∧ V.str j = .str y ∧ x.length + y.length ≤ sizeLine ∧ R x y := ⟨i, j, rfl, rfl, l, q⟩
theorem repLen (z : Str) (n : Nat) (k : Nat) (h : z.length * n ≤ k) : (rep z n).length ≤ k := by rw [rep_length]; exact h
theorem tyL {H : Hp} {a : Addr} {xs : List V} (h : H a = some (.lst xs)) : tyV K "list" (V.ref a) H := .inl ⟨rfl, xs, .inl (.inl h)⟩
def headStr : List V → Bool
  | .str _ :: _ => true
  | _ => false
theorem PenAt.set {H : Hp} {p q r : Addr} {ys : List V} (pen : PenAt H p q) (h : H r = some (.lst ys)) (hn : headStr ys = true) (zs : List V) : PenAt (upd H r (.lst zs)) p q := by
  obtain ⟨a, n, cs, h1, h2, h3, h4⟩ := pen
  have n1 : p ≠ r := fun e => by
    rw [← e, h1] at h
    have z := HO.lst.inj (Option.some.inj h)
    rw [← z] at hn
    cases hn
  have n2 : q ≠ r := fun e => by
    rw [← e, h2] at h
    have z := HO.lst.inj (Option.some.inj h)
    rw [← z] at hn
    cases cs <;> cases hn
  exact ⟨a, n, cs, by rw [upd_ne n1]; exact h1, by rw [upd_ne n2]; exact h2, h3, h4⟩
theorem sign_at {d : Int} (h1 : 0 ≤ d) (h2 : d < 14) : ∃ c : Nat, atI (Str.ofString "0123456789-/ +").cps.toList d = some c ∧ c < 1114112 := by
  have hl : (Str.ofString "0123456789-/ +").cps.toList.length = 14 := by decide +kernel
  have hk : d.toNat < (Str.ofString "0123456789-/ +").cps.toList.length := by omega
  refine ⟨_, atI_int h1 (List.getElem?_eq_getElem hk), ?_⟩
  have ok := (ok6_of (z := "0123456789-/ +") (by decide +kernel)).2
  exact ok _ (List.getElem_mem hk)
theorem mid_at {sc : Nat} (h : sc < 1114112) {e : Int} (h1 : 0 ≤ e) (h2 : e < 3) : ∃ m : Str, atI [V.str ⟨#[sc]⟩, V.str ⟨#[sc]⟩, V.str ""] e = some (.str m) ∧ ok6 1 m := by
  have o : ok6 1 ⟨#[sc]⟩ := ⟨Nat.le_refl _, fun c hc => by rw [List.mem_singleton.mp hc]; exact h⟩
  have : e = 0 ∨ e = 1 ∨ e = 2 := by omega
  rcases this with rfl | rfl | rfl
  · exact ⟨_, rfl, o⟩
  · exact ⟨_, rfl, o⟩
  · exact ⟨_, rfl, by show 0 ≤ 1; decide, fun c hc => by cases hc⟩
theorem fx_at {v : Int} (h1 : 0 ≤ v) (h2 : v < ((34 : Nat) : Int)) : ∃ z, atI (FX.map V.str) v = some (.str z) ∧ z ∈ FX := by
  have hk : v.toNat < FX.length := by rw [FX_len]; omega
  exact ⟨FX[v.toNat], atI_int h1 (by rw [List.getElem?_map, List.getElem?_eq_getElem hk]; rfl), List.getElem_mem hk⟩
theorem cut_lens {z : Str} {i j : Int} (h1 : 0 ≤ i) (h2 : 0 ≤ j) (h : i ≤ j) : (cutS z none (some i)).length + (cutS z (some j) none).length ≤ z.length := by
  have e1 := congrArg List.length (cut_to z h1)
  have e2 := congrArg List.length (cut_from z h2)
  rw [sg_len, List.length_take, sg_len] at e1
  rw [sg_len, List.length_drop, sg_len] at e2
  omega
def sp_law (K : PySem.W.Frag) : Sp := fun vs H Q _ => ∃ (a : Addr) (ns : List Int), vs = [.ref a] ∧ SqL K H a (ns.map V.int) ∧ ∀ H', Q (.bl true) H'
abbrev s_law : Stmt := (top 23)
theorem sc_law : FnScope ["script", "pen", "fixed", "turn", "pair", "text", "often", "at", "sign", "rest"] ["script"] (defScope s_law) := ⟨rfl, rfl, rfl, by decide +kernel, rfl, by decide +kernel, by decide +kernel⟩
theorem ok_law (T : Tx K mg) {fd : FuncData} (F : FnP K "law" (s_law) (He.ga K "law") fd) (c__law_pen : Cl P w K mg base CX0 1 "_law_pen" (sp_pen K) []) (c__law_draw : Cl P w K mg base CX0 2 "_law_draw" sp_draw []) (c__law_fraction : Cl P w K mg base CX0 3 "_law_fraction" (sp_frac K) []) (c_format_value : Cl P w K mg base CX0 1 "format_value" (sp_fmt K) []) (c_parse_value : Cl P w K mg base (L2.CX P w) 4 "parse_value" (sp_parse K) []) (c__law_outcome : Cl P w K mg base CX0 5 "_law_outcome" (sp_out K) []) (c__law_expected : Cl P w K mg base CX0 2 "_law_expected" (sp_out K) []) : FnG P w K mg base CX0 6 (He.ga K "law") fd ["script"] (sp_law K) := by
  refine okG F sc_law (fun vs H Q E h => ?_) (fun cdv A outer s H vs Q E hr hg h => ?_)
  · first | (obtain ⟨_, rfl, _⟩ := h; rfl) | (obtain ⟨_, _, rfl, _⟩ := h; rfl) | (obtain ⟨_, _, _, rfl, _⟩ := h; rfl) | (obtain ⟨_, _, _, _, rfl, _⟩ := h; rfl) | (obtain ⟨_, _, _, _, _, rfl, _⟩ := h; rfl) | (obtain ⟨_, _, _, _, _, _, rfl, _⟩ := h; rfl)
  · have hu := hu_of hr
    refine ⟨_, (PSs.nox (by exact (pss_cons (ps_set (i := 1) sc_law.nd rfl (Or.inl rfl) (pcl c__law_pen (hr.mono (by decide)) pass0 (pa_cons (pv 0) pa_nil)))
      (pss_cons (ps_set (i := 2) sc_law.nd rfl (Or.inl rfl) (pe_lst (pa_cons pe_str (pa_cons pe_str (pa_cons pe_str (pa_cons pe_str (pa_cons pe_str (pa_cons pe_str (pa_cons pe_str (pa_cons pe_str (pa_cons pe_str (pa_cons pe_str (pa_cons pe_str (pa_cons pe_str (pa_cons pe_str (pa_cons pe_str pa_nil))))))))))))))))
      (pss_cons (ps_set (i := 2) sc_law.nd rfl (Or.inl rfl) (pe_op op_cat (pv 2) (pe_lst (pa_cons pe_str (pa_cons pe_str (pa_cons pe_str (pa_cons pe_str (pa_cons pe_str (pa_cons pe_str (pa_cons pe_str (pa_cons pe_str (pa_cons pe_str pa_nil))))))))))))
      (pss_cons (ps_set (i := 2) sc_law.nd rfl (Or.inl rfl) (pe_op op_cat (pv 2) (pe_lst (pa_cons (pe_op op_add_str (pe_op op_mul_str pe_str pe_int) pe_str) (pa_cons (pe_op op_add_str (pe_op op_mul_str pe_str pe_int) pe_str) (pa_cons (pe_op op_add_str (pe_op op_add_str pe_str (pe_op op_mul_str pe_str pe_int)) pe_str) (pa_cons (pe_op op_add_str (pe_op op_add_str pe_str (pe_op op_mul_str pe_str pe_int)) pe_str) pa_nil)))))))
      (pss_cons (ps_expr (pe_bm PySem.F.plainAttrs_list PySem.F.slot_list_append PySem.F.type_list_append mt_append (pv 2) (pa_cons (pe_op op_add_str pe_str (pe_op op_mul_str pe_str pe_int)) pa_nil)))
      (pss_cons (ps_set (i := 2) sc_law.nd rfl (Or.inl rfl) (pe_op op_cat (pv 2) (pe_lst (pa_cons (pe_op op_add_str pe_str (pe_op op_mul_str pe_str pe_int)) (pa_cons (pe_op op_add_str (pe_op op_mul_str pe_str pe_int) pe_str) (pa_cons pe_str (pa_cons pe_str (pa_cons pe_str (pa_cons pe_str pa_nil)))))))))
      (pss_cons (ps_for PassesOwn.never rfl (pi_range1 rfl T.n_range (pa_cons pe_int pa_nil)) (pg_name (i := 3) sc_law.nd rfl (Or.inl rfl))
      (pss_cons (ps_set (i := 4) sc_law.nd rfl (Or.inl rfl) (pcl c__law_fraction (hr.mono (by decide)) pass0 (pa_cons (pv 1) pa_nil)))
      (pss_cons (ps_set (i := 5) sc_law.nd rfl (Or.inl rfl) (pe_op op_add_str (pe_op op_add_str (pe_callTy (T := "str") call_str_int (by rfl) T.n_str (by decide +kernel) (pa_cons (pe_ix ix_tup (pv 4) pe_int (fun _ _ => rfl)) pa_nil)) pe_str) (pe_callTy (T := "str") call_str_int (by rfl) T.n_str (by decide +kernel) (pa_cons (pe_ix ix_tup (pv 4) pe_int (fun _ _ => rfl)) pa_nil))))
      (pss_cons (ps_if (PW.pt (pw_or (pt_cmpR op_ne (pcl c_format_value (hr.mono (by decide)) pass0 (pa_cons (pv 4) pa_nil)) (pv 5) (nomark _)) (pw_or1 (pt_cmpR op_ne (pe_callB (id := "repr") (call_repr hr hg) (by rfl) T.n_repr (by decide +kernel) (pa_cons (pcl c_parse_value (hr.mono (by decide)) passE (pa_cons (pv 5) pa_nil)) pa_nil)) (pe_callB (id := "repr") (call_repr hr hg) (by rfl) T.n_repr (by decide +kernel) (pa_cons (pv 4) pa_nil)) (nomark _)))))
      (pss_one (ps_ret pe_bl))
      pss_nil)
      (pss_cons (ps_if (pt_cmpR op_eq (pcl c__law_draw (hr.mono (by decide)) pass0 (pa_cons (pv 1) (pa_cons pe_int pa_nil))) pe_int (nomark _))
      (pss_one (ps_set (i := 5) sc_law.nd rfl (Or.inl rfl) (pe_ix ix_list (pv 2) (pcl c__law_draw (hr.mono (by decide)) pass0 (pa_cons (pv 1) (pa_cons (pe_callB (id := "len") call_len (by rfl) T.n_len (by decide +kernel) (pa_cons (pv 2) pa_nil)) pa_nil))) (fun _ _ => rfl))))
      pss_nil)
      (pss_one (ps_for PassesOwn.never rfl (pi_range1 rfl T.n_range (pa_cons pe_int pa_nil)) (pg_name (i := 6) sc_law.nd rfl (Or.inl rfl))
      (pss_cons (ps_if (pt_cmpR op_ne (pe_callB (id := "repr") (call_repr hr hg) (by rfl) T.n_repr (by decide +kernel) (pa_cons (pcl c__law_outcome (hr.mono (by decide)) pass0 (pa_cons (pv 5) pa_nil)) pa_nil)) (pe_callB (id := "repr") (call_repr hr hg) (by rfl) T.n_repr (by decide +kernel) (pa_cons (pcl c__law_expected (hr.mono (by decide)) pass0 (pa_cons (pv 5) pa_nil)) pa_nil)) (nomark _))
      (pss_one (ps_ret pe_bl))
      pss_nil)
      (pss_cons (ps_par (i := 7) (j := 8) (by rfl) sc_law.nd rfl rfl (by decide) rfl rfl (pa_cons (pcl c__law_draw (hr.mono (by decide)) pass0 (pa_cons (pv 1) (pa_cons (pe_op op_add (pe_callB (id := "len") call_len (by rfl) T.n_len (by decide +kernel) (pa_cons (pv 5) pa_nil)) pe_int) pa_nil))) (pa_cons (pe_ix ix_str pe_str (pcl c__law_draw (hr.mono (by decide)) pass0 (pa_cons (pv 1) (pa_cons pe_int pa_nil))) (fun _ _ => rfl)) pa_nil)) (by rfl))
      (pss_cons (ps_set (i := 9) sc_law.nd rfl (Or.inl rfl) (pe_slice sl_str (pv 5) (po_some (pe_op op_add (pv 7) (pcl c__law_draw (hr.mono (by decide)) pass0 (pa_cons (pv 1) (pa_cons pe_int pa_nil))))) po_none))
      (pss_one (ps_set (i := 5) sc_law.nd rfl (Or.inl rfl) (pe_op op_add_str (pe_op op_add_str (pe_slice sl_str (pv 5) po_none (po_some (pv 7))) (pe_ix ix_list (pe_lst (pa_cons (pv 8) (pa_cons (pv 8) (pa_cons pe_str pa_nil)))) (pcl c__law_draw (hr.mono (by decide)) pass0 (pa_cons (pv 1) (pa_cons pe_int pa_nil))) (fun _ _ => rfl))) (pv 9))))))))))))))
      (pss_one (ps_ret pe_bl))))))))))), ?_⟩
    obtain ⟨a, ns, rfl, hs, q⟩ := h
    rw [show L2.start ["script", "pen", "fixed", "turn", "pair", "text", "often", "at", "sign", "rest"] [V.ref a] = [some (.ref a), none, none, none, none, none, none, none, none, none] from rfl]
    walk_at "kx"
    walk_at "go"
    refine ⟨a, ns, rfl, hs, fun p cq H1 hp ch1 pen1 => ?_⟩
    walk_at "go"
    refine ⟨by show 14 ≤ sizeLine; decide, fun f1 hf1 => ?_⟩
    generalize hH2 : upd H1 f1 _ = H2
    have pen2 : PenAt H2 p cq := by rw [← hH2]; exact pen1.mono (Ch.alloc hf1 _)
    have e2 : H2 f1 = some (.lst (FX1.map V.str)) := by rw [← hH2]; exact upd_same
    walk_at "go"
    refine ⟨by show 9 ≤ sizeLine; decide, fun g3 hg3 => ?_⟩
    generalize hH3 : upd H2 g3 _ = H3
    have pen3 : PenAt H3 p cq := by rw [← hH3]; exact pen2.mono (Ch.alloc hg3 _)
    have e3 : H3 f1 = some (.lst (FX1.map V.str)) := by rw [← hH3, upd_ne (ne_of_none e2 hg3)]; exact e2
    have e3' : H3 g3 = some (.lst (FX2.map V.str)) := by rw [← hH3]; exact upd_same
    walk_at "go"
    refine ⟨f1, g3, _, _, rfl, rfl, e3, e3', by show 23 ≤ sizeLine; decide, fun f4 hf4 => ?_⟩
    have pen4 : PenAt (upd H3 f4 (.lst (FX1.map V.str ++ FX2.map V.str))) p cq := pen3.mono (Ch.alloc hf4 _)
    have e4 : (upd H3 f4 (.lst (FX1.map V.str ++ FX2.map V.str))) f4 = some (.lst ((FX1 ++ FX2).map V.str)) := by rw [List.map_append]; exact upd_same
    generalize upd H3 f4 (.lst (FX1.map V.str ++ FX2.map V.str)) = H4 at pen4 e4 ⊢
    walk_at "go"
    refine vMulS (by decide) (by decide) (by decide) (by decide) ?_
    walk_at "go"
    refine vAddS2 ?_ ?_
    · first | (rw [rep_length]; decide) | (rw [len_app, rep_length]; decide)
    walk_at "go"
    refine vMulS (by decide) (by decide) (by decide) (by decide) ?_
    walk_at "go"
    refine vAddS2 ?_ ?_
    · first | (rw [rep_length]; decide) | (rw [len_app, rep_length]; decide)
    walk_at "go"
    refine vMulS (by decide) (by decide) (by decide) (by decide) ?_
    walk_at "go"
    refine vAddS2 ?_ ?_
    · first | (rw [rep_length]; decide) | (rw [len_app, rep_length]; decide)
    walk_at "go"
    refine vAddS2 ?_ ?_
    · first | (rw [rep_length]; decide) | (rw [len_app, rep_length]; decide)
    walk_at "go"
    refine vMulS (by decide) (by decide) (by decide) (by decide) ?_
    walk_at "go"
    refine vAddS2 ?_ ?_
    · first | (rw [rep_length]; decide) | (rw [len_app, rep_length]; decide)
    walk_at "go"
    refine vAddS2 ?_ ?_
    · first | (rw [rep_length]; decide) | (rw [len_app, rep_length]; decide)
    walk_at "go"
    refine ⟨by show 4 ≤ sizeLine; decide, fun g5 hg5 => ?_⟩
    generalize hH5 : upd H4 g5 _ = H5
    have pen5 : PenAt H5 p cq := by rw [← hH5]; exact pen4.mono (Ch.alloc hg5 _)
    have e5 : H5 f4 = some (.lst ((FX1 ++ FX2).map V.str)) := by rw [← hH5, upd_ne (ne_of_none e4 hg5)]; exact e4
    have e5' : H5 g5 = some (.lst (FX3.map V.str)) := by rw [← hH5]; exact upd_same
    walk_at "go"
    refine ⟨f4, g5, _, _, rfl, rfl, e5, e5', by show 27 ≤ sizeLine; decide, fun f6 hf6 => ?_⟩
    rw [← List.map_append]
    have pen6 : PenAt (upd H5 f6 (.lst ((FX1 ++ FX2 ++ FX3).map V.str))) p cq := pen5.mono (Ch.alloc hf6 _)
    have e6 : (upd H5 f6 (.lst ((FX1 ++ FX2 ++ FX3).map V.str))) f6 = some (.lst ((FX1 ++ FX2 ++ FX3).map V.str)) := upd_same
    generalize upd H5 f6 (.lst ((FX1 ++ FX2 ++ FX3).map V.str)) = H6 at pen6 e6 ⊢
    walk_at "go"
    refine ⟨tyL e6, ?_⟩
    walk_at "go"
    refine vMulS (by decide) (by decide) (by decide) (by decide) ?_
    walk_at "go"
    refine vAddS2 ?_ ?_
    · first | (rw [rep_length]; decide) | (rw [len_app, rep_length]; decide)
    walk_at "go"
    refine ⟨f6, _, _, rfl, rfl, e6, by show 27 < sizeLine; decide, ?_⟩
    have pen7 : PenAt (upd H6 f6 (.lst ((FX1 ++ FX2 ++ FX3).map V.str ++ [V.str ("1/" ++ rep "9" (Int.toNat 60))]))) p cq := pen6.set e6 rfl _
    have e7 : (upd H6 f6 (.lst ((FX1 ++ FX2 ++ FX3).map V.str ++ [V.str ("1/" ++ rep "9" (Int.toNat 60))]))) f6 = some (.lst ((FX1 ++ FX2 ++ FX3 ++ FX4).map V.str)) := by rw [List.map_append (l₂ := FX4)]; exact upd_same
    generalize upd H6 f6 (.lst ((FX1 ++ FX2 ++ FX3).map V.str ++ [V.str ("1/" ++ rep "9" (Int.toNat 60))])) = H7 at pen7 e7 ⊢
    walk_at "go"
    refine vMulS (by decide) (by decide) (by decide) (by decide) ?_
    walk_at "go"
    refine vAddS2 ?_ ?_
    · first | (rw [rep_length]; decide) | (rw [len_app, rep_length]; decide)
    walk_at "go"
    refine vMulS (by decide) (by decide) (by decide) (by decide) ?_
    walk_at "go"
    refine vAddS2 ?_ ?_
    · first | (rw [rep_length]; decide) | (rw [len_app, rep_length]; decide)
    walk_at "go"
    refine ⟨by show 6 ≤ sizeLine; decide, fun g8 hg8 => ?_⟩
    generalize hH8 : upd H7 g8 _ = H8
    have pen8 : PenAt H8 p cq := by rw [← hH8]; exact pen7.mono (Ch.alloc hg8 _)
    have e8 : H8 f6 = some (.lst ((FX1 ++ FX2 ++ FX3 ++ FX4).map V.str)) := by rw [← hH8, upd_ne (ne_of_none e7 hg8)]; exact e7
    have e8' : H8 g8 = some (.lst (FX5.map V.str)) := by rw [← hH8]; exact upd_same
    walk_at "go"
    refine ⟨f6, g8, _, _, rfl, rfl, e8, e8', by show 34 ≤ sizeLine; decide, fun fx hfx => ?_⟩
    rw [← List.map_append]
    have pen9 : PenAt (upd H8 fx (.lst (FX.map V.str))) p cq := pen8.mono (Ch.alloc hfx _)
    have e9 : (upd H8 fx (.lst (FX.map V.str))) fx = some (.lst (FX.map V.str)) := upd_same
    have nfx : fx ≠ p := pen8.neP hfx
    show gName 2 (V.ref fx) _ (upd H8 fx (.lst (FX.map V.str))) _
    generalize upd H8 fx (.lst (FX.map V.str)) = H9 at pen9 e9 ⊢
    walk_at "go"
    refine ⟨by decide, by decide, vForR (fun i σ H' => ∃ t1 t2 t3 t4 t5 t6 t7 : Option V, σ = [some (.ref a), some (.ref p), some (.ref fx), t1, t2, t3, t4, t5, t6, t7] ∧ PenAt H' p cq ∧ H' fx = some (.lst (FX.map V.str))) ⟨_, _, _, _, _, _, _, rfl, pen9, e9⟩ ?_ ?_⟩
    · rintro i σ Ha hi ⟨t1, t2, t3, t4, t5, t6, t7, rfl, pen, ef⟩
      walk_at "go"
      refine ⟨p, cq, rfl, pen, fun x y c Hb ec nc okxy hx hy ch pen2 => ?_⟩
      have ef2 : Hb fx = some (.lst (FX.map V.str)) := ch _ _ ef (by simpa using nfx)
      have lx := log21 hx
      have ly := log21 hy
      -- MARK
      walk_at "go"
      refine vIxT (.inl (.inl ec)) atI_0 ?_
      walk_at "go"
      refine ⟨lx, ?_⟩
      walk_at "go"
      have l1 := intTxt lx
      have l2 := intTxt ly
      have l3 : (Str.ofString "/").length = 1 := rfl
      refine vAddS2 (by rw [sizeLine_eq]; omega) ?_
      walk_at "go"
      refine vIxT (.inl (.inl ec)) atI_1 ?_
      walk_at "go"
      refine ⟨ly, ?_⟩
      refine vAddS2 (by rw [len_app, sizeLine_eq]; omega) ?_
      have tx : Str.ofString (toString x) ++ Str.ofString "/" ++ Str.ofString (toString y) = pairT x y := rfl
      rw [tx]
      walk_at "go"
      refine ⟨c, x, y, rfl, .inl ec, lx, ly, ?_⟩
      have tx2 : Str.empty ++ Str.ofString (toString x) ++ "/" ++ Str.ofString (toString y) = pairT x y := sg_inj (by unfold pairT; rw [sg_app, sg_app, sg_app, sg_app, sg_app]; rfl)
      rw [tx2]
      have pl := pair_len lx ly
      walk_at "go"
      refine ifF (by rw [decide_eq_true rfl]; rfl) ?_
      walk_at "go"
      refine ⟨by omega, fun x2 y2 c2 Hc hp2 ec2 _ chc => ?_, fun _ _ hn _ _ => ?_⟩
      rotate_left
      · rw [parse_pair okxy hx hy] at hn; cases hn
      rw [parse_pair okxy hx hy] at hp2
      cases hp2
      have penc := pen2.mono chc
      have efc : Hc fx = some (.lst (FX.map V.str)) := chc _ _ ef2 (by simp)
      have ecc : Hc c = some (.tup [.int x, .int y]) := chc _ _ ec (by simp)
      obtain ⟨w1, w2, w3, w4⟩ := shOk_pair lx ly
      walk_at "go"
      refine ⟨_, _, rfl, .tup (.inl (.inl ec2)) (.cons (.int x) (.cons (.int y) .nil)), w1, w2, w3, w4, ?_⟩
      walk_at "go"
      refine ⟨_, _, rfl, .tup (.inl (.inl ecc)) (.cons (.int x) (.cons (.int y) .nil)), w1, w2, w3, w4, ?_⟩
      walk_at "go"
      refine ifF (by rw [decide_eq_true rfl]; rfl) ?_
      walk_at "go"
      refine draw_go penc (by decide) (by decide) fun u Hu u1 u2 chu penu => ?_
      have efu : Hu fx = some (.lst (FX.map V.str)) := chu _ _ efc (by simpa using nfx)
      walk_at "go"
      refine iteB (fun cu => ?_) (fun cu => ?_)
      · walk_at "go"
        refine vLenL (.inl (.inl efu)) ?_
        walk_at "go"
        rw [List.length_map, FX_len]
        refine draw_go penu (by decide) (by decide) fun v Hv v1 v2 chv penv => ?_
        have efv : Hv fx = some (.lst (FX.map V.str)) := chv _ _ efu (by simpa using nfx)
        obtain ⟨z0, ez0, mz0⟩ := fx_at v1 v2
        refine vIxL (.inl (.inl efv)) ez0 ?_
        have okz0 := FX_ok z0 mz0
        walk_at "go"
        refine ⟨by decide, by decide, vForR (fun m σ H' => ∃ (z : Str) (t6 t7 t8 t9 : Option V), σ = [some (.ref a), some (.ref p), some (.ref fx), some (V.int (0 + ↑i)), some (.ref c), some (.str z), t6, t7, t8, t9] ∧ ok6 (6000 + m) z ∧ PenAt H' p cq ∧ H' fx = some (.lst (FX.map V.str))) ⟨_, _, _, _, _, rfl, okz0, penv, efv⟩ ?_ ?_⟩
        · rintro m σ Hd hm ⟨z, t6, t7, t8, t9, rfl, okz, pend, efd⟩
          have hm : m < 3 := hm
          have zl := okz.1
          walk_at "go"
          refine ⟨by omega, okz.2, fun v1 He im1 che => ?_⟩
          have pene := pend.mono che
          have efe : He fx = some (.lst (FX.map V.str)) := che _ _ efd (by simp)
          obtain ⟨w1, w2, w3, w4⟩ := shOk_exp (sg z)
          walk_at "go"
          refine ⟨_, _, rfl, im1.dp, w1, w2, w3, w4, ?_⟩
          walk_at "go"
          refine ⟨by omega, okz.2, fun v2 Hf im2 chf => ?_⟩
          have penf := pene.mono chf
          have eff : Hf fx = some (.lst (FX.map V.str)) := chf _ _ efe (by simp)
          walk_at "go"
          refine ⟨_, _, rfl, im2.dp, w1, w2, w3, w4, ?_⟩
          walk_at "go"
          refine ifF (by rw [decide_eq_true rfl]; rfl) ?_
          walk_at "go"
          refine vLenS (by rw [sizeLine_eq]; omega) ?_
          walk_at "go"
          refine draw_go penf (by omega) (by omega) fun at_ Hg at1 at2 chg peng => ?_
          have efg : Hg fx = some (.lst (FX.map V.str)) := chg _ _ eff (by simpa using nfx)
          walk_at "go"
          refine draw_go peng (by decide) (by decide) fun d Hh d1 d2 chh penh => ?_
          have efh : Hh fx = some (.lst (FX.map V.str)) := chh _ _ efg (by simpa using nfx)
          obtain ⟨sc, es, osc⟩ := sign_at d1 d2
          walk_at "go"
          refine vIxS (by rw [sizeLine_eq]; show 14 ≤ 16777216; decide) es ?_
          walk_at "go"
          refine draw_go penh (by decide) (by decide) fun o Hi o1 o2 chi peni => ?_
          have efi : Hi fx = some (.lst (FX.map V.str)) := chi _ _ efh (by simpa using nfx)
          walk_at "go"
          refine ⟨by rw [sizeLine_eq]; omega, ?_⟩
          walk_at "go"
          refine ⟨by rw [sizeLine_eq]; omega, ?_⟩
          walk_at "go"
          refine ⟨by show 3 ≤ sizeLine; decide, fun l3 hl3 => ?_⟩
          walk_at "go"
          have penj := peni.mono (Ch.alloc hl3 (.lst [V.str ⟨#[sc]⟩, V.str ⟨#[sc]⟩, V.str ""]))
          refine draw_go penj (by decide) (by decide) fun e Hk e1 e2 chk penk => ?_
          have nl3 := peni.neP hl3
          have efk : Hk fx = some (.lst (FX.map V.str)) := chk _ _ (by rw [upd_ne (ne_of_none efi hl3)]; exact efi) (by simpa using nfx)
          have el3 : Hk l3 = some (.lst [V.str ⟨#[sc]⟩, V.str ⟨#[sc]⟩, V.str ""]) := chk _ _ upd_same (by simpa using nl3)
          obtain ⟨mid, em, okm⟩ := mid_at (sc := sc) osc e1 e2
          refine vIxL (.inl (.inl el3)) em ?_
          walk_at "go"
          have lens := cut_lens (z := z) at1 (show 0 ≤ at_ + o by omega) (show at_ ≤ at_ + o by omega)
          have lm := okm.1
          refine vAddS2 (by rw [sizeLine_eq]; omega) ?_
          walk_at "go"
          refine vAddS2 (by rw [len_app, sizeLine_eq]; omega) ?_
          walk_at "go"
          refine ⟨_, _, _, _, _, rfl, ⟨?_, ?_⟩, penk, efk⟩
          · rw [len_app, len_app]; omega
          · exact okS_app (okS_app (okS_cut okz.2) okm.2) (okS_cut okz.2)
        · rintro σ Hd ⟨z, t6, t7, t8, t9, rfl, okz, pend, efd⟩
          walk_at "go"
          exact ⟨_, _, _, _, _, _, _, rfl, pend, efd⟩
      · walk_at "go"
        refine ⟨by decide, by decide, vForR (fun m σ H' => ∃ (z : Str) (t6 t7 t8 t9 : Option V), σ = [some (.ref a), some (.ref p), some (.ref fx), some (V.int (0 + ↑i)), some (.ref c), some (.str z), t6, t7, t8, t9] ∧ ok6 (6000 + m) z ∧ PenAt H' p cq ∧ H' fx = some (.lst (FX.map V.str))) ⟨_, _, _, _, _, rfl, ⟨by omega, pair_ok x y⟩, penu, efu⟩ ?_ ?_⟩
        · rintro m σ Hd hm ⟨z, t6, t7, t8, t9, rfl, okz, pend, efd⟩
          have hm : m < 3 := hm
          have zl := okz.1
          walk_at "go"
          refine ⟨by omega, okz.2, fun v1 He im1 che => ?_⟩
          have pene := pend.mono che
          have efe : He fx = some (.lst (FX.map V.str)) := che _ _ efd (by simp)
          obtain ⟨w1, w2, w3, w4⟩ := shOk_exp (sg z)
          walk_at "go"
          refine ⟨_, _, rfl, im1.dp, w1, w2, w3, w4, ?_⟩
          walk_at "go"
          refine ⟨by omega, okz.2, fun v2 Hf im2 chf => ?_⟩
          have penf := pene.mono chf
          have eff : Hf fx = some (.lst (FX.map V.str)) := chf _ _ efe (by simp)
          walk_at "go"
          refine ⟨_, _, rfl, im2.dp, w1, w2, w3, w4, ?_⟩
          walk_at "go"
          refine ifF (by rw [decide_eq_true rfl]; rfl) ?_
          walk_at "go"
          refine vLenS (by rw [sizeLine_eq]; omega) ?_
          walk_at "go"
          refine draw_go penf (by omega) (by omega) fun at_ Hg at1 at2 chg peng => ?_
          have efg : Hg fx = some (.lst (FX.map V.str)) := chg _ _ eff (by simpa using nfx)
          walk_at "go"
          refine draw_go peng (by decide) (by decide) fun d Hh d1 d2 chh penh => ?_
          have efh : Hh fx = some (.lst (FX.map V.str)) := chh _ _ efg (by simpa using nfx)
          obtain ⟨sc, es, osc⟩ := sign_at d1 d2
          walk_at "go"
          refine vIxS (by rw [sizeLine_eq]; show 14 ≤ 16777216; decide) es ?_
          walk_at "go"
          refine draw_go penh (by decide) (by decide) fun o Hi o1 o2 chi peni => ?_
          have efi : Hi fx = some (.lst (FX.map V.str)) := chi _ _ efh (by simpa using nfx)
          walk_at "go"
          refine ⟨by rw [sizeLine_eq]; omega, ?_⟩
          walk_at "go"
          refine ⟨by rw [sizeLine_eq]; omega, ?_⟩
          walk_at "go"
          refine ⟨by show 3 ≤ sizeLine; decide, fun l3 hl3 => ?_⟩
          walk_at "go"
          have penj := peni.mono (Ch.alloc hl3 (.lst [V.str ⟨#[sc]⟩, V.str ⟨#[sc]⟩, V.str ""]))
          refine draw_go penj (by decide) (by decide) fun e Hk e1 e2 chk penk => ?_
          have nl3 := peni.neP hl3
          have efk : Hk fx = some (.lst (FX.map V.str)) := chk _ _ (by rw [upd_ne (ne_of_none efi hl3)]; exact efi) (by simpa using nfx)
          have el3 : Hk l3 = some (.lst [V.str ⟨#[sc]⟩, V.str ⟨#[sc]⟩, V.str ""]) := chk _ _ upd_same (by simpa using nl3)
          obtain ⟨mid, em, okm⟩ := mid_at (sc := sc) osc e1 e2
          refine vIxL (.inl (.inl el3)) em ?_
          walk_at "go"
          have lens := cut_lens (z := z) at1 (show 0 ≤ at_ + o by omega) (show at_ ≤ at_ + o by omega)
          have lm := okm.1
          refine vAddS2 (by rw [sizeLine_eq]; omega) ?_
          walk_at "go"
          refine vAddS2 (by rw [len_app, sizeLine_eq]; omega) ?_
          walk_at "go"
          refine ⟨_, _, _, _, _, rfl, ⟨?_, ?_⟩, penk, efk⟩
          · rw [len_app, len_app]; omega
          · exact okS_app (okS_app (okS_cut okz.2) okm.2) (okS_cut okz.2)
        · rintro σ Hd ⟨z, t6, t7, t8, t9, rfl, okz, pend, efd⟩
          walk_at "go"
          exact ⟨_, _, _, _, _, _, _, rfl, pend, efd⟩
    · rintro σ Ha ⟨t1, t2, t3, t4, t5, t6, t7, rfl, pen, ef⟩
      walk_at "go"
      exact q _
end
end K77

namespace K77
open PySem PySem.Spec PyProof.Rows L2 Fw
def dF (x : Str) (st : Stmt) : He.DefD := ⟨(x, none), x, x, defArgs st, defBody st, defScope st, [], []⟩
def dM (c m : Str) (q : Str) (st : Stmt) : He.DefD := ⟨(c, some m), m, q, defArgs st, defBody st, defScope st, [], []⟩
def fn : List He.DefD := [dF "are_integers" (top 4), dF "common_divisor" (top 5), dF "require_value" (top 6), dF "format_value" (top 10), dF "number_in" (top 11), dF "signed_number_in" (top 12), dF "parse_value" (top 13), dF "_law_pen" (top 15), dF "_law_fresh" (top 16), dF "_law_draw" (top 17),
  dF "_law_common" (top 18), dF "_law_fraction" (top 19), dF "_law_number" (top 20), dF "_law_expected" (top 21), dF "_law_outcome" (top 22), dF "law" (top 23), dM "NotAValue" "__init__" "NotAValue.__init__" (inClass (top 1) 0), dM "ParseError" "__init__" "ParseError.__init__" (inClass (top 2) 0)]
def fa : List He.Fa := [.glo "are_integers", .glo "common_divisor", .glo "require_value", .glo "format_value", .glo "number_in", .glo "signed_number_in", .glo "parse_value", .glo "_law_pen", .glo "_law_fresh", .glo "_law_draw",
  .glo "_law_common", .glo "_law_fraction", .glo "_law_number", .glo "_law_expected", .glo "_law_outcome", .glo "law", .free "len", .free "all", .free "abs", .free "isinstance", .free "int", .free "bool", .free "tuple", .free "list", .free "range", .free "str", .free "repr", .free "ValueError",
  .int "MAX_DIGITS" 60, .str "DIGITS" "0123456789", .exm "NotAValue" "NotAValue" true, .exm "ParseError" "ParseError" true]
def ex (K : PySem.W.Frag) : Bool := xcB K "NotAValue" "value" && (xcB K "ParseError" "line" && xfB K (He.ga K "ParseError"))
abbrev R : PySem.W.OpenRow := PySem.W.OpenLaw.row PySem.Challenge.rw_fracwalk_k77_values_as_text
abbrev hk : PySem.W.Hook := He.hookX 4 fa fn [] [] ex
def ob (s : PySem.W.SharedT) : He.AlX := He.obsX 4 fa fn [] [] ex (HandSHeadRun.getT s)
theorem ob_eq (s : PySem.W.SharedT) : ob s = hk.obs s.abs := He.obsX_eq (HandSHeadRun.getT_eq s)
def loose : List Str := ["NotAValue", "ParseError", "are_integers", "common_divisor", "require_value", "DIGITS", "MAX_DIGITS", "format_value", "number_in", "signed_number_in", "parse_value", "_law_pen", "_law_fresh", "_law_draw", "_law_common", "_law_fraction", "_law_number", "_law_expected", "_law_outcome"]
theorem run (w : World) : HandSHeadRun.RunEq R (PySem.W.view R.prog [23]) hk ob 1500 loose w := by
  intro os
  kernel_rfl
end K77

namespace K77
open PySem PySem.Spec PyProof.Rows L2 Fw
section
theorem tx {w : World} {K : PySem.W.Frag} {h : Heap} {mg : Str → Option Value} (X : K.In h) (G : h.Ns mainGlobals mg) (c : He.SaysX fa fn [] [] ex w h K) : Tx K mg := by
  have cd := c.t.d
  have m := c.more
  unfold ex at m
  rw [Bool.and_eq_true, Bool.and_eq_true] at m
  obtain ⟨m1, m2, m3⟩ := m
  exact {
    g_are_integers := He.glo_ok X G (cd.fact 0 (f := .glo "are_integers") rfl)
    f_are_integers := cd.def_ 0 (d := dF "are_integers" (top 4)) rfl
    g_common_divisor := He.glo_ok X G (cd.fact 1 (f := .glo "common_divisor") rfl)
    f_common_divisor := cd.def_ 1 (d := dF "common_divisor" (top 5)) rfl
    g_require_value := He.glo_ok X G (cd.fact 2 (f := .glo "require_value") rfl)
    f_require_value := cd.def_ 2 (d := dF "require_value" (top 6)) rfl
    g_format_value := He.glo_ok X G (cd.fact 3 (f := .glo "format_value") rfl)
    f_format_value := cd.def_ 3 (d := dF "format_value" (top 10)) rfl
    g_number_in := He.glo_ok X G (cd.fact 4 (f := .glo "number_in") rfl)
    f_number_in := cd.def_ 4 (d := dF "number_in" (top 11)) rfl
    g_signed_number_in := He.glo_ok X G (cd.fact 5 (f := .glo "signed_number_in") rfl)
    f_signed_number_in := cd.def_ 5 (d := dF "signed_number_in" (top 12)) rfl
    g_parse_value := He.glo_ok X G (cd.fact 6 (f := .glo "parse_value") rfl)
    f_parse_value := cd.def_ 6 (d := dF "parse_value" (top 13)) rfl
    g__law_pen := He.glo_ok X G (cd.fact 7 (f := .glo "_law_pen") rfl)
    f__law_pen := cd.def_ 7 (d := dF "_law_pen" (top 15)) rfl
    g__law_fresh := He.glo_ok X G (cd.fact 8 (f := .glo "_law_fresh") rfl)
    f__law_fresh := cd.def_ 8 (d := dF "_law_fresh" (top 16)) rfl
    g__law_draw := He.glo_ok X G (cd.fact 9 (f := .glo "_law_draw") rfl)
    f__law_draw := cd.def_ 9 (d := dF "_law_draw" (top 17)) rfl
    g__law_common := He.glo_ok X G (cd.fact 10 (f := .glo "_law_common") rfl)
    f__law_common := cd.def_ 10 (d := dF "_law_common" (top 18)) rfl
    g__law_fraction := He.glo_ok X G (cd.fact 11 (f := .glo "_law_fraction") rfl)
    f__law_fraction := cd.def_ 11 (d := dF "_law_fraction" (top 19)) rfl
    g__law_number := He.glo_ok X G (cd.fact 12 (f := .glo "_law_number") rfl)
    f__law_number := cd.def_ 12 (d := dF "_law_number" (top 20)) rfl
    g__law_expected := He.glo_ok X G (cd.fact 13 (f := .glo "_law_expected") rfl)
    f__law_expected := cd.def_ 13 (d := dF "_law_expected" (top 21)) rfl
    g__law_outcome := He.glo_ok X G (cd.fact 14 (f := .glo "_law_outcome") rfl)
    f__law_outcome := cd.def_ 14 (d := dF "_law_outcome" (top 22)) rfl
    f_law := cd.def_ 15 (d := dF "law" (top 23)) rfl
    f_NotAValue_init := cd.def_ 16 (d := dM "NotAValue" "__init__" "NotAValue.__init__" (inClass (top 1) 0)) rfl
    f_ParseError_init := cd.def_ 17 (d := dM "ParseError" "__init__" "ParseError.__init__" (inClass (top 2) 0)) rfl
    n_len := He.free_ok X G (cd.fact 16 (f := .free "len") rfl)
    n_all := He.free_ok X G (cd.fact 17 (f := .free "all") rfl)
    n_abs := He.free_ok X G (cd.fact 18 (f := .free "abs") rfl)
    n_isinstance := He.free_ok X G (cd.fact 19 (f := .free "isinstance") rfl)
    n_int := He.free_ok X G (cd.fact 20 (f := .free "int") rfl)
    n_bool := He.free_ok X G (cd.fact 21 (f := .free "bool") rfl)
    n_tuple := He.free_ok X G (cd.fact 22 (f := .free "tuple") rfl)
    n_list := He.free_ok X G (cd.fact 23 (f := .free "list") rfl)
    n_range := He.free_ok X G (cd.fact 24 (f := .free "range") rfl)
    n_str := He.free_ok X G (cd.fact 25 (f := .free "str") rfl)
    n_repr := He.free_ok X G (cd.fact 26 (f := .free "repr") rfl)
    n_ValueError := He.free_ok X G (cd.fact 27 (f := .free "ValueError") rfl)
    c_MAX_DIGITS := let ⟨t, e⟩ := He.int_ok X G (cd.fact 28 (f := .int "MAX_DIGITS" 60) rfl); ⟨_, e, ⟨t, rfl⟩⟩
    c_DIGITS := let ⟨t, e⟩ := He.str_ok X G (cd.fact 29 (f := .str "DIGITS" "0123456789") rfl); ⟨_, e, ⟨t, rfl⟩⟩
    e_NN := He.exm_ok (cd.fact 30 (f := .exm "NotAValue" "NotAValue" true) rfl)
    e_PP := He.exm_ok (cd.fact 31 (f := .exm "ParseError" "ParseError" true) rfl)
    x_NotAValue := xcB_ok X G m1
    x_ParseError := xcB_ok X G m2
    xf_ParseError := xfB_ok m3
    vV := rfl
  }
theorem law_ok {P : Program} {w : World} {K : PySem.W.Frag} {mg : Str → Option Value} {base : Heap} (T : Tx K mg) {fd : FuncData} (F : FnP K "law" (top 23) (He.ga K "law") fd) : FnG P w K mg base CX0 6 (He.ga K "law") fd ["script"] (sp_law K) := by
  have c_are := ok_are_integers (P := P) (w := w) (base := base) T
  have c_com := ok_common_divisor (P := P) (w := w) (base := base) T
  have c_lcom := ok__law_common (P := P) (w := w) (base := base) T
  have c_fmt := ok_format_value (P := P) (w := w) (base := base) T
  have c_num := ok_number_in (P := P) (w := w) (base := base) T
  have c_sgn := ok_signed_number_in T c_num
  have c_lnum := ok__law_number (P := P) (w := w) (base := base) T
  have c_pen := ok__law_pen (P := P) (w := w) (base := base) T
  have c_fresh := ok__law_fresh (P := P) (w := w) (base := base) T
  have c_draw := ok__law_draw T c_fresh
  have c_frac := ok__law_fraction T c_draw c_lcom
  have c_req := ok_require_value T c_are c_com
  have c_parse := ok_parse_value T c_sgn c_req
  have c_out := ok__law_outcome T c_parse
  have c_exp := ok__law_expected T c_lnum c_lcom
  exact ok_law T F c_pen c_draw c_frac c_fmt c_parse c_out c_exp
end
end K77
open PySem PySem.W PySem.Calls PyProof.Rows
theorem PySem.Challenge.cw_fracwalk_k77_values_as_text_holds : PySem.Challenge.rw_fracwalk_k77_values_as_text.Holds := by
  w_on; o_law
  refine HandSHeadRun.head_any (r := K77.R) (q := view K77.R.prog [23]) (H := K77.hk) (ob := K77.ob) (M := 1500) (loose := K77.loose) (d := HandSHeadRun.topDef K77.R.prog 23) (kwd := []) K77.ob_eq
    (by kernel_rfl) (fun s => by kernel_rfl) K77.run (by kernel_rfl) (by kernel_rfl) (by kernel_rfl) (by rfl) (by first | assumption | decide +kernel) (by decide +kernel) ⟨rfl, rfl, rfl, rfl, rfl, by decide +kernel⟩ ?hw ?hc
  case hw => w_witness2
  case hc =>
    refine Fw.walkG (l := PySem.Challenge.rw_fracwalk_k77_values_as_text) (n := 63) (k := 6) (x := "script") rfl (by decide) (by kernel_rfl) ⟨rfl, by decide, by decide⟩ ?F
    intro w mg fa h Y G hmg0
    obtain ⟨K, KX, c⟩ := Y
    have T := K77.tx KX G c
    have hmg : mg ("law" : PySem.Str) = some (.ref fa) := by
      have e : (HandSHeadRun.topDef K77.R.prog 23).name = ("law" : PySem.Str) := by kernel_rfl
      rw [← e]
      exact hmg0
    have e := hmg.symm.trans (He.glo_ok KX G (c.t.d.fact 15 (f := .glo "law") rfl))
    cases e
    obtain ⟨fd, F⟩ := T.f_law
    have b := L2.FunD.bindsA (ps := ["script"]) F fun _ _ _ _ _ _ us hl => match us, hl with | [_], _ => rfl
    exact ⟨K, fd, K77.sp_law K, KX, fun s v => b s [v] rfl, fun H a ns hl _ _ hS => ⟨a, ns, rfl, hS, fun _ => rfl⟩, fun base _ _ => K77.law_ok T F⟩
