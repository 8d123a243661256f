import PyProof.Rows.All
import Wide.All
import OpenK.AllK
import Wide.FinOn
import HandS.ForMost
import HandS.Wide
import HandS.IsInst
import HandS.Evl
import HandS.Walk
import HandS.Conv
import HandS.Deep
import HandS.More
import HandS.SetFor
import HandS.Strs
import HandS.TupSets
import HandS.TupAny
import KE.KDictCopyH
import HandS.DictComp
import HandS.Zip
import HandS.TryOnly
import PySem.Challenge.RW_commonground_k67_consistent_with_bodies
set_option Elab.async false
set_option linter.all false
set_option maxRecDepth 100000
set_option maxHeartbeats 4000000

/-! ### ground: calls by a bundle, frames, step rules -/
namespace CG
open PySem L2

structure Is (P : Program) (w : World) (K : PySem.W.Frag) (mg : Str → Option Value) (base : Heap) (CX : CXT) (k : Nat) (x : Str) (ps : List Str) (sp : Sp) : Prop where
  ex : ∃ (f : Addr) (fd : FuncData), FnOk P w K mg base CX k f fd ps sp ∧ mg x = some (.ref f) ∧ PySem.W.keepIn K (.ref f) = true ∧ Binds K fd ps []

def tCl (sp : Sp) (E : XK) (t : TA) : TE := fun σ H Q => t σ H fun vs H1 => sp vs H1 Q E
section
variable {X : Cx} {CX : CXT} {k : Nat} {x : Str} {ps : List Str} {sp : Sp} {E : XK} {t : TA} {p pos : Pos} {e : Expr} {es : List Expr}
theorem pe_is (D : Is X.prog X.w X.K X.mg X.base CX k x ps sp) (hr : Room k X.A) (hg : Gl X x) (hx : Passes CX X E) (ha : PA X (e :: es) t) (hdb : (x == ("__debug__" : Str)) = false := by decide)
    (he : starEach (e :: es) X.env = (false, eval e X.env) :: starEach es X.env := by rfl) (hpl : (backTo pos (starEach es X.env)).any (·.1) = false := by rfl) : PE X (.Call (.Name x p) (e :: es) [] pos) (tCl sp E t) := by
  obtain ⟨f, fd, F, hm, hk, hb⟩ := D.ex
  have q := pe_call (p := p) F hr hg hm hk hb Paired.nil hx ha hdb he hpl
  have e1 : tCall sp [] E t = tCl sp E t := by
    funext σ H Q
    show (t σ H fun vs H1 => sp (vs ++ []) H1 Q E) = (t σ H fun vs H1 => sp vs H1 Q E)
    simp only [List.append_nil]
  rw [← e1]
  exact q
theorem pe_gc {v : V} {j : Pos} (hg : Gl X x) (hm : ∃ u, X.mg x = some u ∧ RelV v u) (hdb : (x == ("__debug__" : Str)) = false := by decide) (hnm : x ≠ "__name__" := by decide) : PE X (.Name x j) (tC v) := by
  obtain ⟨u, h1, h2⟩ := hm
  exact pe_glob hg h1 h2 hdb
end

/-- all that is tracked stands, but at S, where things are written -/
structure Kp (S : List Addr) (H H' : Hp) : Prop where
  k : ∀ b o, ¬ b ∈ S → H b = some o → H' b = some o
  mu : ∀ b, b ∈ S → Mut (H b)
/-- the same from the entry: what is new since is free -/
def Fm (S : List Addr) (H H' : Hp) : Prop := ∀ b o, ¬ b ∈ S → H b = some o → H' b = some o
section
variable {S S' : List Addr} {H H0 H1 H2 : Hp} {a p : Addr} {o o' : HO} {xs : List V} {K : PySem.W.Frag}
theorem Fm.start : Fm S H H := fun _ _ _ h => h
theorem Kp.refl : Kp [] H H := ⟨fun _ _ _ h => h, fun _ h => nomatch h⟩
theorem Kp.new (hp : H p = none) : Kp [] H (upd H p o) := ⟨fun b u _ h => by rw [upd_ne (ne_of_none h hp)]; exact h, fun _ h => nomatch h⟩
theorem Kp.put (hp : H p = some o) (hm : Mut (some o)) : Kp [p] H (upd H p o') := ⟨fun b u hb h => by rw [upd_ne (fun e => hb (by simp [e]))]; exact h, fun b hb => by
  rw [List.mem_singleton] at hb
  subst hb
  rw [hp]
  exact hm⟩
theorem Fm.go (f : Fm S H0 H) (k : Kp S' H H1) (h : ∀ a, a ∈ S' → a ∈ S ∨ H0 a = none) : Fm S H0 H1 := fun b o hb e => by
  refine k.k b o (fun hm => ?_) (f b o hb e)
  rcases h b hm with q | q
  · exact hb q
  · rw [q] at e
    cases e
theorem Fm.go0 (f : Fm S H0 H) (k : Kp [] H H1) : Fm S H0 H1 := f.go k fun _ h => nomatch h
theorem Fm.kp (f : Fm S H0 H) (mu : ∀ b, b ∈ S → Mut (H0 b)) : Kp S H0 H := ⟨f, mu⟩
theorem Fm.free (f : Fm S H0 H) (h : H p = none) (hs : ∀ b, b ∈ S → ∃ o, H b = some o) : H0 p = none := by
  cases q : H0 p with
  | none => rfl
  | some o =>
    by_cases hb : p ∈ S
    · obtain ⟨o, e⟩ := hs p hb
      rw [h] at e
      cases e
    · rw [f p o hb q] at h
      cases h
theorem Kp.free (f : Kp S H0 H) (h : H p = none) (hs : ∀ b, b ∈ S → ∃ o, H b = some o) : H0 p = none := Fm.free (S := S) f.k h hs
theorem Kp.free0 (f : Kp [] H0 H) (h : H p = none) : H0 p = none := f.free h fun _ hm => by cases hm
theorem Kp.get (k : Kp S H H1) (hn : ¬ a ∈ S) (h : H a = some o) : H1 a = some o := k.k _ _ hn h
theorem Kp.get0 (k : Kp [] H H1) (h : H a = some o) : H1 a = some o := k.k _ _ (fun h => nomatch h) h
theorem Kp.get1 (k : Kp [p] H H1) (hn : a ≠ p) (h : H a = some o) : H1 a = some o := k.k _ _ (fun h => hn (by simpa using h)) h
theorem Kp.tup (k : Kp S H H1) (h : SqT K H a xs) : SqT K H1 a xs := by
  rcases h with (h | ⟨u, h⟩) | h
  · exact .inl (.inl (k.k _ _ (fun hm => by have q := k.mu _ hm; rw [h] at q; exact q) h))
  · exact .inl (.inr ⟨u, k.k _ _ (fun hm => by have q := k.mu _ hm; rw [h] at q; exact q) h⟩)
  · exact .inr h
theorem Kp.trans (a : Kp [] H0 H1) (b : Kp [] H1 H2) : Kp [] H0 H2 := ⟨fun c o _ h => b.get0 (a.get0 h), fun _ h => nomatch h⟩
theorem Kp.tr (a : Kp S H0 H1) (b : Kp S' H1 H2) (h : ∀ x, x ∈ S' → x ∈ S ∨ H0 x = none) : Kp S H0 H2 := ⟨fun c o hc e => b.k c o (fun hm => by
  rcases h c hm with q | q
  · exact hc q
  · rw [q] at e
    cases e) (a.k c o hc e), a.mu⟩
theorem Kp.tr0 (b : Kp [] H1 H2) (a : Kp S H0 H1) : Kp S H0 H2 := a.tr b fun _ h => by cases h
theorem Kp.tr1 (b : Kp S H1 H2) (a : Kp S H0 H1) : Kp S H0 H2 := a.tr b fun _ h => .inl h
theorem Kp.trN (b : Kp [p] H1 H2) (a : Kp S H0 H1) (hp : H0 p = none) : Kp S H0 H2 := a.tr b fun x hx => by
  rw [List.mem_singleton] at hx
  subst hx
  exact .inr hp
theorem Kp.base (mu : ∀ b, b ∈ S → Mut (H b)) : Kp S H H := ⟨fun _ _ _ h => h, mu⟩
theorem Kp.fresh (k : Kp S H0 H1) (h : H1 p = none) (hs : ∀ b, b ∈ S → ∃ o, H1 b = some o) : ∀ x, x ∈ [p] → x ∈ S ∨ H0 x = none := fun x hx => by
  rw [List.mem_singleton] at hx
  subst hx
  exact .inr (k.free h hs)
theorem ne_newL (hp : H p = none) (h : H a = some o) : a ≠ p := ne_of_none h hp
theorem ne_newR (hp : H p = none) (h : H a = some o) : p ≠ a := (ne_of_none h hp).symm
theorem SqT.ty (h : SqT K H a xs) : TyX K H (.ref a) (.type "tuple") := by
  rcases h with (h | ⟨u, h⟩) | ⟨o, its, n, h1, h2, _⟩
  · exact .base (.tup h)
  · exact .fTuple h
  · exact .kTuple h1 h2
end

/-! ### step rules: from the head of a reading -/
/-- one step of a reading, many -/
class Stp (g : Prop) (n : outParam Prop) : Prop where
  imp : n → g
class Stps (g : Prop) (n : outParam Prop) : Prop where
  imp : n → g
instance (priority := low) stps_nil {g : Prop} : Stps g g := ⟨id⟩
instance stps_cons {g m n : Prop} [a : Stp g m] [b : Stps m n] : Stps g n := ⟨fun h => a.imp (b.imp h)⟩
/-- one step at least -/
theorem go1 {g m n : Prop} (a : Stp g m) (b : Stps m n) (h : n) : g := a.imp (b.imp h)
class Look (σ : St) (n : Nat) (v : outParam V) : Prop where
  e : σ[n]? = some (some v)
instance look0 {v : V} {σ : St} : Look (some v :: σ) 0 v := ⟨rfl⟩
instance lookS {v : V} {x : Option V} {σ : St} {n : Nat} [a : Look σ n v] : Look (x :: σ) (n + 1) v := ⟨by rw [List.getElem?_cons_succ]; exact a.e⟩
class SetS (σ : St) (n : Nat) (v : V) (σ' : outParam St) : Prop where
  e : σ.set n (some v) = σ'
instance set0 {v : V} {x : Option V} {σ : St} : SetS (x :: σ) 0 v (some v :: σ) := ⟨rfl⟩
instance setS {v : V} {x : Option V} {σ σ' : St} {n : Nat} [a : SetS σ n v σ'] : SetS (x :: σ) (n + 1) v (x :: σ') := ⟨by rw [List.set_cons_succ, a.e]⟩
def mkT (xs : List V) (H : Hp) (Q : VK) : Prop := xs.length ≤ sizeLine ∧ ∀ p, H p = none → Q (.ref p) (upd H p (.tup xs))
def mkL (xs : List V) (H : Hp) (Q : VK) : Prop := xs.length ≤ sizeLine ∧ ∀ p, H p = none → Q (.ref p) (upd H p (.lst xs))
def asB (x : V) (R : Bool → Prop) : Prop := ∃ k, x = .bl k ∧ R k
/-- two ways by a test -/
def iteP (b : Bool) (A B : Prop) : Prop := if b = true then A else B
theorem iteP_of {b : Bool} {A B : Prop} (h : iteP b A B) : if b = true then A else B := h
section
variable {σ σ' : St} {H : Hp} {Q : VK} {ta tb tc te : TE} {v : V} {i j : Int} {n : Nat} {K : PySem.W.Frag} {E : XK} {C : Int → Int → Prop} {gi : Int → Int → V} {nx bk ct : St → Hp → Prop} {rt : VK}
instance s_seq {t u : TS} : Stp (tSeq t u ⟨nx, rt, bk, ct⟩ σ H) (t ⟨u ⟨nx, rt, bk, ct⟩, rt, bk, ct⟩ σ H) := ⟨id⟩
instance s_next : Stp (tNext ⟨nx, rt, bk, ct⟩ σ H) (nx σ H) := ⟨id⟩
instance s_set : Stp (tAsg te (gName n) ⟨nx, rt, bk, ct⟩ σ H) (te σ H fun x H1 => gName n x σ H1 nx) := ⟨id⟩
instance s_asg {g : TG} : Stp (tAsg te g ⟨nx, rt, bk, ct⟩ σ H) (te σ H fun x H1 => g x σ H1 nx) := ⟨id⟩
instance s_gN {R : St → Hp → Prop} [a : SetS σ n v σ'] : Stp (gName n v σ H R) (R σ' H) := ⟨fun h => by show R (σ.set n (some v)) H; rw [a.e]; exact h⟩
instance s_drop : Stp (tDrop te ⟨nx, rt, bk, ct⟩ σ H) (te σ H fun _ H1 => nx σ H1) := ⟨id⟩
instance s_ret : Stp (tRet te ⟨nx, rt, bk, ct⟩ σ H) (te σ H rt) := ⟨id⟩
instance s_retN : Stp (tRetN ⟨nx, rt, bk, ct⟩ σ H) (rt .non H) := ⟨id⟩
instance s_break : Stp (tBreak ⟨nx, rt, bk, ct⟩ σ H) (bk σ H) := ⟨id⟩
instance s_cont : Stp (tCont ⟨nx, rt, bk, ct⟩ σ H) (ct σ H) := ⟨id⟩
instance s_ifS {c : TT} {t u : TS} {D : Ends} : Stp (tIfS c t u D σ H) (c σ H fun b H1 => iteP b (t D σ H1) (u D σ H1)) := ⟨id⟩
instance s_var [a : Look σ n v] : Stp (tVar n σ H Q) (Q v H) := ⟨fun h => ⟨v, a.e, h⟩⟩
instance s_c : Stp (tC v σ H Q) (Q v H) := ⟨id⟩
instance s_op {r : R2} : Stp (tOp r ta tb σ H Q) (ta σ H fun x H1 => tb σ H1 fun y H2 => r x y H2 Q) := ⟨id⟩
instance s_un {r : V → Hp → VK → Prop} : Stp (tUn r ta σ H Q) (ta σ H fun x H1 => r x H1 Q) := ⟨id⟩
instance s_rU {g : Int → V} : Stp (rU g (.int i) H Q) (Q (g i) H) := ⟨fun h => ⟨i, rfl, h⟩⟩
instance s_rI0 : Stp (rI0 gi (.int i) (.int j) H Q) (Q (gi i j) H) := ⟨fun h => ⟨i, j, rfl, rfl, h⟩⟩
theorem r_rI (hc : C i j) (h : Q (gi i j) H) : rI C gi (.int i) (.int j) H Q := ⟨i, j, rfl, rfl, hc, h⟩
instance s_pow6 : Stp (rI CPow (fun i j => V.int (i ^ j.toNat)) (.int 10) (.int 6) H Q) (Q (.int 1000000) H) := ⟨fun h => ⟨10, 6, rfl, rfl, ⟨by decide, by decide, by decide⟩, h⟩⟩
instance s_pow7 : Stp (rI CPow (fun i j => V.int (i ^ j.toNat)) (.int 10) (.int 7) H Q) (Q (.int 10000000) H) := ⟨fun h => ⟨10, 7, rfl, rfl, ⟨by decide, by decide, by decide⟩, h⟩⟩
instance s_pow8 : Stp (rI CPow (fun i j => V.int (i ^ j.toNat)) (.int 10) (.int 8) H Q) (Q (.int 100000000) H) := ⟨fun h => ⟨10, 8, rfl, rfl, ⟨by decide, by decide, by decide⟩, h⟩⟩
instance s_pow9 : Stp (rI CPow (fun i j => V.int (i ^ j.toNat)) (.int 10) (.int 9) H Q) (Q (.int 1000000000) H) := ⟨fun h => ⟨10, 9, rfl, rfl, ⟨by decide, by decide, by decide⟩, h⟩⟩
instance s_pow10 : Stp (rI CPow (fun i j => V.int (i ^ j.toNat)) (.int 10) (.int 10) H Q) (Q (.int 10000000000) H) := ⟨fun h => ⟨10, 10, rfl, rfl, ⟨by decide, by decide, by decide⟩, h⟩⟩
instance s_pow12 : Stp (rI CPow (fun i j => V.int (i ^ j.toNat)) (.int 10) (.int 12) H Q) (Q (.int 1000000000000) H) := ⟨fun h => ⟨10, 12, rfl, rfl, ⟨by decide, by decide, by decide⟩, h⟩⟩
instance s_pow21 : Stp (rI CPow (fun i j => V.int (i ^ j.toNat)) (.int 10) (.int 21) H Q) (Q (.int 1000000000000000000000) H) := ⟨fun h => ⟨10, 21, rfl, rfl, ⟨by decide, by decide, by decide⟩, h⟩⟩
instance s_pow30 : Stp (rI CPow (fun i j => V.int (i ^ j.toNat)) (.int 10) (.int 30) H Q) (Q (.int 1000000000000000000000000000000) H) := ⟨fun h => ⟨10, 30, rfl, rfl, ⟨by decide, by decide, by decide⟩, h⟩⟩
instance s_pow40 : Stp (rI CPow (fun i j => V.int (i ^ j.toNat)) (.int 10) (.int 40) H Q) (Q (.int 10000000000000000000000000000000000000000) H) := ⟨fun h => ⟨10, 40, rfl, rfl, ⟨by decide, by decide, by decide⟩, h⟩⟩
instance s_pow60 : Stp (rI CPow (fun i j => V.int (i ^ j.toNat)) (.int 10) (.int 60) H Q) (Q (.int 1000000000000000000000000000000000000000000000000000000000000) H) := ⟨fun h => ⟨10, 60, rfl, rfl, ⟨by decide, by decide, by decide⟩, h⟩⟩
instance s_eqI : Stp (rEq (.int i) (.int j) H Q) (Q (.bl (decide (i = j))) H) := ⟨fun h => ⟨rfl, by
  have e : decide (V.int i = V.int j) = decide (i = j) := by simp
  rw [e]
  exact h⟩⟩
instance s_neI : Stp (rNe (.int i) (.int j) H Q) (Q (.bl (decide (i ≠ j))) H) := ⟨fun h => ⟨rfl, by
  have e : (!decide (V.int i = V.int j)) = decide (i ≠ j) := by simp
  rw [e]
  exact h⟩⟩
instance s_eqS {a b : Str} : Stp (rEq (.str a) (.str b) H Q) (Q (.bl (decide (a = b))) H) := ⟨fun h => ⟨rfl, by
  have e : decide (V.str a = V.str b) = decide (a = b) := by simp
  rw [e]
  exact h⟩⟩
instance s_neS {a b : Str} : Stp (rNe (.str a) (.str b) H Q) (Q (.bl (decide (a ≠ b))) H) := ⟨fun h => ⟨rfl, by
  have e : (!decide (V.str a = V.str b)) = decide (a ≠ b) := by simp
  rw [e]
  exact h⟩⟩
instance s_eqB {a b : Bool} : Stp (rEq (.bl a) (.bl b) H Q) (Q (.bl (decide (a = b))) H) := ⟨fun h => ⟨rfl, by
  have e : decide (V.bl a = V.bl b) = decide (a = b) := by simp
  rw [e]
  exact h⟩⟩
instance s_neB {a b : Bool} : Stp (rNe (.bl a) (.bl b) H Q) (Q (.bl (decide (a ≠ b))) H) := ⟨fun h => ⟨rfl, by
  have e : (!decide (V.bl a = V.bl b)) = decide (a ≠ b) := by simp
  rw [e]
  exact h⟩⟩
instance s_test {R : Bool → Hp → Prop} : Stp (tTest te σ H R) (te σ H fun x H1 => asB x fun k => R k H1) := ⟨id⟩
instance s_B {R : Bool → Hp → Prop} : Stp (tB te σ H R) (te σ H fun x H1 => asB x fun k => R k H1) := ⟨id⟩
instance s_asB {b : Bool} {R : Bool → Prop} : Stp (asB (.bl b) R) (R b) := ⟨fun h => ⟨b, rfl, h⟩⟩
instance s_and {t u : TT} {R : Bool → Hp → Prop} : Stp (tAnd t u σ H R) (t σ H fun c H1 => iteP c (u σ H1 R) (R false H1)) := ⟨id⟩
instance s_or {t u : TT} {R : Bool → Hp → Prop} : Stp (tOr t u σ H R) (t σ H fun c H1 => iteP c (R true H1) (u σ H1 R)) := ⟨id⟩
instance s_not {t : TT} {R : Bool → Hp → Prop} : Stp (tNot t σ H R) (t σ H fun c H1 => R (!c) H1) := ⟨id⟩
instance s_andV : Stp (tAndV ta tb σ H Q) (ta σ H fun x H1 => asB x fun c => iteP c (tb σ H1 Q) (Q (.bl false) H1)) := ⟨id⟩
instance s_orV : Stp (tOrV ta tb σ H Q) (ta σ H fun x H1 => asB x fun c => iteP c (Q (.bl true) H1) (tb σ H1 Q)) := ⟨id⟩
instance s_notV : Stp (tNotV ta σ H Q) (ta σ H fun x H1 => asB x fun c => Q (.bl (!c)) H1) := ⟨id⟩
instance s_if {t : TT} : Stp (tIf t ta tb σ H Q) (t σ H fun c H1 => iteP c (ta σ H1 Q) (tb σ H1 Q)) := ⟨id⟩
instance s_chain {r r' : R2} : Stp (tChain r r' ta tb tc σ H Q) (ta σ H fun x H1 => tb σ H1 fun y H2 => r x y H2 fun z H3 => asB z fun k => iteP k (tc σ H3 fun w' H4 => r' y w' H4 Q) (Q (.bl false) H3)) := ⟨id⟩
instance s_nil {R : List V → Hp → Prop} : Stp (tNil σ H R) (R [] H) := ⟨id⟩
instance s_cons {tr : TA} {R : List V → Hp → Prop} : Stp (tCons ta tr σ H R) (ta σ H fun x H1 => tr σ H1 fun xs H2 => R (x :: xs) H2) := ⟨id⟩
instance s_tTup {t : TA} : Stp (tTup t σ H Q) (t σ H fun xs H1 => mkT xs H1 Q) := ⟨id⟩
instance s_tLst {t : TA} : Stp (tLst t σ H Q) (t σ H fun xs H1 => mkL xs H1 Q) := ⟨id⟩
instance s_cB {t : TA} {r : List V → Hp → VK → Prop} : Stp (tCB r t σ H Q) (t σ H fun vs H1 => r vs H1 Q) := ⟨id⟩
instance s_cl {sp : Sp} {t : TA} : Stp (tCl sp E t σ H Q) (t σ H fun vs H1 => sp vs H1 Q E) := ⟨id⟩
instance s_aug {ti : TIp} [a : Look σ n v] : Stp (tAug n te ti ⟨nx, rt, bk, ct⟩ σ H) (te σ H fun y H1 => ti v y H1 fun z H2 => gName n z σ H2 nx) := ⟨fun h => ⟨v, a.e, h⟩⟩
instance s_ipI {f : Int → Int → Int} : Stp (ipI f (.int i) (.int j) H Q) (Q (.int (f i j)) H) := ⟨fun h => ⟨i, j, rfl, rfl, h⟩⟩
instance s_iteT {A B : Prop} : Stp (iteP true A B) A := ⟨fun h => iteT h⟩
instance s_iteF {A B : Prop} : Stp (iteP false A B) B := ⟨fun h => iteF h⟩
instance s_iteNT {A B : Prop} : Stp (iteP (!true) A B) B := ⟨fun h => iteF h⟩
instance s_iteNF {A B : Prop} : Stp (iteP (!false) A B) A := ⟨fun h => iteT h⟩
theorem r_mkT {xs : List V} (hl : xs.length ≤ sizeLine) (h : ∀ p H2, H p = none → SqT K H2 p xs → Kp [] H H2 → Q (.ref p) H2) : mkT xs H Q :=
  ⟨hl, fun p hp => h p _ hp (SqT.of upd_same) (Kp.new hp)⟩
theorem r_mkL {xs : List V} (hl : xs.length ≤ sizeLine) (h : ∀ p H2, H p = none → H2 p = some (.lst xs) → Kp [] H H2 → Q (.ref p) H2) : mkL xs H Q :=
  ⟨hl, fun p hp => h p _ hp upd_same (Kp.new hp)⟩
theorem r_ixT {p : Addr} {xs : List V} (h : SqT K H p xs) (e : atI xs i = some v) (q : Q v H) : rIxT K (.ref p) (.int i) H Q := ⟨p, xs, i, v, rfl, rfl, h, e, q⟩
theorem r_ixL {p : Addr} {xs : List V} (h : H p = some (.lst xs)) (e : atI xs i = some v) (q : Q v H) : rIxL K (.ref p) (.int i) H Q := ⟨p, xs, i, v, rfl, rfl, SqL.of h, e, q⟩
theorem r_gTup {t : TGs} {m : Nat} {p : Addr} {xs : List V} {R : St → Hp → Prop} (h : SqT K H p xs) (e : xs.length = m) (q : t xs σ H R) : gTup K m t (.ref p) σ H R := ⟨p, xs, rfl, h, e, q⟩
instance s_gCons {t : TG} {u : TGs} {r : List V} {R : St → Hp → Prop} : Stp (gCons t u (v :: r) σ H R) (t v σ H fun σ' H' => u r σ' H' R) := ⟨fun h => ⟨v, r, rfl, h⟩⟩
instance s_gNil {R : St → Hp → Prop} : Stp (gNil [] σ H R) (R σ H) := ⟨fun h => ⟨rfl, h⟩⟩
instance s_gSub {s : TSet} {R : St → Hp → Prop} : Stp (gSub ta tb s v σ H R) (ta σ H fun o H1 => tb σ H1 fun i H2 => s o i v H2 fun H3 => R σ H3) := ⟨id⟩
theorem r_setL {p : Addr} {xs : List V} {m : Nat} {R : Hp → Prop} (h : H p = some (.lst xs)) (e : ixN xs.length i = some m) (q : ∀ H2, H2 p = some (.lst (xs.set m v)) → Kp [p] H H2 → R H2) : rSetL (.ref p) (.int i) v H R :=
  ⟨p, xs, i, m, rfl, rfl, h, e, q _ upd_same (Kp.put h trivial)⟩
theorem if_T {A B : Prop} {c : Prop} [Decidable c] (hc : c) (h : A) : iteP (decide c) A B := by
  unfold iteP
  rw [if_pos (decide_eq_true hc)]
  exact h
theorem if_F {A B : Prop} {c : Prop} [Decidable c] (hc : ¬ c) (h : B) : iteP (decide c) A B := by
  unfold iteP
  rw [if_neg (by rw [decide_eq_false hc]; decide)]
  exact h
theorem if_S {A B : Prop} {c : Prop} [Decidable c] (h : c → A) (h' : ¬ c → B) : iteP (decide c) A B := by
  by_cases hc : c
  · exact if_T hc (h hc)
  · exact if_F hc (h' hc)
theorem if_NT {A B : Prop} {c : Prop} [Decidable c] (hc : ¬ c) (h : A) : iteP (!decide c) A B := by
  rw [decide_eq_false hc]
  exact iteT h
theorem if_NF {A B : Prop} {c : Prop} [Decidable c] (hc : c) (h : B) : iteP (!decide c) A B := by
  rw [decide_eq_true hc]
  exact iteF h
theorem if_NS {A B : Prop} {c : Prop} [Decidable c] (h : ¬ c → A) (h' : c → B) : iteP (!decide c) A B := by
  by_cases hc : c
  · exact if_NF hc (h' hc)
  · exact if_NT hc (h hc)
theorem if_B {A B : Prop} {b : Bool} (h : b = true → A) (h' : b = false → B) : iteP b A B := by
  cases b
  · exact iteF (h' rfl)
  · exact iteT (h rfl)
end

/-! ### built-in calls by named rules -/
section
variable {X : Cx} {f : Value} {r r' : List V → Hp → VK → Prop}
theorem callR_imp (h : CallR X f r) (i : ∀ xs H Q, r' xs H Q → r xs H Q) : CallR X f r' := fun pins s σ H xs us Q I rx q => h pins s σ H xs us Q I rx (i _ _ _ q)
def rInt : List V → Hp → VK → Prop := fun xs H Q => (∃ i, xs = [.int i] ∧ Q (.int i) H) ∨ ∃ k, xs = [.bl k] ∧ Q (.int (if k then 1 else 0)) H
theorem cg_int : CallR X (.type "int") rInt := call_int1
def rLen (K : PySem.W.Frag) : List V → Hp → VK → Prop := fun xs H Q => ∃ p ys, xs = [.ref p] ∧ (SqL K H p ys ∨ SqT K H p ys) ∧ Q (.int ys.length) H
theorem cg_len : CallR X (.builtin "len") (rLen X.K) := call_len_seq
def rListOf (K : PySem.W.Frag) : List V → Hp → VK → Prop := fun xs H Q => ∃ p ys, xs = [.ref p] ∧ (SqL K H p ys ∨ SqT K H p ys) ∧ ∀ l, H l = none → Q (.ref l) (upd H l (.lst ys))
theorem cg_list : CallR X (.type "list") (rListOf X.K) := call_list_of
def rTupOf (K : PySem.W.Frag) : List V → Hp → VK → Prop := fun xs H Q => ∃ p ys, xs = [.ref p] ∧ ((SqL K H p ys ∧ ∀ l, H l = none → Q (.ref l) (upd H l (.tup ys))) ∨ (SqT K H p ys ∧ Q (.ref p) H))
theorem cg_tuple : CallR X (.type "tuple") (rTupOf X.K) := call_tuple_of
def rAbs : List V → Hp → VK → Prop := fun xs H Q => ∃ i, xs = [.int i] ∧ Q (.int (if i < 0 then -i else i)) H
theorem cg_abs : CallR X (.builtin "abs") rAbs := call_abs
end
section
variable {H : Hp} {Q : VK} {K : PySem.W.Frag} {i : Int} {p : Addr} {xs : List V}
instance s_int : Stp (rInt [.int i] H Q) (Q (.int i) H) := ⟨fun q => .inl ⟨i, rfl, q⟩⟩
instance s_intB {b : Bool} : Stp (rInt [.bl b] H Q) (Q (.int (if b then 1 else 0)) H) := ⟨fun q => .inr ⟨b, rfl, q⟩⟩
theorem r_lenT (h : SqT K H p xs) (q : Q (.int xs.length) H) : rLen K [.ref p] H Q := ⟨p, xs, rfl, .inr h, q⟩
theorem r_lenL (h : H p = some (.lst xs)) (q : Q (.int xs.length) H) : rLen K [.ref p] H Q := ⟨p, xs, rfl, .inl (SqL.of h), q⟩
theorem r_listL (h : SqL K H p xs) (q : ∀ l H2, H l = none → H2 l = some (.lst xs) → Kp [] H H2 → Q (.ref l) H2) : rListOf K [.ref p] H Q := ⟨p, xs, rfl, .inl h, fun l hl => q l _ hl upd_same (Kp.new hl)⟩
theorem r_tupleL (h : H p = some (.lst xs)) (q : ∀ l H2, H l = none → SqT K H2 l xs → Kp [] H H2 → Q (.ref l) H2) : rTupOf K [.ref p] H Q := ⟨p, xs, rfl, .inl ⟨SqL.of h, fun l hl => q l _ hl (SqT.of upd_same) (Kp.new hl)⟩⟩
instance s_abs : Stp (rAbs [.int i] H Q) (Q (.int (if i < 0 then -i else i)) H) := ⟨fun q => ⟨i, rfl, q⟩⟩
theorem r_isi {v c : V} {t u : Value} {b : Bool} (hc : ClsV c u) (ht : TyX K H v t) (hk : PySem.W.kitOne K t u = some b) (q : Q (.bl b) H) : rIsi K [v, c] H Q := ⟨v, c, t, u, b, rfl, hc, ht, hk, q⟩
theorem r_inL {neg : Bool} {x : V} {b : Bool} (h : H p = some (.lst xs)) (fx : flatV x = true) (fs : xs.all flatV = true) (e : (if neg then !inV x xs else inV x xs) = b) (q : Q (.bl b) H) : rIn K neg x (.ref p) H Q := ⟨p, xs, rfl, .inl (SqL.of h), fx, fs, by rw [e]; exact q⟩
theorem r_inT {neg : Bool} {x : V} {b : Bool} (h : SqT K H p xs) (fx : flatV x = true) (fs : xs.all flatV = true) (e : (if neg then !inV x xs else inV x xs) = b) (q : Q (.bl b) H) : rIn K neg x (.ref p) H Q := ⟨p, xs, rfl, .inr h, fx, fs, by rw [e]; exact q⟩
end
/-! ### data that never changes -/
mutual
inductive Im (K : PySem.W.Frag) (H : Hp) : V → PyData → Prop
  | non : Im K H .non .none
  | bl (b : Bool) : Im K H (.bl b) (.bool b)
  | int (i : Int) : Im K H (.int i) (.int i)
  | str (x : Str) : Im K H (.str x) (.str x)
  | tup {a : Addr} {xs : List V} {ds : List PyData} : SqT K H a xs → ImAll K H xs ds → Im K H (.ref a) (.tuple ds)
inductive ImAll (K : PySem.W.Frag) (H : Hp) : List V → List PyData → Prop
  | nil : ImAll K H [] []
  | cons {v : V} {vs : List V} {d : PyData} {ds : List PyData} : Im K H v d → ImAll K H vs ds → ImAll K H (v :: vs) (d :: ds)
end
section
variable {K : PySem.W.Frag} {H H' : Hp} {S : List Addr} {p : Addr} {xs : List V} {ds : List PyData} {x : V} {d : PyData}
mutual
theorem Kp.im (k : Kp S H H') : ∀ {x : V} {d : PyData}, Im K H x d → Im K H' x d
  | _, _, .non => .non
  | _, _, .bl b => .bl b
  | _, _, .int i => .int i
  | _, _, .str z => .str z
  | _, _, .tup h a => .tup (k.tup h) (Kp.imAll k a)
theorem Kp.imAll (k : Kp S H H') : ∀ {xs : List V} {ds : List PyData}, ImAll K H xs ds → ImAll K H' xs ds
  | _, _, .nil => .nil
  | _, _, .cons h a => .cons (Kp.im k h) (Kp.imAll k a)
end
mutual
theorem Im.dp : ∀ {x : V} {d : PyData}, Im K H x d → Dp K H x d
  | _, _, .non => .non
  | _, _, .bl b => .bl b
  | _, _, .int i => .int i
  | _, _, .str z => .str z
  | _, _, .tup h a => .tup h (ImAll.dp a)
theorem ImAll.dp : ∀ {xs : List V} {ds : List PyData}, ImAll K H xs ds → DpAll K H xs ds
  | _, _, .nil => .nil
  | _, _, .cons h a => .cons h.dp (ImAll.dp a)
end
theorem ImAll.length : ∀ {xs : List V} {ds : List PyData}, ImAll K H xs ds → xs.length = ds.length
  | _, _, .nil => rfl
  | _, _, .cons _ a => by rw [List.length_cons, List.length_cons, ImAll.length a]
theorem ImAll.get : ∀ {xs : List V} {ds : List PyData} {i : Nat} {x : V}, ImAll K H xs ds → xs[i]? = some x → ∃ d, ds[i]? = some d ∧ Im K H x d
  | _, _, _, _, .nil, e => by simp at e
  | _, _, 0, _, .cons h _, e => by simp at e; subst e; exact ⟨_, rfl, h⟩
  | _, _, i + 1, _, .cons _ a, e => by
    obtain ⟨d, h1, h2⟩ := ImAll.get (i := i) a (by simpa using e)
    exact ⟨d, by simpa using h1, h2⟩
theorem ImAll.at : ∀ {xs : List V} {ds : List PyData} {i : Nat} {d : PyData}, ImAll K H xs ds → ds[i]? = some d → ∃ x, xs[i]? = some x ∧ Im K H x d
  | _, _, _, _, .nil, e => by simp at e
  | _, _, 0, _, .cons h _, e => by simp at e; subst e; exact ⟨_, rfl, h⟩
  | _, _, i + 1, _, .cons _ a, e => by
    obtain ⟨x, h1, h2⟩ := ImAll.at (i := i) a (by simpa using e)
    exact ⟨x, by simpa using h1, h2⟩
theorem ImAll.snoc : ∀ {xs : List V} {ds : List PyData} {x : V} {d : PyData}, ImAll K H xs ds → Im K H x d → ImAll K H (xs ++ [x]) (ds ++ [d])
  | _, _, _, _, .nil, h => .cons h .nil
  | _, _, _, _, .cons h a, h' => .cons h (ImAll.snoc a h')
/-- the data of a flat value, back -/
def flatD : PyData → Option V
  | .none => some .non
  | .bool b => some (.bl b)
  | .int i => some (.int i)
  | .str x => some (.str x)
  | _ => Option.none
def flatDs : List PyData → Option (List V)
  | [] => some []
  | d :: ds => match flatD d, flatDs ds with
    | some x, some xs => some (x :: xs)
    | _, _ => Option.none
theorem Im.flat (h : Im K H x d) {y : V} (e : flatD d = some y) : x = y := by
  cases h with
  | tup _ _ => cases e
  | _ => exact Option.some.inj e
theorem ImAll.flat : ∀ {xs : List V} {ds : List PyData} {ys : List V}, ImAll K H xs ds → flatDs ds = some ys → xs = ys
  | _, _, _, .nil, e => Option.some.inj e
  | _, d :: ds, ys, .cons (v := v) h a, e => by
    unfold flatDs at e
    split at e
    · rename_i y zs h1 h2
      rw [h.flat h1, ImAll.flat a h2]
      exact Option.some.inj e
    · cases e
theorem Im.open (h : Im K H (.ref p) (.tuple ds)) : ∃ xs, SqT K H p xs ∧ ImAll K H xs ds := by
  cases h with
  | tup h a => exact ⟨_, h, a⟩
theorem Im.sq (h : Im K H (.ref p) (.tuple ds)) {ys : List V} (e : flatDs ds = some ys) : SqT K H p ys := by
  obtain ⟨xs, h1, h2⟩ := h.open
  rw [← h2.flat e]
  exact h1
theorem Im.isRef (h : Im K H x (.tuple ds)) : ∃ p, x = .ref p := by
  cases h with
  | tup h a => exact ⟨_, rfl⟩
theorem flatDs_ints : ∀ ns : List Int, flatDs (ns.map PyData.int) = some (ns.map V.int)
  | [] => rfl
  | n :: ns => by
    show (match flatD (.int n), flatDs (ns.map PyData.int) with | some x, some xs => some (x :: xs) | _, _ => Option.none) = _
    rw [flatDs_ints ns]
    rfl
theorem Im.ints {ns : List Int} (h : SqT K H p (ns.map V.int)) : Im K H (.ref p) (.tuple (ns.map .int)) := by
  refine .tup h ?_
  clear h
  induction ns with
  | nil => exact .nil
  | cons n ns ih => exact .cons (.int n) ih
end
/-! ### loops -/
def forS (J : It) (g : TG) (tb : TS) (D : Ends) (σ : St) (H : Hp) : Prop := ∃ W : Nat → Nat → St → Hp → Prop, (∃ m, W 0 m σ H) ∧ ∀ i m σ H, W i m σ H →
  (J.stop i H ∧ D.nx σ H) ∨ (J.go i H ∧ ∃ N : St → Hp → Prop, (∀ σ' H', N σ' H' → ∃ m', m' < m ∧ W (i + 1) m' σ' H') ∧ ∀ x H', J.yld i H x H' → g x σ H' fun σ2 H2 => tb { D with nx := N, ct := N, bk := D.nx } σ2 H2)
def isL (K : PySem.W.Frag) (x : V) (H : Hp) (R : It → Hp → Prop) : Prop := ∃ a, x = .ref a ∧ (∃ xs, SqL K H a xs) ∧ R (Itl K a) H
def isT (K : PySem.W.Frag) (x : V) (H : Hp) (R : It → Hp → Prop) : Prop := ∃ a, x = .ref a ∧ (∃ xs, SqT K H a xs) ∧ R (Itt K a) H
def isR1 (vs : List V) (H : Hp) (R : It → Hp → Prop) : Prop := ∃ j : Int, vs = [.int j] ∧ -(2 ^ 62) ≤ j ∧ j < 2 ^ 62 ∧ R (Itr 0 j.toNat) H
section
variable {σ : St} {H : Hp} {K : PySem.W.Frag} {p : Addr} {xs : List V} {g : TG} {tb : TS} {nx bk ct : St → Hp → Prop} {rt : VK} {D : Ends} {wi : TI} {tl : TE} {ta : TA} {R : It → Hp → Prop} {lo : Int} {n : Nat}
instance s_for : Stp (tFor wi g tb D σ H) (wi σ H fun J H1 => forS J g tb D σ H1) := ⟨id⟩
instance s_iL : Stp (iList K tl σ H R) (tl σ H fun x H1 => isL K x H1 R) := ⟨id⟩
instance s_iT : Stp (iTup K tl σ H R) (tl σ H fun x H1 => isT K x H1 R) := ⟨id⟩
instance s_iR1 : Stp (iRng1 ta σ H R) (ta σ H fun vs H1 => isR1 vs H1 R) := ⟨id⟩
theorem r_isL (h : H p = some (.lst xs)) (q : R (Itl K p) H) : isL K (.ref p) H R := ⟨p, rfl, ⟨xs, SqL.of h⟩, q⟩
theorem r_isT (h : SqT K H p xs) (q : R (Itt K p) H) : isT K (.ref p) H R := ⟨p, rfl, ⟨xs, h⟩, q⟩
theorem r_isR1 {j : Int} (h : -1000000000 ≤ j ∧ j ≤ 1000000000) (q : R (Itr 0 j.toNat) H) : isR1 [.int j] H R := ⟨j, rfl, by omega, by omega, q⟩
/-- a for over a list that stands at p all along -/
theorem r_forL (xs : List V) (Pv : Nat → St → Hp → Prop) (h0 : Pv 0 σ H) (hG : ∀ i σ' H', Pv i σ' H' → H' p = some (.lst xs))
    (hs : ∀ i x σ' H', xs[i]? = some x → Pv i σ' H' → g x σ' H' fun σ2 H2 => tb ⟨Pv (i + 1), rt, nx, Pv (i + 1)⟩ σ2 H2) (hd : ∀ σ' H', Pv xs.length σ' H' → nx σ' H') : forS (Itl K p) g tb ⟨nx, rt, bk, ct⟩ σ H :=
  for_it (walk_list (K := K) (a := p) (xs := xs)) Pv h0 (fun i σ' H' _ h => SqL.of (hG i σ' H' h)) (fun i x σ' H1 H2 _ h y => by obtain ⟨rfl, y⟩ := y; exact hs i x σ' _ y h) hd
theorem r_forLI (ns : List Int) (Pv : Nat → St → Hp → Prop) (h0 : Pv 0 σ H) (hG : ∀ i σ' H', Pv i σ' H' → H' p = some (.lst (ns.map V.int)))
    (hs : ∀ i (y : Int) σ' H', ns[i]? = some y → Pv i σ' H' → g (.int y) σ' H' fun σ2 H2 => tb ⟨Pv (i + 1), rt, nx, Pv (i + 1)⟩ σ2 H2) (hd : ∀ σ' H', Pv ns.length σ' H' → nx σ' H') : forS (Itl K p) g tb ⟨nx, rt, bk, ct⟩ σ H := by
  refine r_forL (ns.map V.int) Pv h0 hG (fun i x σ' H' e h => ?_) (by rw [List.length_map]; exact hd)
  rw [List.getElem?_map] at e
  cases q : ns[i]? with
  | none =>
    rw [q] at e
    cases e
  | some y =>
    rw [q] at e
    cases e
    exact hs i y σ' H' q h
theorem r_forT (xs : List V) (Pv : Nat → St → Hp → Prop) (h0 : Pv 0 σ H) (hG : ∀ i σ' H', Pv i σ' H' → SqT K H' p xs)
    (hs : ∀ i x σ' H', xs[i]? = some x → Pv i σ' H' → g x σ' H' fun σ2 H2 => tb ⟨Pv (i + 1), rt, nx, Pv (i + 1)⟩ σ2 H2) (hd : ∀ σ' H', Pv xs.length σ' H' → nx σ' H') : forS (Itt K p) g tb ⟨nx, rt, bk, ct⟩ σ H :=
  for_it (walk_tup (K := K) (a := p) (xs := xs)) Pv h0 (fun i σ' H' _ h => hG i σ' H' h) (fun i x σ' H1 H2 _ h y => by obtain ⟨rfl, y⟩ := y; exact hs i x σ' _ y h) hd
theorem r_forR (Pv : Nat → St → Hp → Prop) (h0 : Pv 0 σ H)
    (hs : ∀ i σ' H', i < n → Pv i σ' H' → g (.int (lo + (i : Int))) σ' H' fun σ2 H2 => tb ⟨Pv (i + 1), rt, nx, Pv (i + 1)⟩ σ2 H2) (hd : ∀ σ' H', Pv n σ' H' → nx σ' H') : forS (Itr lo n) g tb ⟨nx, rt, bk, ct⟩ σ H :=
  for_it walk_range Pv h0 (fun _ _ _ _ _ => trivial) (fun i x σ' H1 H2 hi h y => by obtain ⟨rfl, rfl⟩ := y; exact hs i σ' _ hi h) hd
theorem any_take {α : Type} {l : List α} {f : α → Bool} {i : Nat} {x : α} (h : l[i]? = some x) : (l.take (i + 1)).any f = ((l.take i).any f || f x) := by
  rw [List.take_add_one, h, List.any_append]
  simp
end
/-! ### comprehensions -/
def apS (D : Addr) (y : V) (H : Hp) (R : Hp → Prop) : Prop := ∃ acc, H D = some (.lst acc) ∧ acc.length < sizeLine ∧ R (upd H D (.lst (acc ++ [y])))
def wpS (σ2 σ : St) (vs : List Nat) (R : Prop) : Prop := wipe σ2 vs = wipe σ vs ∧ R
def lcS (J : It) (g : TG) (tt : TT) (te : TE) (vs : List Nat) (σ : St) (H1 : Hp) (Q : VK) : Prop := ∀ D, H1 D = none → ∃ W : Nat → Nat → Hp → Prop, (∃ m, W 0 m (upd H1 D (.lst []))) ∧ ∀ i m H, W i m H →
  (J.stop i H ∧ Q (.ref D) H) ∨ (J.go i H ∧ ∃ Nx : Hp → Prop, (∀ H', Nx H' → ∃ m', m' < m ∧ W (i + 1) m' H') ∧ ∀ x H', J.yld i H x H' → g x (wipe σ vs) H' fun σ2 H2 => wipe σ2 vs = wipe σ vs ∧ tt σ2 H2 fun b H3 =>
    if b = true then te σ2 H3 fun y H4 => ∃ acc, H4 D = some (.lst acc) ∧ acc.length < sizeLine ∧ Nx (upd H4 D (.lst (acc ++ [y]))) else Nx H3)
class SetN (σ : St) (n : Nat) (σ' : outParam St) : Prop where
  e : σ.set n none = σ'
instance setn0 {x : Option V} {σ : St} : SetN (x :: σ) 0 (none :: σ) := ⟨rfl⟩
instance setnS {x : Option V} {σ σ' : St} {n : Nat} [a : SetN σ n σ'] : SetN (x :: σ) (n + 1) (x :: σ') := ⟨by rw [List.set_cons_succ, a.e]⟩
class Wip (σ : St) (vs : List Nat) (σ' : outParam St) : Prop where
  e : wipe σ vs = σ'
instance wip0 {σ : St} : Wip σ [] σ := ⟨rfl⟩
instance wipS {σ σ1 σ2 : St} {v : Nat} {vs : List Nat} [a : Wip σ vs σ1] [b : SetN σ1 v σ2] : Wip σ (v :: vs) σ2 := ⟨by unfold wipe; rw [a.e, b.e]⟩
instance wipM0 {σ : St} : Wip σ (List.map (fun x : Str × Nat => x.2) []) σ := ⟨rfl⟩
instance wipMS {σ σ1 σ2 : St} {x : Str} {v : Nat} {own : List (Str × Nat)} [a : Wip σ (List.map (fun x : Str × Nat => x.2) own) σ1] [b : SetN σ1 v σ2] : Wip σ (List.map (fun x : Str × Nat => x.2) ((x, v) :: own)) σ2 := ⟨by rw [List.map_cons]; unfold wipe; rw [a.e, b.e]⟩
section
variable {σ σ0 : St} {H : Hp} {K : PySem.W.Frag} {p : Addr} {xs : List V} {g : TG} {wi : TI} {tt : TT} {te : TE} {vs : List Nat} {Q : VK} {J : It} {n : Nat} {lo : Int}
instance s_lc : Stp (tLc wi g tt te vs σ H Q) (wi σ H fun J H1 => lcS J g tt te vs σ H1 Q) := ⟨id⟩
instance s_yes {R : Bool → Hp → Prop} : Stp (tYes σ H R) (R true H) := ⟨id⟩
instance s_wp {R : Prop} {σ2 : St} [a : Wip σ2 vs σ0] [b : Wip σ vs σ0] : Stp (wpS σ2 σ vs R) R := ⟨fun h => ⟨by rw [a.e, b.e], h⟩⟩
theorem r_ap {D : Addr} {y : V} {R : Hp → Prop} {acc : List V} (h : H D = some (.lst acc)) (hl : acc.length < sizeLine) (q : ∀ H2, H2 D = some (.lst (acc ++ [y])) → Kp [D] H H2 → R H2) : apS D y H R :=
  ⟨acc, h, hl, q _ upd_same (Kp.put h trivial)⟩
theorem lc_by {G : Hp → Prop} {Y : Nat → Hp → V → Hp → Prop} (w : Walk J n G Y) [hw : Wip σ vs σ0] (Pv : Addr → Nat → Hp → Prop) (h0 : ∀ D H2, H D = none → H2 D = some (.lst []) → Kp [] H H2 → Pv D 0 H2) (hG : ∀ D i H', Pv D i H' → G H')
    (hs : ∀ D i x H' H'', i < n → Pv D i H' → Y i H' x H'' → g x σ0 H'' fun σ2 H2 => wpS σ2 σ vs (tt σ2 H2 fun b H3 => iteP b (te σ2 H3 fun y H4 => apS D y H4 (Pv D (i + 1))) (Pv D (i + 1) H3)))
    (hd : ∀ D H', Pv D n H' → Q (.ref D) H') : lcS J g tt te vs σ H Q := by
  intro D hD
  refine lc_it w (Pv D) (h0 D _ hD upd_same (Kp.new hD)) (fun i H' _ h => hG D i H' h) ?_ (hd D)
  intro i x H' H'' hi h y
  rw [hw.e]
  have q := hs D i x H' H'' hi h y
  unfold wpS at q
  rw [hw.e] at q
  exact q
theorem r_lcT (xs : List V) [hw : Wip σ vs σ0] (Pv : Addr → Nat → Hp → Prop) (h0 : ∀ D H2, H D = none → H2 D = some (.lst []) → Kp [] H H2 → Pv D 0 H2) (hG : ∀ D i H', Pv D i H' → SqT K H' p xs)
    (hs : ∀ D i x H', xs[i]? = some x → Pv D i H' → g x σ0 H' fun σ2 H2 => wpS σ2 σ vs (tt σ2 H2 fun b H3 => iteP b (te σ2 H3 fun y H4 => apS D y H4 (Pv D (i + 1))) (Pv D (i + 1) H3)))
    (hd : ∀ D H', Pv D xs.length H' → Q (.ref D) H') : lcS (Itt K p) g tt te vs σ H Q :=
  lc_by (walk_tup (K := K) (a := p) (xs := xs)) Pv h0 hG (fun D i x H1 H2 _ h y => by obtain ⟨rfl, y⟩ := y; exact hs D i x _ y h) hd
theorem r_lcL (xs : List V) [hw : Wip σ vs σ0] (Pv : Addr → Nat → Hp → Prop) (h0 : ∀ D H2, H D = none → H2 D = some (.lst []) → Kp [] H H2 → Pv D 0 H2) (hG : ∀ D i H', Pv D i H' → H' p = some (.lst xs))
    (hs : ∀ D i x H', xs[i]? = some x → Pv D i H' → g x σ0 H' fun σ2 H2 => wpS σ2 σ vs (tt σ2 H2 fun b H3 => iteP b (te σ2 H3 fun y H4 => apS D y H4 (Pv D (i + 1))) (Pv D (i + 1) H3)))
    (hd : ∀ D H', Pv D xs.length H' → Q (.ref D) H') : lcS (Itl K p) g tt te vs σ H Q :=
  lc_by (walk_list (K := K) (a := p) (xs := xs)) Pv h0 (fun D i H' h => SqL.of (hG D i H' h)) (fun D i x H1 H2 _ h y => by obtain ⟨rfl, y⟩ := y; exact hs D i x _ y h) hd
theorem r_lcR [hw : Wip σ vs σ0] (Pv : Addr → Nat → Hp → Prop) (h0 : ∀ D H2, H D = none → H2 D = some (.lst []) → Kp [] H H2 → Pv D 0 H2)
    (hs : ∀ D i H', i < n → Pv D i H' → g (.int (lo + (i : Int))) σ0 H' fun σ2 H2 => wpS σ2 σ vs (tt σ2 H2 fun b H3 => iteP b (te σ2 H3 fun y H4 => apS D y H4 (Pv D (i + 1))) (Pv D (i + 1) H3)))
    (hd : ∀ D H', Pv D n H' → Q (.ref D) H') : lcS (Itr lo n) g tt te vs σ H Q :=
  lc_by walk_range Pv h0 (fun _ _ _ _ => trivial) (fun D i x H1 H2 hi h y => by obtain ⟨rfl, rfl⟩ := y; exact hs D i _ hi h) hd
end
/-! ### rules with the written part by its name (within comprehensions) -/
section
variable {X : Cx} (K : PySem.W.Frag)
theorem ixT (h : X.K = K := by rfl) : IxR X (rIxT K) := h ▸ ix_tup
theorem ixL (h : X.K = K := by rfl) : IxR X (rIxL K) := h ▸ ix_list
theorem inS (h : X.K = K := by rfl) : OpR X (compareOp .In) (rIn K false) := h ▸ op_in_seq
theorem notInS (h : X.K = K := by rfl) : OpR X (compareOp .NotIn) (rIn K true) := h ▸ op_notIn_seq
theorem cgLen (h : X.K = K := by rfl) : CallR X (.builtin "len") (rLen K) := h ▸ cg_len
theorem cgList (h : X.K = K := by rfl) : CallR X (.type "list") (rListOf K) := h ▸ cg_list
theorem cgTuple (h : X.K = K := by rfl) : CallR X (.type "tuple") (rTupOf K) := h ▸ cg_tuple
theorem cgIsi (h : X.K = K := by rfl) : CallR X (.builtin "isinstance") (rIsi K) := h ▸ call_isi
theorem eqD {k : Nat} {A : Around} (r : Room k A) (h : X.K = K := by rfl) (ha : X.A = A := by rfl) : OpR X (compareOp .Eq) (rEqD K) := h ▸ op_eqD (by rw [ha]; exact r.units)
theorem neD {k : Nat} {A : Around} (r : Room k A) (h : X.K = K := by rfl) (ha : X.A = A := by rfl) : OpR X (compareOp .NotEq) (rNeD K) := h ▸ op_neD (by rw [ha]; exact r.units)
theorem slT (h : X.K = K := by rfl) : SlR X (rSlT K) := h ▸ sl_tup
end
/-! ### is None; any, all -/
def rIsNo : R2 := fun x y H Q => y = .non ∧ Q (.bl (decide (x = .non))) H
def rNotNo : R2 := fun x y H Q => y = .non ∧ Q (.bl (!decide (x = .non))) H
theorem cg_isN {X : Cx} : OpR X (compareOp .Is) rIsNo := op_isN
theorem cg_notN {X : Cx} : OpR X (compareOp .IsNot) rNotNo := op_notN
section
variable {H : Hp} {Q : VK} {p : Addr} {K : PySem.W.Frag} {bs : List Bool}
instance s_isN0 : Stp (rIsNo .non .non H Q) (Q (.bl true) H) := ⟨fun h => ⟨rfl, h⟩⟩
instance s_isN1 : Stp (rIsNo (.ref p) .non H Q) (Q (.bl false) H) := ⟨fun h => ⟨rfl, by rw [decide_eq_false (fun e => by cases e)]; exact h⟩⟩
instance s_notN0 : Stp (rNotNo .non .non H Q) (Q (.bl false) H) := ⟨fun h => ⟨rfl, h⟩⟩
instance s_notN1 : Stp (rNotNo (.ref p) .non H Q) (Q (.bl true) H) := ⟨fun h => ⟨rfl, by rw [decide_eq_false (fun e => by cases e)]; exact h⟩⟩
theorem r_any (h : H p = some (.lst (bs.map V.bl))) (q : Q (.bl (bs.any id)) H) : rAny K [.ref p] H Q := ⟨p, bs, rfl, SqL.of h, q⟩
theorem r_all (h : H p = some (.lst (bs.map V.bl))) (q : Q (.bl (bs.all id)) H) : rAll K [.ref p] H Q := ⟨p, bs, rfl, SqL.of h, q⟩
end
/-! ### list methods -/
instance s_bm {K : PySem.W.Frag} {T : String} {r : V → List V → Hp → VK → Prop} {to : TE} {t : TA} {σ : St} {H : Hp} {Q : VK} : Stp (tBM K T r to t σ H Q) (to σ H fun x H1 => tyV K T x H1 ∧ t σ H1 fun xs H2 => r x xs H2 Q) := ⟨id⟩
theorem r_tyL {K : PySem.W.Frag} {H : Hp} {l : Addr} {xs : List V} {R : Prop} (h : H l = some (.lst xs)) (q : R) : tyV K "list" (.ref l) H ∧ R := ⟨.inl ⟨rfl, xs, SqL.of h⟩, q⟩
theorem r_app {H : Hp} {l : Addr} {xs : List V} {y : V} {Q : VK} (h : H l = some (.lst xs)) (hl : xs.length < sizeLine) (q : ∀ H2, H2 l = some (.lst (xs ++ [y])) → Kp [l] H H2 → Q .non H2) : rAppend (.ref l) [y] H Q :=
  ⟨l, xs, y, rfl, rfl, h, hl, q _ upd_same (Kp.put h trivial)⟩
section
variable {H : Hp} {Q : VK} {l p : Addr} {K : PySem.W.Frag} {xs : List V} {y : V} {i : Int}
def rIns : V → List V → Hp → VK → Prop := fun x vs H Q => ∃ (l : Addr) (xs : List V) (i : Int) (y : V), x = .ref l ∧ vs = [.int i, y] ∧ H l = some (.lst xs) ∧ xs.length < sizeLine ∧ 0 ≤ i ∧ i < 2 ^ 63 ∧ Q .non (upd H l (.lst (xs.take i.toNat ++ [y] ++ xs.drop i.toNat)))
theorem cg_insert {X : Cx} : MtR X "list.insert" rIns := mt_insert
theorem r_ins (h : H l = some (.lst xs)) (hl : xs.length < sizeLine) (h0 : 0 ≤ i) (h1 : i ≤ 1000000) (q : ∀ H2, H2 l = some (.lst (xs.take i.toNat ++ [y] ++ xs.drop i.toNat)) → Kp [l] H H2 → Q .non H2) : rIns (.ref l) [.int i, y] H Q :=
  ⟨l, xs, i, y, rfl, rfl, h, hl, h0, by omega, q _ upd_same (Kp.put h trivial)⟩
theorem r_pop (h : H l = some (.lst xs)) (h0 : 0 ≤ i) (h1 : i < xs.length) (h2 : i ≤ 1000000) (q : ∀ y H2, xs[i.toNat]? = some y → H2 l = some (.lst (xs.eraseIdx i.toNat)) → Kp [l] H H2 → Q y H2) : rPopAt (.ref l) [.int i] H Q := by
  have e : i.toNat < xs.length := by omega
  refine ⟨l, xs, i, i.toNat, xs[i.toNat], rfl, rfl, h, by omega, by omega, ?_, List.getElem?_eq_getElem e, q _ _ (List.getElem?_eq_getElem e) upd_same (Kp.put h trivial)⟩
  unfold seqIndex?
  rw [if_neg (by omega : ¬ i < 0)]
  simp
  omega
theorem r_listT (h : SqT K H p xs) (q : ∀ l H2, H l = none → H2 l = some (.lst xs) → Kp [] H H2 → Q (.ref l) H2) : rListOf K [.ref p] H Q := ⟨p, xs, rfl, .inr h, fun l hl => q l _ hl upd_same (Kp.new hl)⟩
instance s_sl {r : V → Option Int → Option Int → Hp → VK → Prop} {te : TE} {tl th : TO} {σ : St} : Stp (tSl r te tl th σ H Q) (te σ H fun x H1 => tl σ H1 fun l H2 => th σ H2 fun u H3 => r x l u H3 Q) := ⟨id⟩
instance s_noPart {σ : St} {R : Option Int → Hp → Prop} : Stp (tNoPart σ H R) (R Option.none H) := ⟨id⟩
def asI (x : V) (R : Int → Prop) : Prop := ∃ i, x = .int i ∧ R i
instance s_asI {R : Int → Prop} : Stp (asI (.int i) R) (R i) := ⟨fun h => ⟨i, rfl, h⟩⟩
instance s_part {te : TE} {σ : St} {R : Option Int → Hp → Prop} : Stp (tPart te σ H R) (te σ H fun x H1 => asI x fun i => R (some i) H1) := ⟨id⟩
theorem r_slL {lo hi : Option Int} (h : H p = some (.lst xs)) (q : ∀ l H2, H l = none → H2 l = some (.lst (cutV xs lo hi)) → Kp [] H H2 → Q (.ref l) H2) : rSlL K (.ref p) lo hi H Q := ⟨p, xs, rfl, SqL.of h, fun l hl => q l _ hl upd_same (Kp.new hl)⟩
theorem slL {X : Cx} (K : PySem.W.Frag) (h : X.K = K := by rfl) : SlR X (rSlL K) := h ▸ sl_list
theorem cut_from {i : Int} (h : 0 ≤ i) : cutV xs (some i) none = xs.drop i.toNat := by
  obtain ⟨k, rfl⟩ : ∃ k : Nat, i = k := ⟨i.toNat, by omega⟩
  unfold cutV
  rw [HT.sIx_nat, HT.sIx_none, Int.toNat_natCast]
  by_cases hk : k ≤ xs.length
  · rw [Nat.min_eq_left hk, List.take_of_length_le (by rw [List.length_drop]; omega)]
  · rw [Nat.min_eq_right (by omega), List.drop_eq_nil_of_le (Nat.le_refl _), List.drop_eq_nil_of_le (by omega), List.take_nil]
/-- a list of bools in which True, False stands -/
theorem flat_bls (bs : List Bool) : (bs.map V.bl).all flatV = true := by
  induction bs with
  | nil => rfl
  | cons b bs ih => simpa [flatV] using ih
theorem inV_true (bs : List Bool) : inV (.bl true) (bs.map V.bl) = bs.any id := by
  unfold inV
  rw [List.any_map]
  congr 1
  funext b
  cases b <;> rfl
theorem inV_false (bs : List Bool) : (!inV (.bl false) (bs.map V.bl)) = bs.all id := by
  unfold inV
  induction bs with
  | nil => rfl
  | cons b bs ih =>
    simp only [List.map_cons, List.any_cons, List.all_cons, Bool.not_or, ih]
    cases b <;> rfl
end
/-! ### the walk's own steps (rows of tactics) -/
local macro_rules | `(tactic| walk_at "cg yes") => `(tactic| (first
  | assumption | decide | omega | (simp; done)
  | fail))
local macro_rules | `(tactic| walk_at "cg ne") => `(tactic| (first
  | assumption | (apply Ne.symm; assumption) | exact ne_newL (by assumption) (by walk_at "cg h") | exact ne_newR (by assumption) (by walk_at "cg h")
  | fail))
/-- what stands at an address, a tuple, from the last heap backwards -/
local macro_rules | `(tactic| walk_at "cg h") => `(tactic| (first
  | assumption
  | ((with_reducible show _ = some _); first
      | exact Kp.get0 (by assumption) (by walk_at "cg h") | exact Kp.get1 (by assumption) (by walk_at "cg ne") (by walk_at "cg h"))
  | ((with_reducible show SqT _ _ _ _); exact Kp.tup (by assumption) (by walk_at "cg h"))
  | ((with_reducible show Im _ _ _ _); exact Kp.im (by assumption) (by walk_at "cg h"))
  | ((with_reducible show ImAll _ _ _ _); exact Kp.imAll (by assumption) (by walk_at "cg h"))
  | fail))
/-- an address that was free -/
local macro_rules | `(tactic| walk_at "cg fr") => `(tactic| (first
  | assumption
  | exact Kp.free0 (by assumption) (by assumption)
  | exact Kp.free0 (by walk_at "cg kp") (by assumption)
  | fail))
/-- the frame from the entry on -/
local macro_rules | `(tactic| walk_at "cg kp") => `(tactic| (first
  | assumption
  | exact Kp.refl
  | exact Kp.tr0 (by assumption) (by walk_at "cg kp")
  | exact Kp.tr1 (by assumption) (by walk_at "cg kp")
  | exact Kp.trN (by assumption) (by walk_at "cg kp") (by walk_at "cg fr")
  | fail))
local macro_rules | `(tactic| walk_at "cg ty") => `(tactic| (first
  | exact .base (.int _) | exact .base (.bl _) | exact .base (.str _) | exact .base .non | exact SqT.ty (by walk_at "cg h") | exact .base (.lst (by walk_at "cg h"))
  | fail))
local macro_rules | `(tactic| walk_at "cg C") => `(tactic| (first
  | assumption | exact (show CMul _ _ from .inl ⟨by omega, by omega⟩) | exact (show CMul _ _ from .inr ⟨by omega, by omega⟩) | omega | decide
  | exact ⟨by decide, by decide, by decide⟩ | exact ⟨by omega, by omega⟩
  | fail))
local macro_rules | `(tactic| walk_at "cg s") => `(tactic| (first
  | (refine go1 inferInstance inferInstance ?_)
  | ((with_reducible refine r_rI ?_ ?_); (focus (walk_at "cg C")))
  | ((with_reducible apply r_ixL); (focus (walk_at "cg h")); exact rfl)
  | ((with_reducible apply r_ixT); (focus (walk_at "cg h")); exact rfl)
  | ((with_reducible apply r_lenL); (focus (walk_at "cg h")))
  | ((with_reducible apply r_lenT); (focus (walk_at "cg h")))
  | ((with_reducible apply r_gTup); (focus (walk_at "cg h")); exact rfl)
  | ((with_reducible refine r_mkT (K := ‹PySem.W.Frag›) ?_ ?_); (focus (exact Nat.le_of_ble_eq_true rfl)); intro _ _ _ _ _)
  | ((with_reducible refine r_mkL ?_ ?_); (focus (exact Nat.le_of_ble_eq_true rfl)); intro _ _ _ _ _)
  | ((with_reducible apply r_tupleL); (focus (walk_at "cg h")); intro _ _ _ _ _)
  | ((with_reducible apply r_listT); (focus (walk_at "cg h")); intro _ _ _ _ _)
  | ((with_reducible apply r_slL); (focus (walk_at "cg h")); intro _ _ _ _ _)
  | ((with_reducible apply r_listL); (focus (walk_at "cg h")); intro _ _ _ _ _)
  | ((with_reducible apply r_setL); (focus (walk_at "cg h")); exact rfl)
  | ((with_reducible apply r_isi); (focus (exact .ty _)); (focus (walk_at "cg ty")); (focus (first | exact kit_ty (r := true) (by decide +kernel) | exact kit_ty (r := false) (by decide +kernel))))
  | ((with_reducible apply r_inL); (focus (walk_at "cg h")); exact rfl; exact rfl; (focus (first | exact (by decide +kernel : _ = true) | exact (by decide +kernel : _ = false))))
  | ((with_reducible apply r_inT); (focus (walk_at "cg h")); exact rfl; exact rfl; (focus (first | exact (by decide +kernel : _ = true) | exact (by decide +kernel : _ = false))))
  | ((with_reducible apply r_tyL); (focus (walk_at "cg h")))
  | ((with_reducible refine r_app (xs := ?xs) ?h ?hl ?_); (case h => walk_at "cg h"); (case hl => first | exact Nat.lt_of_sub_pos (by decide) | (apply small1000; omega) | (apply small1000; simp; done) | (apply small1000; simp; omega)); intro _ _ _)
  | ((with_reducible apply r_isL); (focus (walk_at "cg h")))
  | ((with_reducible apply r_isT); (focus (walk_at "cg h")))
  | ((with_reducible apply r_isR1); (focus (first | omega | (constructor <;> decide))))
  | ((with_reducible refine if_T ?_ ?_); (focus (walk_at "cg yes"))) | ((with_reducible refine if_F ?_ ?_); (focus (walk_at "cg yes")))
  | ((with_reducible refine if_NT ?_ ?_); (focus (walk_at "cg yes"))) | ((with_reducible refine if_NF ?_ ?_); (focus (walk_at "cg yes")))
  | fail))
local macro_rules | `(tactic| walk_at "cg") => `(tactic| repeat (walk_at "cg s"))

/-! ### set(xs) of a list of ints, and sorted of it -/
section
open PySem.Spec PyProof.Rows
variable {P : Program} {w : World} {A : Around} {E : Value → Shared → Prop} {s : Shared}
/-- a new empty set; the iterator of the list at l -/
def oSet (w : World) : Obj := ⟨.type "set", none, .set #[] 0 (.fresh 0 0 (!w.params.followText "set-order")), #[]⟩
def oIt (l : Addr) : Obj := ⟨.type "list_iterator", none, .fields #[.ref l, .int 0 0], #[]⟩
/-- what the making of the set leaves: the set at n, every elder object -/
def SetDone (w : World) (h0 : Heap) (ns : List Int) (h : Heap) : Prop := ∃ c, SetR w h h0.objs.size (fun j => decide (j ∈ ns)) c ∧ c ≤ ns.length ∧ ∀ b o, h0.get? b = some o → h.get? b = some o
set_option maxHeartbeats 8000000 in
theorem set_made {l : Addr} {vs : Array Value} {ns : List Int} {Q : Value → Shared → Prop} (hc : A.handled = none) (hl : s.heap.IsList l vs) (hv : IntsAre vs.toList ns) (few : ns.length ≤ 4000)
    (q : ∀ h tk, SetDone w s.heap ns h → Q (.ref s.heap.objs.size) { s with heap := h, toks := tk }) : wpAny (model P w) A (call (.type "set") [.ref l]) Q E s := by
  have room : ns.length + 1 < scanBound := by unfold scanBound; omega
  have size : vs.size = ns.length := by simpa using IntsAre.length hv
  have atS : (s.heap.push (oSet w)).get? s.heap.objs.size = some (oSet w) := Heap.get?_push_size _ rfl
  have tyS : Shared.TypeIs { s with heap := s.heap.push (oSet w) } (.ref s.heap.objs.size) "set" := ⟨_, atS, rfl⟩
  have e1 := F.called_set.made
  have e2 := F.called_set.sub
  have e3 := F.called_set.notType
  have e4 := F.called_set.canCreate
  have e5 := F.typeCall_set_1 (.ref l)
  have e6 := F.called_set.init.lookup
  have e7 := F.called_set.init.bind (.ref s.heap.objs.size)
  obtain ⟨cc, tl, e0⟩ := F.called_set.mro
  apply wpAny_call
  apply codeAny_of_tree
  show wpAny _ _ (callAny (.type "set") _) _ _ _
  apply wpAny_pure
  refine ⟨Code.quiet_builtin _ (by decide +kernel), ?_⟩
  apply codeAny_builtin F.entry_type_call
  rw [Around.under_plain (weight_type_call_type "set" [.ref l] []) rfl]
  repeat any_goals first | wp_step | assumption
  refine codeAny_mono (code_set_led1 (E := E) (.ref l) (Q₁ := fun v z => v = .ref s.heap.objs.size ∧ z = { s with heap := s.heap.push (oSet w) }) ⟨rfl, rfl⟩) ?_
  rintro (e | f) z hz
  · exact hz
  · cases f
    case ret v =>
      obtain ⟨rfl, rfl⟩ := hz
      repeat any_goals first | wp_step | assumption
      refine codeAny_mono (codeAny_call_builtin F.called_set.init.plain F.entry_set_init (check_set_init_1 tyS ?go)
        (R := wants (fun r z => r = .none ∧ ∃ h tk, z = { s with heap := h, toks := tk } ∧ SetDone w s.heap ns h) E)) ?_
      case go =>
        obtain ⟨⟨c0, d0, t0, s0⟩, at0, cl0, n0, da0⟩ := hl
        dsimp only at cl0 da0
        subst cl0 da0
        have atL : (s.heap.push (oSet w)).get? l = some ⟨.type "list", d0, .seq vs n0, s0⟩ := Heap.get?_push_of_some _ at0
        have isL : (s.heap.push (oSet w)).IsList l vs := ⟨_, atL, rfl, n0, rfl⟩
        have f1 := F.sub_list_set
        have f2 := F.sub_list_frozenset
        have f3 : (Value.type "list" == Value.type "dict") = false := by decide
        unfold Builtin.«set.__init__» noKeywords Builtin.Frozenset.updateFrom
        generalize hw : pyIter = it0
        wp_walk
        subst hw
        apply wpAny_pyIter_list isL
        apply wpAny_bind
        apply wpAny_runValue
        have small : l < s.heap.objs.size := Heap.lt_size at0
        have big : (s.heap.push (oSet w)).objs.size = s.heap.objs.size + 1 := Heap.size_push ..
        have calm : A.in1.in1.in1.handled = none := by simpa using hc
        have n1 : l ≠ (s.heap.push (oSet w)).objs.size := by
          rw [big]
          exact Nat.ne_of_lt (Nat.lt_succ_of_lt small)
        have n2 : s.heap.objs.size ≠ (s.heap.push (oSet w)).objs.size := by
          rw [big]
          exact Nat.ne_of_lt (Nat.lt_succ_self _)
        refine set_update_ints (Walks.list calm _ l n1 vs).toS s.heap.objs.size (fun hm => ?f1) ns size room (fun i v ev => ?f2) (vs.size - 0) 0 _ rfl (Nat.zero_le _)
          ⟨⟨_, Heap.get?_push_size _ rfl, rfl, rfl⟩, isL.push _⟩ ⟨0, Nat.le_refl 0, setR_new_at (Heap.get?_push_of_some _ atS)⟩ ?f3
        case f1 =>
          rcases List.mem_cons.mp hm with e | hm
          · exact n2 e
          · exact Nat.ne_of_gt small (List.mem_singleton.mp hm)
        case f2 =>
          have hi : i < ns.length := size ▸ (Array.getElem?_eq_some_iff.mp ev).1
          obtain ⟨t, e⟩ := IntsAre.int_at hv i v (by simpa using ev)
          exact ⟨ns[i], t, by simp [hi], by simp [e, hi]⟩
        case f3 =>
          rintro ⟨h, g, d, tk, os⟩ c moved hcn hS
          obtain rfl : g = s.gens := moved.gens
          obtain rfl : d = s.drawn := moved.drawn
          obtain rfl : os = s.os := moved.os
          apply wpAny_pure
          show wpAny _ _ (ret Value.none) _ _ _
          apply wpAny_pure
          refine ⟨rfl, h, tk, rfl, c, hS, by omega, fun b o e => ?_⟩
          have lt := Heap.lt_size e
          refine moved.heap b o (fun hm => ?_) (Heap.get?_push_of_some _ (Heap.get?_push_of_some _ e))
          rcases List.mem_cons.mp hm with e | hm
          · exact Nat.ne_of_lt lt e
          · have e : b = (s.heap.push (oSet w)).objs.size := List.mem_singleton.mp hm
            rw [big] at e
            exact Nat.ne_of_lt (Nat.lt_succ_of_lt lt) e
      rintro (e | f) z hz
      · exact hz
      · cases f
        case ret v =>
          obtain ⟨rfl, h, tk, rfl, done⟩ := hz
          repeat any_goals first | wp_step | assumption
          exact q h tk done
        all_goals exact hz.elim
    all_goals exact hz.elim
end
/-- set(xs), xs a list of ints -/
def rSetL (K : PySem.W.Frag) (w : World) : List V → Hp → VK → Prop := fun vs H Q => ∃ (l : Addr) (ns : List Int), vs = [.ref l] ∧ SqL K H l (ns.map V.int) ∧ ns.length ≤ 4000 ∧
  ∀ p c, H p = none → c ≤ ns.length → (∀ us : List Int, (∀ j ∈ ns, j ∈ us) → c ≤ us.length) → Q (.ref p) (upd H p (SetO w p (fun j => decide (j ∈ ns)) c))
theorem nodup_le0 : ∀ {ns us : List Int}, ns.Nodup → (∀ k ∈ ns, k ∈ us) → ns.length ≤ us.length
  | [], _, _, _ => Nat.zero_le _
  | n :: ns, us, h, s => by
    rw [List.nodup_cons] at h
    have m := s n List.mem_cons_self
    have q := nodup_le0 (ns := ns) (us := us.erase n) h.2 fun k hk => (List.mem_erase_of_ne fun e => h.1 (by rw [← e]; exact hk)).mpr (s k (List.mem_cons_of_mem _ hk))
    rw [List.length_erase_of_mem m] at q
    have := List.length_pos_of_mem m
    rw [List.length_cons]
    omega
theorem setR_card {w : World} {h : Heap} {a : Addr} {S : Int → Bool} {c : Nat} (R : SetR w h a S c) {us : List Int} (hs : ∀ k, S k = true → k ∈ us) : c ≤ us.length := by
  obtain ⟨o, es, ep, t, _, _, _, _, nd, iff, _, _, hsz, _⟩ := R
  have q := nodup_le0 nd fun k hk => hs k ((iff k).mpr hk)
  rw [List.length_map] at q
  have : es.toList.length = es.size := by simp
  omega
theorem cg_setL {X : Cx} (hc : X.calm = true) : CallR X (.type "set") (rSetL X.K X.w) := by
  rintro pins s σ H vs us Q I r ⟨l, ns, rfl, hS, hn, q⟩
  obtain ⟨its, rv, pl, hz⟩ := I.list hS
  have e1 := Vals.ref1 r
  subst e1
  have hv : PyProof.Rows.IntsAre its.toArray.toList ns := by simpa using rv.ints
  refine set_made (I.ok.hd hc) pl.isList hv hn ?_
  rintro h tk ⟨c, hR, hcn, keep⟩
  have free : H s.heap.objs.size = none := I.hok.fresh (Nat.le_refl _)
  exact ⟨.ref _, _, I.laid (t' := tk) keep (Nat.le_refl _) (setO_new hR), rfl, q _ c free hcn fun us hu => setR_card hR fun k hk => hu k (of_decide_eq_true hk)⟩

/-! ### sets of tuples of flat things (ints, texts, bools, None) -/
section
open PySem.Spec PyProof.Rows
variable {P : Program} {w : World} {κ : Type} [DecidableEq κ] {kn : KeyKind P w κ} {A : Around} {E : Value → Shared → Prop} {s : Shared}
theorem tv_cls (n : Nat) {v : Value} (h : carriedByValue v = true) : ofAClassStatement n v = pure false := by
  cases v with
  | ref a => simp [carriedByValue] at h
  | _ => cases n <;> rfl
theorem tv_hash (n : Nat) {v : Value} (h : carriedByValue v = true) : ∃ b, hashByValue n v = pure b := by
  cases v with
  | ref a => simp [carriedByValue] at h
  | _ => cases n <;> exact ⟨_, rfl⟩
/-- a tuple of flat things is of no class statement -/
theorem tt_cls {k : List κ} {b : Addr} {Q : Bool → Shared → Prop} (T : IsTupleKey kn s.heap k b) (q : Q false s) : wpAny (model P w) A (ofAClassStatement 8 (.ref b)) Q E s := by
  have ty := T.typeIs
  obtain ⟨o, its, n, at0, _, da, ia⟩ := T
  unfold ofAClassStatement
  refine wpAny_bind (wpAny_typeOf ty ?_)
  dsimp only
  have e0 : (("tuple" : String) == "tuple") = true := by decide
  simp only [e0, if_true, Bool.not_true, Bool.false_eq_true, if_false]
  try refine wpAny_bind (wpAny_pure ?_)
  try simp only [Bool.not_true, Bool.false_eq_true, if_false]
  show wpAny _ _ (seqItems? (.ref b) >>= _) _ _ s
  refine wpAny_bind (wpAny_seqItems at0 da ?_)
  dsimp only
  refine wpAny_bind ?_
  show wpAny _ _ (forIn its _ _) _ _ s
  rw [← Array.forIn_toList]
  refine wpAny_forIn_list _ (fun left st z => st.1 = none ∧ z = s ∧ ∀ v ∈ left, carriedByValue v = true) _ ?_ ?_ _ _ ⟨rfl, rfl, ia.byValue⟩
  · rintro v left st z ⟨e1, rfl, all⟩
    rw [tv_cls _ (all v List.mem_cons_self)]
    refine wpAny_bind (wpAny_pure ?_)
    simp only [Bool.false_eq_true, if_false]
    exact wpAny_pure ⟨rfl, rfl, fun u hu => all u (List.mem_cons_of_mem _ hu)⟩
  · rintro ⟨x, y⟩ z ⟨e1, rfl, _⟩
    simp only at e1
    subst e1
    exact wpAny_pure q
/-- whether its hash is by value: one of both -/
theorem tt_hash {k : List κ} {b : Addr} {Q : Bool → Shared → Prop} (T : IsTupleKey kn s.heap k b) (q : ∀ r, Q r s) : wpAny (model P w) A (hashByValue 8 (.ref b)) Q E s := by
  have ty := T.typeIs
  obtain ⟨o, its, n, at0, _, da, ia⟩ := T
  unfold hashByValue
  refine wpAny_bind (wpAny_specialOf ty F.slot_tuple_hash.lookup ?_)
  show wpAny _ _ (seqItems? (.ref b) >>= _) _ _ s
  refine wpAny_bind (wpAny_seqItems at0 da ?_)
  refine wpAny_bind ?_
  show wpAny _ _ (forIn its _ _) _ _ s
  rw [← Array.forIn_toList]
  refine wpAny_forIn_list _ (fun left st z => st.1 = none ∧ z = s ∧ ∀ v ∈ left, carriedByValue v = true) _ ?_ ?_ _ _ ⟨rfl, rfl, ia.byValue⟩
  · rintro v left st z ⟨e1, rfl, all⟩
    obtain ⟨r, e2⟩ := tv_hash 7 (all v List.mem_cons_self)
    rw [e2]
    refine wpAny_bind (wpAny_pure ?_)
    cases r
    · simp only [Bool.not_false, if_true]
      exact wpAny_pure (wpAny_pure (q false))
    · simp only [Bool.not_true, Bool.false_eq_true, if_false]
      exact wpAny_pure ⟨rfl, rfl, fun u hu => all u (List.mem_cons_of_mem _ hu)⟩
  · rintro ⟨x, y⟩ z ⟨e1, rfl, _⟩
    simp only at e1
    subst e1
    exact wpAny_pure (q true)
/-- a search among such tuples shows nothing -/
theorem tt_seen {k : List κ} {b : Addr} {Q : Bool → Shared → Prop} (T : IsTupleKey kn s.heap k b) {ys : List Value} (hy : ∀ y ∈ ys, ∃ k' c, y = Value.ref c ∧ IsTupleKey kn s.heap k' c) (q : Q false s) :
    wpAny (model P w) A (searchCouldBeSeen (.ref b) ys) Q E s := by
  unfold searchCouldBeSeen
  refine wpAny_bind ?_
  refine wpAny_forIn_list _ (fun left st z => st.1 = none ∧ z = s ∧ ∀ y ∈ left, ∃ k' c, y = Value.ref c ∧ IsTupleKey kn s.heap k' c) _ ?_ ?_ _ _ ⟨rfl, rfl, hy⟩
  · rintro v left st z ⟨e1, rfl, all⟩
    obtain ⟨k', c, rfl, T'⟩ := all v List.mem_cons_self
    have more : ∀ y ∈ left, ∃ k' c, y = Value.ref c ∧ IsTupleKey kn z.heap k' c := fun u hu => all u (List.mem_cons_of_mem _ hu)
    dsimp only
    by_cases hv : (b == c || (carriedByValue (.ref b) && carriedByValue (.ref c))) = true
    · refine wp_if_pos hv ?_
      exact wpAny_pure ⟨rfl, rfl, more⟩
    · refine wp_if_neg hv ?_
      refine wpAny_bind (wpAny_eqIsQuiet_tuple T ?_)
      simp only [Bool.not_true, Bool.false_eq_true, if_false]
      refine wpAny_bind (wpAny_eqIsQuiet_tuple T' ?_)
      simp only [Bool.not_true, Bool.false_eq_true, if_false]
      refine wpAny_bind (tt_cls T ?_)
      simp only [Bool.false_eq_true, if_false]
      refine wpAny_bind (tt_cls T' ?_)
      simp only [Bool.false_eq_true, if_false]
      exact wpAny_pure ⟨rfl, rfl, more⟩
  · rintro ⟨x, y⟩ z ⟨e1, rfl, _⟩
    simp only at e1
    subst e1
    exact wpAny_pure q

variable (kn)
/-- the entries that a list of tuples makes -/
def tEnt (p : Addr × List κ) : Int × Value := (tupleKeyHash kn p.2, .ref p.1)
/-- the set at a holds the tuples of L, in the order of the table -/
structure TSet (h : Heap) (a : Addr) (L : List (Addr × List κ)) (es : Array (Int × Value)) (ep : Nat) (t : SetTable) : Prop where
  ob : ∃ o, h.get? a = some o ∧ o.ExactSet ∧ o.data = .set es ep t
  rows : es.toList = L.map (tEnt kn)
  tab : TabOk t (L.map fun p => tupleKeyHash kn p.2)
  nd : (L.map (·.2)).Nodup
  tup : ∀ p ∈ L, IsTupleKey kn h p.2 p.1
  led : w.params.followText "set-order" = true ∨ t.led = true
  room : L.length * 5 < t.mask * 3
  few : L.length < 64
variable {kn}
variable {a : Addr} {L : List (Addr × List κ)} {es : Array (Int × Value)} {ep : Nat} {t : SetTable}
theorem TSet.size {h : Heap} (R : TSet kn h a L es ep t) : es.size = L.length := by
  have q := congrArg List.length R.rows
  simpa using q
theorem tfits (hp : t.place.size = es.size) (hd : t.dummies = #[]) (hl : es.size ≤ t.mask) : t.fits es.size = true := by
  unfold SetTable.fits SetTable.fill
  rw [hd, Bool.and_eq_true, beq_iff_eq, decide_eq_true_eq]
  show t.place.size = es.size ∧ t.place.size + 0 ≤ t.mask
  omega
theorem TSet.psz {h : Heap} (R : TSet kn h a L es ep t) : t.place.size = es.size := by
  have q := R.tab.sz
  rw [List.length_map] at q
  rw [q, R.size]
theorem TSet.fits {h : Heap} (R : TSet kn h a L es ep t) : t.fits es.size = true := by
  have h2 := R.size
  have h3 := R.room
  exact tfits R.psz R.tab.dm (by omega)
theorem TSet.entry {h : Heap} (R : TSet kn h a L es ep t) {i : Nat} {p : Addr × List κ} (e : L[i]? = some p) : es[i]? = some (tupleKeyHash kn p.2, Value.ref p.1) := by
  rw [← Array.getElem?_toList, R.rows, List.getElem?_map, e]
  rfl
theorem TSet.gw {h : Heap} (R : TSet kn h a L es ep t) : ¬ t.gaveWay = true := by
  unfold SetTable.gaveWay
  rw [mask_odd R.tab.mok]
  decide
theorem TSet.at {h h' : Heap} (R : TSet kn h a L es ep t) (ha : ∀ o, h.get? a = some o → h'.get? a = some o) (ht : ∀ p ∈ L, IsTupleKey kn h' p.2 p.1) : TSet kn h' a L es ep t := by
  obtain ⟨o, ho, r⟩ := R.ob
  exact ⟨⟨o, ha o ho, r⟩, R.rows, R.tab, R.nd, ht, R.led, R.room, R.few⟩
theorem tk_keep {h h' : Heap} {k : List κ} {b : Addr} (T : IsTupleKey kn h k b) (hk : ∀ c o, h.get? c = some o → h'.get? c = some o) : IsTupleKey kn h' k b := by
  obtain ⟨o, its, n, ho, r⟩ := T
  exact ⟨o, its, n, hk b o ho, r⟩
/-- a tuple isn't the set -/
theorem tk_other {h h' : Heap} {k : List κ} {b : Addr} {o : Obj} (T : IsTupleKey kn h k b) (ho : h.get? a = some o) (hd : o.data = .set es ep t) (hs : Heap.SameBut a h h') : IsTupleKey kn h' k b := by
  obtain ⟨o', its, n, ho', hc, hd', hi⟩ := T
  refine ⟨o', its, n, (hs.2 b fun e => ?_).trans ho', hc, hd', hi⟩
  rw [e, ho] at ho'
  rw [← Option.some.inj ho', hd] at hd'
  exact nomatch hd'
theorem nth_dummy (m : Nat) : ∀ (n : Nat) (p : SetTable.Probe), p.dummy = none → (nth m p n).dummy = none
  | 0, _, h => h
  | n + 1, p, h => nth_dummy m n (adv m p) (by unfold adv; split <;> exact h)
/-- the start of a search -/
abbrev ways (m : Nat) (h : Int) : SetTable.Probe := runAt m (SetTable.bits h % (m + 1)) (SetTable.bits h)
set_option maxHeartbeats 8000000 in
/-- the search, from the c-th step of the way on -/
theorem tset_from (R : TSet kn s.heap a L es ep t) {x : Addr} {k : List κ} (hx : IsTupleKey kn s.heap k x) (hu : A.units < cLine) {N : Nat} (N1 : N < 10 * SetTable.turns t.mask)
    (N2 : way t.mask (tupleKeyHash kn k) N ∉ t.place.toList) (N3 : ∀ c, c < N → way t.mask (tupleKeyHash kn k) c ∈ t.place.toList) {Q : SetFound → Shared → Prop}
    (yes : k ∈ L.map (·.2) → Q (.there none) s) (no : k ∉ L.map (·.2) → Q (.free (way t.mask (tupleKeyHash kn k) N) false) s) :
    ∀ (f c : Nat) (stand : Option SetTable.Probe), stand.getD (t.probeStart (tupleKeyHash kn k)) = nth t.mask (ways t.mask (tupleKeyHash kn k)) c → c ≤ N → N - c < f →
      (∀ (i : Nat) p, L[i]? = some p → p.2 = k → ∃ d, c ≤ d ∧ d < N ∧ t.place.toList[i]? = some (way t.mask (tupleKeyHash kn k) d)) →
      wpAny (model P w) A (setSearchFrom a (.ref x) (tupleKeyHash kn k) true f stand) Q E s
  | 0, _, _, _, _, hf, _ => absurd hf (Nat.not_lt_zero _)
  | f + 1, c, stand, hst, hc, hf, hre => by
    obtain ⟨o, ho, _, hd⟩ := R.ob
    generalize hh : tupleKeyHash kn k = hs at *
    rw [setSearchFrom_succ]
    refine wpAny_bind (wpAny_setState_of ho hd R.fits ?_)
    dsimp only
    refine wp_if_neg R.gw ?_
    try refine wpAny_bind (wpAny_pure ?_)
    have e1 : ∀ q, nth t.mask (nth t.mask (ways t.mask hs) c) q = nth t.mask (ways t.mask hs) (c + q) := fun q => (nth_add t.mask c _ q).symm
    have e2 : ∀ q, (nth t.mask (nth t.mask (ways t.mask hs) c) q).j = way t.mask hs (c + q) := fun q => congrArg SetTable.Probe.j (e1 q)
    have e3 : c + (N - c) = N := by omega
    have at_ : ∀ (i : Nat) p, L[i]? = some p → (es[i]?.map (·.1)).getD 0 = tupleKeyHash kn p.2 := fun i p hp => by
      rw [R.entry hp]
      rfl
    rcases go_spec t R.tab.ris R.tab.dm (fun i => (es[i]?.map (·.1)).getD 0) hs (10 * SetTable.turns t.mask) (N - c) _ (nth_dummy t.mask c (ways t.mask hs) rfl) (by omega)
      (fun q hq => by rw [e2]; exact N3 (c + q) (by omega)) (by rw [e2, e3]; exact N2) with ⟨q, i, hq, hi, hhi, none_before, pr⟩ | ⟨none_before, pr⟩
    · have pr2 : t.probe (fun i => (es[i]?.map (·.1)).getD 0) hs (stand.getD (t.probeStart hs)) = some (.candidate (way t.mask hs (c + q)) i (nth t.mask (ways t.mask hs) (c + (q + 1)))) := by
        rw [hst, ← e2, ← e1]
        exact pr
      rw [pr2]
      dsimp only
      rw [e2] at hi
      have lt : i < L.length := by
        have h1 : i < t.place.toList.length := (List.getElem?_eq_some_iff.mp hi).1
        rw [Array.length_toList, R.psz, R.size] at h1
        exact h1
      obtain ⟨p, hp⟩ : ∃ p, L[i]? = some p := ⟨_, List.getElem?_eq_getElem lt⟩
      have hm : p ∈ L := List.mem_of_getElem? hp
      have T := R.tup p hm
      have sl : t.slot (way t.mask hs (c + q)) = .live i := slot_live R.tab.ris hi
      have go : wpAny (model P w) A (searchRest a (.ref x) hs true f es t (way t.mask hs (c + q)) i (nth t.mask (ways t.mask hs) (c + (q + 1)))) Q E s := by
        unfold searchRest
        rw [R.entry hp]
        dsimp only
        refine wpAny_bind (wpAny_holding (wpAny_eqBool_tuple hu T hx ?_))
        refine wpAny_bind (wpAny_setState_of ho hd R.fits ?_)
        dsimp only
        by_cases same : p.2 = k
        · refine wp_if_pos (by simp [same]) ?_
          exact wpAny_pure (yes (List.mem_map.mpr ⟨p, hm, same⟩))
        · refine wp_if_neg (by simp [same]) ?_
          try refine wpAny_bind (wpAny_pure ?_)
          rw [sameMem]
          dsimp only
          simp only [if_true, sl, R.entry hp]
          refine wpAny_bind (wpAny_isSame_ref_self (wpAny_bind (wpAny_pure ?_)))
          simp only [if_true]
          refine wp_if_neg (by simp [same]) ?_
          subst hh
          refine tset_from R hx hu N1 N2 N3 yes no f (c + (q + 1)) _ rfl (by omega) (by omega) fun i0 p0 h0 k0 => ?_
          obtain ⟨d, d1, d2, d3⟩ := hre i0 p0 h0 k0
          refine ⟨d, ?_, d2, d3⟩
          rcases Nat.lt_trichotomy d (c + q) with z | z | z
          · refine absurd ((at_ i0 p0 h0).trans (congrArg (tupleKeyHash kn) k0)) (none_before (d - c) i0 (by omega) ?_)
            rw [e2, show c + (d - c) = d by omega]
            exact d3
          · rw [z] at d3
            have sl2 := slot_live R.tab.ris d3
            rw [sl] at sl2
            injection sl2 with sl2
            rw [← sl2, hp] at h0
            exact absurd ((congrArg Prod.snd (Option.some.inj h0)).trans k0) same
          · omega
      by_cases hl : t.led = true
      · refine wp_if_neg (by simp [hl]) ?_
        try refine wpAny_bind (wpAny_pure ?_)
        exact go
      · refine wp_if_pos (by simp [hl]) ?_
        refine wpAny_bind (tt_seen hx (fun y hy => ?_) ?_)
        · obtain ⟨e, he, ee⟩ := List.mem_map.mp hy
          have he1 : e ∈ es ∧ e.1 = hs := by simpa using he
          have he2 : e ∈ es.toList := by simpa using he1.1
          rw [R.rows] at he2
          obtain ⟨p2, hp2, e5⟩ := List.mem_map.mp he2
          exact ⟨p2.2, p2.1, by rw [← ee, ← e5]; rfl, R.tup p2 hp2⟩
        · refine wp_if_neg (by decide) ?_
          try refine wpAny_bind (wpAny_pure ?_)
          exact go
    · have pr2 : t.probe (fun i => (es[i]?.map (·.1)).getD 0) hs (stand.getD (t.probeStart hs)) = some (.empty (way t.mask hs N) none) := by
        have e4 : way t.mask hs N = (nth t.mask (nth t.mask (ways t.mask hs) c) (N - c)).j := by rw [e2, e3]
        rw [hst, e4]
        exact pr
      rw [pr2]
      dsimp only
      refine wpAny_pure (no fun hm => ?_)
      obtain ⟨p0, h0, k0⟩ := List.mem_map.mp hm
      obtain ⟨i0, hi0, e0⟩ := List.getElem_of_mem h0
      have h00 : L[i0]? = some p0 := by rw [List.getElem?_eq_getElem hi0, e0]
      obtain ⟨d, d1, d2, d3⟩ := hre i0 p0 h00 k0
      refine none_before (d - c) i0 (by omega) ?_ ((at_ i0 p0 h00).trans ((congrArg (tupleKeyHash kn) k0).trans hh))
      rw [e2, show c + (d - c) = d by omega]
      exact d3
/-- the search that adding asks for -/
theorem tset_search (R : TSet kn s.heap a L es ep t) {x : Addr} {k : List κ} (hx : IsTupleKey kn s.heap k x) (hu : A.units < cLine) {Q : SetFound → Shared → Prop} (yes : k ∈ L.map (·.2) → Q (.there none) s)
    (no : ∀ N, k ∉ L.map (·.2) → way t.mask (tupleKeyHash kn k) N ∉ t.place.toList → (∀ c, c < N → way t.mask (tupleKeyHash kn k) c ∈ t.place.toList) → Q (.free (way t.mask (tupleKeyHash kn k) N) false) s) :
    wpAny (model P w) A (setSearch a (.ref x) (tupleKeyHash kn k) true) Q E s := by
  have r := R.room
  obtain ⟨N, N1, N2, N3⟩ := R.tab.first (by rw [List.length_map]; omega) (tupleKeyHash kn k)
  have small : 10 * SetTable.turns t.mask ≤ 1420 := by
    unfold SetTable.turns
    rcases R.tab.mok with e | e | e <;> omega
  unfold setSearch
  refine tset_from R hx hu N1 N2 N3 yes (fun h => no N h N2 N3) 100000 0 none rfl (Nat.zero_le _) (by omega) fun i p hp e => ?_
  have hi : (L.map fun p => tupleKeyHash kn p.2)[i]? = some (tupleKeyHash kn k) := by
    rw [List.getElem?_map, hp, ← e]
    rfl
  have il : i < t.place.toList.length := by
    rw [Array.length_toList, R.psz, R.size]
    exact (List.getElem?_eq_some_iff.mp hp).1
  obtain ⟨d, hd, e2⟩ := R.tab.before N2 hi (List.getElem?_eq_getElem il)
  exact ⟨d, Nat.zero_le _, hd, by rw [List.getElem?_eq_getElem il, e2]⟩
end

/-! ### one more tuple, the table laid anew, the whole of set(tuple of tuples) -/
section
open PySem.Spec PyProof.Rows
variable {P : Program} {w : World} {κ : Type} [DecidableEq κ] {kn : KeyKind P w κ} {A : Around} {E : Value → Shared → Prop} {s : Shared} {a : Addr} {L : List (Addr × List κ)} {es : Array (Int × Value)} {ep : Nat} {t : SetTable}
theorem pick_all {α : Type} (L : List α) : ∀ n, n ≤ L.length → (List.range n).filterMap (fun i => L[i]?) = L.take n
  | 0, _ => rfl
  | n + 1, h => by
    rw [List.range_succ, List.filterMap_append, pick_all L n (Nat.le_of_lt h), List.take_add_one, List.getElem?_eq_getElem h]
    rw [List.filterMap_cons_some (List.getElem?_eq_getElem h)]
    rfl
/-- the entries in another order are those of the tuples in that order -/
theorem tset_order (L : List (Addr × List κ)) (es : Array (Int × Value)) (hr : es.toList = L.map (tEnt kn)) : ∀ l : List Nat, (∀ i ∈ l, i < L.length) →
    l.filterMap (fun i => es[i]?) = (l.filterMap fun i => L[i]?).map (tEnt kn) ∧ ((l.filterMap fun i => L[i]?).map fun p => tupleKeyHash kn p.2) = l.map fun i => (es.map (·.1)).getD i 0
  | [], _ => ⟨rfl, rfl⟩
  | i :: l, hl => by
    have hi := hl i List.mem_cons_self
    obtain ⟨e1, e2⟩ := tset_order L es hr l fun j hj => hl j (List.mem_cons_of_mem _ hj)
    have en : es[i]? = some (tEnt kn L[i]) := by
      rw [← Array.getElem?_toList, hr, List.getElem?_map, List.getElem?_eq_getElem hi]
      rfl
    refine ⟨?_, ?_⟩
    · rw [List.filterMap_cons_some en, List.filterMap_cons_some (List.getElem?_eq_getElem hi), e1]
      rfl
    · rw [List.filterMap_cons_some (List.getElem?_eq_getElem hi), List.map_cons, List.map_cons, e2]
      have e5 : (es.map (·.1))[i]? = some (tupleKeyHash kn (L[i]).2) := by
        rw [Array.getElem?_map, en]
        rfl
      rw [Array.getD_eq_getD_getElem?, e5]
      rfl
theorem put_other (L : List (Addr × List κ)) (p : Nat) (x : Addr × List κ) : (L.take p ++ x :: L.drop p).Perm (x :: L) := by
  have h : (L.take p ++ x :: L.drop p).Perm (x :: (L.take p ++ L.drop p)) := List.perm_middle
  rwa [List.take_append_drop] at h
set_option maxHeartbeats 8000000 in
/-- a larger table -/
theorem tset_relay {o : Obj} (ho : s.heap.get? a = some o) (ex : o.ExactSet) (hd : o.data = .set es ep t) (rows : es.toList = L.map (tEnt kn)) (psz : t.place.size = es.size) (dm : t.dummies = #[]) (fl : es.size ≤ t.mask)
    (nd : (L.map (·.2)).Nodup) (tup : ∀ p ∈ L, IsTupleKey kn s.heap p.2 p.1) (ld : w.params.followText "set-order" = true ∨ t.led = true) (few : L.length < 64) {wanted M : Nat}
    (hw : SetTable.sizeAbove wanted - 1 = M) (hM : MaskOk M) (hw2 : SetTable.sizeAbove wanted ≤ 128) (hn : L.length * 5 < M * 3) {Q : Unit → Shared → Prop}
    (q : ∀ h' L' es' ep' t', Heap.SameBut a s.heap h' → TSet kn h' a L' es' ep' t' → L'.Perm L → Q () { s with heap := h' }) : wpAny (model P w) A (setRelay a wanted) Q E s := by
  have sz : es.size = L.length := by simpa using congrArg List.length rows
  obtain ⟨t', order, e, hp, T, em, el, _, _⟩ := relaid_ok t (hs := es.map (·.1)) (wanted := wanted) hw hM (by rw [Array.size_map, sz]; omega)
  rw [Array.size_map, sz] at hp
  obtain ⟨r1, r3⟩ := tset_order L es rows order.toList fun i hi => List.mem_range.mp (hp.mem_iff.mp hi)
  have r2 : (order.toList.filterMap fun i => L[i]?).Perm L := by
    have h1 := hp.filterMap fun i => L[i]?
    rwa [pick_all L L.length (Nat.le_refl _), List.take_length] at h1
  generalize order.toList.filterMap (fun i => L[i]?) = L2 at r1 r2 r3
  rw [← r3] at T
  have r4 : (order.filterMap (es[·]?)).toList = L2.map (tEnt kn) := by
    first | (rw [Array.toList_filterMap]; exact r1) | simpa using r1
  have s2 : (order.filterMap (es[·]?)).size = es.size := by
    have h := congrArg List.length r4
    rw [Array.length_toList, List.length_map, r2.length_eq] at h
    rw [h, sz]
  rw [setRelay_eq]
  refine wpAny_bind (wpAny_setState_of ho hd (tfits psz dm fl) ?_)
  dsimp only
  refine wp_if_neg (by rw [sizeLine_eq]; omega) ?_
  try refine wpAny_bind (wpAny_pure ?_)
  rw [e]
  dsimp only
  refine wpAny_bind ?_
  refine wp_if_neg (by rw [s2]; simp) ?_
  try refine wpAny_bind (wpAny_pure ?_)
  refine wpAny_pure ?_
  dsimp only
  refine wpAny_storeSet_of ho hd ?_ (by rw [s2, sz, sizeLine_eq]; omega)
  have sb : Heap.SameBut a s.heap (s.heap.update a (Obj.putSet (order.filterMap (es[·]?)) t')) := Heap.SameBut.update ..
  refine q _ L2 (order.filterMap (es[·]?)) (ep + 1) t' sb ⟨⟨_, store_at ho hd, ⟨ex.1, ex.2.1, ex.2.2⟩, rfl⟩, r4, T, (r2.map (·.2)).nodup_iff.mpr nd, fun p hpm => tk_other (tup p (r2.mem_iff.mp hpm)) ho hd sb, by rw [el]; exact ld, ?_, by rw [r2.length_eq]; exact few⟩ r2
  rw [r2.length_eq, em]
  exact hn
/-- what holds behind one more: the old tuples and this one, once -/
def OneMore (L : List (Addr × List κ)) (x : Addr) (k : List κ) (L' : List (Addr × List κ)) : Prop := (k ∈ L.map (·.2) → L' = L) ∧ (k ∉ L.map (·.2) → L'.Perm ((x, k) :: L))
set_option maxHeartbeats 16000000 in
theorem tset_add (R : TSet kn s.heap a L es ep t) {x : Addr} {k : List κ} (hx : IsTupleKey kn s.heap k x) (hu : A.units < cLine) (hfew : L.length + 1 < 64) {Q : Bool → Shared → Prop}
    (q : ∀ b h' L' es' ep' t', Heap.SameBut a s.heap h' → TSet kn h' a L' es' ep' t' → OneMore L x k L' → Q b { s with heap := h' }) :
    wpAny (model P w) A (setAddHashed a (.ref x) (tupleKeyHash kn k)) Q E s := by
  obtain ⟨o, ho, hex, hd⟩ := R.ob
  have sz := R.size
  have room := R.room
  unfold setAddHashed
  refine wpAny_holding ?_
  rw [show (100000 : Nat) = 99999 + 1 from rfl, setAddHashedIn_succ]
  refine wpAny_bind (wpAny_setState_of ho hd R.fits ?_)
  dsimp only
  refine wp_if_neg (by simp [byScan, Value.scannable]) ?_
  try refine wpAny_bind (wpAny_pure ?_)
  refine wpAny_bind (tset_search R hx hu (fun hm => ?_) fun N hm N2 N3 => ?_)
  · dsimp only
    exact wpAny_pure (q false s.heap L es ep t (Heap.SameBut.refl a s.heap) R ⟨fun _ => rfl, fun z => absurd hm z⟩)
  · dsimp only
    refine wpAny_bind (wpAny_setState_of ho hd R.fits ?_)
    dsimp only
    obtain ⟨q1, q2, q3, q4, q5, _, _, _, q9⟩ := R.tab.put N2 N3
    generalize hpt : t.put (way t.mask (tupleKeyHash kn k) N) = pt at q1 q3 q4 q5 q9 ⊢
    obtain ⟨t1, p⟩ := pt
    dsimp only at q1 q3 q4 q5 q9 ⊢
    subst q1
    -- the table, whatever it says of plain
    have fin : ∀ t2 : SetTable, TabOk t2 (List.map (fun p => tupleKeyHash kn p.2) L |>.take (SetTable.below t.place (way t.mask (tupleKeyHash kn k) N)) |>.append (tupleKeyHash kn k :: (L.map fun p => tupleKeyHash kn p.2).drop (SetTable.below t.place (way t.mask (tupleKeyHash kn k) N)))) →
        t2.mask = t.mask → t2.led = t.led → t2.fill = L.length + 1 → wpAny (model P w) A (do
          storeSet a (SetTable.insertAt es (SetTable.below t.place (way t.mask (tupleKeyHash kn k) N)) (tupleKeyHash kn k, Value.ref x)) t2
          if !false && t2.tooFull then setRelay a (SetTable.grown (es.size + 1))
          return true) Q E s := fun t2 T2 m2 l2 f2 => by
      have hin : (SetTable.insertAt es (SetTable.below t.place (way t.mask (tupleKeyHash kn k) N)) (tupleKeyHash kn k, Value.ref x)).toList = (L.take (SetTable.below t.place (way t.mask (tupleKeyHash kn k) N)) ++ (x, k) :: L.drop (SetTable.below t.place (way t.mask (tupleKeyHash kn k) N))).map (tEnt kn) := by
        rw [SetTable.toList_insertAt, R.rows, List.map_append, List.map_cons, List.map_take, List.map_drop]
        rfl
      generalize SetTable.below t.place (way t.mask (tupleKeyHash kn k) N) = p at hin T2 q2 ⊢
      have pm := put_other L p (x, k)
      have hlen : (L.take p ++ (x, k) :: L.drop p).length = L.length + 1 := pm.length_eq
      have T3 : TabOk t2 ((L.take p ++ (x, k) :: L.drop p).map fun p => tupleKeyHash kn p.2) := by
        rw [List.map_append, List.map_cons, List.map_take, List.map_drop]
        exact T2
      have nd1 : ((L.take p ++ (x, k) :: L.drop p).map (·.2)).Nodup := by
        refine (pm.map (·.2)).nodup_iff.mpr ?_
        rw [List.map_cons]
        exact List.nodup_cons.mpr ⟨hm, R.nd⟩
      have es1 : (SetTable.insertAt es p (tupleKeyHash kn k, Value.ref x)).size = L.length + 1 := by
        have h := congrArg List.length hin
        rw [Array.length_toList, List.length_map, hlen] at h
        exact h
      generalize SetTable.insertAt es p (tupleKeyHash kn k, Value.ref x) = E1 at hin es1 ⊢
      generalize L.take p ++ (x, k) :: L.drop p = L1 at pm hlen T3 nd1 hin
      refine wpAny_bind (wpAny_storeSet_of ho hd ?_ (by rw [es1, sizeLine_eq]; omega))
      have sb : Heap.SameBut a s.heap (s.heap.update a (Obj.putSet E1 t2)) := Heap.SameBut.update ..
      have ho1 := store_at (es' := E1) (t' := t2) ho hd
      generalize s.heap.update a (Obj.putSet E1 t2) = h1 at sb ho1 ⊢
      have tup1 : ∀ p ∈ L1, IsTupleKey kn h1 p.2 p.1 := fun p hp => by
        rcases List.mem_cons.mp (pm.mem_iff.mp hp) with e | hp
        · rw [e]
          exact tk_other hx ho hd sb
        · exact tk_other (R.tup p hp) ho hd sb
      have ld1 : w.params.followText "set-order" = true ∨ t2.led = true := by rw [l2]; exact R.led
      have psz : t2.place.size = E1.size := by
        have h := T3.sz
        rw [List.length_map, hlen] at h
        rw [h, es1]
      by_cases hf : t2.tooFull = true
      · first
          | (refine wpAny_bind ?_; refine wp_if_pos (by simp [hf]) ?_)
          | (refine wp_if_pos (by simp [hf]) ?_; refine wpAny_bind ?_)
        have full : (L.length + 1) * 5 ≥ t2.mask * 3 := by
          have h := hf
          unfold SetTable.tooFull at h
          rw [decide_eq_true_eq, f2] at h
          exact h
        rw [sz]
        have two : (t2.mask = 7 ∧ L.length = 4) ∨ (t2.mask = 31 ∧ L.length = 18) := by
          rw [m2] at full ⊢
          rcases R.tab.mok with e | e | e
          · left; rw [e] at full room; exact ⟨e, by omega⟩
          · right; rw [e] at full room; exact ⟨e, by omega⟩
          · exfalso; rw [e] at full; omega
        have go : ∀ M, SetTable.sizeAbove (SetTable.grown (L.length + 1)) - 1 = M → MaskOk M → SetTable.sizeAbove (SetTable.grown (L.length + 1)) ≤ 128 → (L.length + 1) * 5 < M * 3 →
            wpAny (model P w) A (setRelay a (SetTable.grown (L.length + 1))) (fun _ s' => wpAny (model P w) A (pure true) Q E s') E { s with heap := h1 } := fun M c1 c2 c3 c4 => by
          refine tset_relay (s := { s with heap := h1 }) ho1 ⟨hex.1, hex.2.1, hex.2.2⟩ rfl hin psz T3.dm (by rw [es1]; rcases two with ⟨e, e2⟩ | ⟨e, e2⟩ <;> omega) nd1 tup1 ld1 (by rw [hlen]; exact hfew) c1 c2 c3 (by rw [hlen]; exact c4) ?_
          intro h2 L2 es2 ep2 t3 sb2 R2 pm2
          exact wpAny_pure (q true h2 L2 es2 ep2 t3 (sb.trans sb2) R2 ⟨fun z => absurd z hm, fun _ => pm2.trans pm⟩)
        rcases two with ⟨_, e2⟩ | ⟨_, e2⟩
        · exact go 31 (by rw [e2, size_20]) (.inr (.inl rfl)) (by rw [e2, size_20]; decide) (by omega)
        · exact go 127 (by rw [e2, size_76]) (.inr (.inr rfl)) (by rw [e2, size_76]; decide) (by omega)
      · first
          | refine wp_if_neg (by simp [hf]) ?_
          | (refine wpAny_bind ?_; refine wp_if_neg (by simp [hf]) ?_; refine wpAny_pure ?_)
        refine wpAny_pure (q true h1 L1 E1 (ep + 1) t2 sb ⟨⟨_, ho1, ⟨hex.1, hex.2.1, hex.2.2⟩, rfl⟩, hin, T3, nd1, tup1, ld1, ?_, by rw [hlen]; exact hfew⟩ ⟨fun z => absurd z hm, fun _ => pm⟩)
        have h := hf
        unfold SetTable.tooFull at h
        rw [decide_eq_true_eq, f2] at h
        rw [hlen]
        omega
    rw [List.length_map] at q9
    by_cases hp1 : t1.plain = true
    · first
        | (refine wpAny_bind ?_; refine wp_if_pos hp1 ?_; refine tt_hash hx fun r => ?_)
        | refine wp_if_pos hp1 (wpAny_bind (tt_hash hx fun r => ?_))
      cases r
      · simp only [Bool.false_eq_true, if_false]
        exact fin _ ⟨q3.ris, q3.dm, q3.sz, q3.mok, q3.bd, q3.reach⟩ q4 q5 q9
      · simp only [if_true]
        exact fin _ q3 q4 q5 q9
    · first
        | (refine wpAny_bind ?_; refine wp_if_neg hp1 ?_; refine wpAny_pure ?_)
        | refine wp_if_neg hp1 (wpAny_bind (wpAny_pure ?_))
        | refine wp_if_neg hp1 ?_
      simp only [if_true]
      exact fin _ q3 q4 q5 q9
/-- what the set has from the first i tuples -/
structure TGot (ks : List (Addr × List κ)) (i : Nat) (L : List (Addr × List κ)) : Prop where
  sub : ∀ p ∈ L, p ∈ ks.take i
  all : ∀ p ∈ ks.take i, p.2 ∈ L.map (·.2)
  len : L.length ≤ i
theorem TGot.step {ks L L' : List (Addr × List κ)} {i : Nat} {x : Addr × List κ} (g : TGot ks i L) (h : ks[i]? = some x) (m : OneMore L x.1 x.2 L') : TGot ks (i + 1) L' := by
  have e : ks.take (i + 1) = ks.take i ++ [x] := by
    rw [List.take_add_one, h]
    rfl
  by_cases c : x.2 ∈ L.map (·.2)
  · rw [m.1 c]
    refine ⟨fun p hp => ?_, fun p hp => ?_, Nat.le_succ_of_le g.len⟩
    · rw [e]
      exact List.mem_append_left _ (g.sub p hp)
    · rw [e] at hp
      rcases List.mem_append.mp hp with z | z
      · exact g.all p z
      · rw [List.mem_singleton.mp z]
        exact c
  · have pm := m.2 c
    refine ⟨fun p hp => ?_, fun p hp => ?_, ?_⟩
    · rw [e]
      rcases List.mem_cons.mp (pm.mem_iff.mp hp) with z | z
      · rw [z]
        exact List.mem_append_right _ (List.mem_singleton.mpr rfl)
      · exact List.mem_append_left _ (g.sub p z)
    · rw [(pm.map (·.2)).mem_iff, List.map_cons]
      rw [e] at hp
      rcases List.mem_append.mp hp with z | z
      · exact List.mem_cons_of_mem _ (g.all p z)
      · rw [List.mem_singleton.mp z]
        exact List.mem_cons_self
    · rw [pm.length_eq, List.length_cons]
      exact Nat.succ_le_succ g.len
set_option maxHeartbeats 8000000 in
/-- the loop of set.update -/
theorem tset_loop {I : Addr} {fp wr : List Addr} {G : Array GenState → Array GenState → Prop} {n : Nat} {Pv : Nat → Value → Prop} {St : Nat → Shared → Prop} {R : Result → Shared → Prop}
    (W : WalksS P w A.in1 I fp wr G n Pv St) (S : Addr) (hSf : S ∉ fp) (ks : List (Addr × List κ)) (hn : n = ks.length) (few : ks.length < 64) (val : ∀ i v, Pv i v → ∃ p, ks[i]? = some p ∧ v = .ref p.1)
    (h0 : Heap) (tup : ∀ p ∈ ks, IsTupleKey kn h0 p.2 p.1) (hS0 : h0.get? S = none) (hw0 : ∀ b ∈ wr, h0.get? b = none) (hu : A.in1.units < cLine) :
    ∀ (j i : Nat) (s : Shared), n - i = j → i ≤ n → St i s → (∀ b o, h0.get? b = some o → s.heap.get? b = some o) → (∃ L es ep t, TSet kn s.heap S L es ep t ∧ TGot ks i L) →
      (∀ s' L es ep t, Moved (S :: wr) G s s' → TSet kn s'.heap S L es ep t → TGot ks n L → (∀ b o, h0.get? b = some o → s'.heap.get? b = some o) → R (.ok (.ret .none)) s') →
      codeAny (model P w) A (.builtin "set.update.loop" ⟨[.ref S, .ref I], []⟩) R s := by
  have hSw : S ∉ wr := fun h => hSf (W.sub _ h)
  have up : ∀ b ∈ wr, b ∈ S :: wr := fun b hb => List.mem_cons_of_mem _ hb
  have keep : ∀ {s s' : Shared}, Moved wr G s s' → (∀ b o, h0.get? b = some o → s.heap.get? b = some o) → ∀ b o, h0.get? b = some o → s'.heap.get? b = some o := fun hm hk b o e =>
    hm.heap b o (fun hb => by rw [hw0 b hb] at e; cases e) (hk b o e)
  intro j
  induction j with
  | zero =>
    intro i s hj hi hst hk ⟨L, es, ep, t, hS, g⟩ done
    have e : i = n := by omega
    subst e
    refine codeAny_builtin F.entry_set_update_loop ?_
    rw [Around.under_plainId F.plain_set_update_loop _]
    show wpAny _ A.in1 (pyNext (.ref I) >>= _) _ _ s
    refine wpAny_bind (W.done s _ _ hst fun s' hm => ?_)
    show wpAny _ A.in1 (ret Value.none) _ _ s'
    have hk' := keep hm hk
    exact wpAny_pure (done s' L es ep t (hm.mono up) (hS.at (fun o e => hm.heap S o hSw e) fun p hp => tk_keep (tup p (List.mem_of_mem_take (g.sub p hp))) hk') g hk')
  | succ j ih =>
    intro i s hj hi hst hk ⟨L, es, ep, t, hS, g⟩ done
    have lt : i < n := by omega
    refine codeAny_builtin F.entry_set_update_loop ?_
    rw [Around.under_plainId F.plain_set_update_loop _]
    show wpAny _ A.in1 (pyNext (.ref I) >>= _) _ _ s
    refine wpAny_bind (W.item i s _ _ lt hst fun v s' hv hst' hm => ?_)
    obtain ⟨p, hp, rfl⟩ := val i v hv
    have hk' := keep hm hk
    have hS' : TSet kn s'.heap S L es ep t := hS.at (fun o e => hm.heap S o hSw e) fun q hq => tk_keep (tup q (List.mem_of_mem_take (g.sub q hq))) hk'
    have hx : IsTupleKey kn s'.heap p.2 p.1 := tk_keep (tup p (List.mem_of_getElem? hp)) hk'
    show wpAny _ A.in1 (holding [Value.ref p.1] (setAdd S (.ref p.1)) >>= _) _ _ s'
    refine wpAny_bind (wpAny_holding ?_)
    unfold setAdd
    refine wpAny_holding ?_
    refine wpAny_bind (wpAny_pyHash_tuple hu hx ?_)
    refine tset_add (s := { s' with toks := s'.toks + (p.2.length + 1) }) hS' hx hu (by have := g.len; omega) fun b h' L' es' ep' t' sb hS2 m => ?_
    have hk2 : ∀ b o, h0.get? b = some o → h'.get? b = some o := fun b o e => (sb.2 b (fun z => by rw [z, hS0] at e; cases e)).trans (hk' b o e)
    refine wpAny_pure ⟨plainId_quiet F.plain_set_update_loop _, ih (i + 1) _ (by omega) lt (W.frame _ s' _ _ hst' (Nat.le_add_right _ _) fun b hb o e => ?_) hk2 ⟨L', es', ep', t', hS2, g.step hp m⟩ fun s'' L2 es2 ep2 t2 hm2 hS3 g3 hk3 => ?_⟩
    · rw [sb.2 b (fun h : b = S => hSf (by rw [← h]; exact hb))]
      exact e
    · refine done s'' L2 es2 ep2 t2 (Moved.trans W.gtrans ((hm.mono up).then_heap (Nat.le_add_right _ _) fun b o hb e => ?_) hm2) hS3 g3 hk3
      rw [sb.2 b (fun h : b = S => hb (by rw [h]; exact List.mem_cons_self))]
      exact e
end

/-! ### set(xs), a tuple of tuples or of ints, and how many are in it -/
/-- each once -/
def dd {α : Type} [DecidableEq α] : List α → List α
  | [] => []
  | x :: xs => if x ∈ dd xs then dd xs else x :: dd xs
section
variable {α : Type} [DecidableEq α]
theorem dd_mem : ∀ {xs : List α} {x : α}, x ∈ dd xs ↔ x ∈ xs
  | [], x => Iff.rfl
  | y :: ys, x => by
    unfold dd
    by_cases h : y ∈ dd ys
    · rw [if_pos h, List.mem_cons, dd_mem]
      constructor
      · exact .inr
      · rintro (rfl | q)
        · exact dd_mem.mp h
        · exact q
    · rw [if_neg h, List.mem_cons, List.mem_cons, dd_mem]
theorem dd_nodup : ∀ xs : List α, (dd xs).Nodup
  | [] => List.nodup_nil
  | y :: ys => by
    unfold dd
    by_cases h : y ∈ dd ys
    · rw [if_pos h]
      exact dd_nodup ys
    · rw [if_neg h]
      exact List.nodup_cons.mpr ⟨h, dd_nodup ys⟩
theorem dd_le : ∀ xs : List α, (dd xs).length ≤ xs.length
  | [] => Nat.le_refl _
  | y :: ys => by
    unfold dd
    have q := dd_le ys
    by_cases h : y ∈ dd ys
    · rw [if_pos h, List.length_cons]
      omega
    · rw [if_neg h, List.length_cons, List.length_cons]
      omega
theorem dd_len : ∀ {xs : List α}, (dd xs).length = xs.length ↔ xs.Nodup
  | [] => by simp [dd]
  | y :: ys => by
    unfold dd
    have q := dd_le ys
    by_cases h : y ∈ dd ys
    · rw [if_pos h, List.length_cons, List.nodup_cons]
      exact ⟨fun e => by omega, fun e => absurd (dd_mem.mp h) e.1⟩
    · rw [if_neg h, List.length_cons, List.length_cons, List.nodup_cons, ← dd_len (xs := ys)]
      exact ⟨fun e => ⟨fun m => h (dd_mem.mpr m), by omega⟩, fun e => by omega⟩
theorem same_len {xs ys : List α} (h1 : xs.Nodup) (h2 : ys.Nodup) (h : ∀ k, k ∈ xs ↔ k ∈ ys) : xs.length = ys.length :=
  ((List.perm_ext_iff_of_nodup h1 h2).mpr h).length_eq
end
/-- a set of n things stands at a -/
def SetC (a : Addr) (n : Nat) : HO := .ext fun h => ∃ o es ep t, h.get? a = some o ∧ o.ExactSet ∧ o.data = .set es ep t ∧ t.fits es.size = true ∧ es.size = n ∧ n < 100000
theorem setC_new {P : Program} {w : World} {H : Hp} {h : Heap} {a : Addr} {n : Nat} (R : ∃ o es ep t, h.get? a = some o ∧ o.ExactSet ∧ o.data = .set es ep t ∧ t.fits es.size = true ∧ es.size = n ∧ n < 100000) : ObjOk P w H h a (SetC a n) := by
  have ⟨o, _, _, _, ho, _⟩ := R
  refine ⟨R, ⟨o, ho⟩, fun h1 h2 p k => ?_⟩
  obtain ⟨o', es, ep, t, e, r⟩ := p
  exact ⟨o', es, ep, t, k o' e, r⟩
/-- a flat value as a key -/
def lfV : V → Leaf
  | .int i => .num i
  | .bl b => .num (if b = true then 1 else 0)
  | .str x => .text x
  | _ => .none
section
open PySem.Spec PyProof.Rows
variable {P : Program} {w : World} {A : Around} {E : Value → Shared → Prop} {s : Shared}
set_option maxHeartbeats 8000000 in
theorem tset_made {κ : Type} [DecidableEq κ] {kn : KeyKind P w κ} {l : Addr} {vs : Array Value} {ks : List (Addr × List κ)} {Q : Value → Shared → Prop} (hc : A.handled = none) (hu : A.units + 3 < cLine) (hl : s.heap.IsTuple l vs)
    (hv : vs.toList = ks.map fun p => Value.ref p.1) (tup : ∀ p ∈ ks, IsTupleKey kn s.heap p.2 p.1) (few : ks.length < 64)
    (q : ∀ h tk L es ep t, TSet kn h s.heap.objs.size L es ep t → TGot ks ks.length L → (∀ b o, s.heap.get? b = some o → h.get? b = some o) → Q (.ref s.heap.objs.size) { s with heap := h, toks := tk }) : wpAny (model P w) A (call (.type "set") [.ref l]) Q E s := by
  have size : vs.size = ks.length := by simpa using congrArg List.length hv
  have atS : (s.heap.push (oSet w)).get? s.heap.objs.size = some (oSet w) := Heap.get?_push_size _ rfl
  have tyS : Shared.TypeIs { s with heap := s.heap.push (oSet w) } (.ref s.heap.objs.size) "set" := ⟨_, atS, rfl⟩
  have e1 := F.called_set.made
  have e2 := F.called_set.sub
  have e3 := F.called_set.notType
  have e4 := F.called_set.canCreate
  have e5 := F.typeCall_set_1 (.ref l)
  have e6 := F.called_set.init.lookup
  have e7 := F.called_set.init.bind (.ref s.heap.objs.size)
  obtain ⟨cc, tl, e0⟩ := F.called_set.mro
  apply wpAny_call
  apply codeAny_of_tree
  show wpAny _ _ (callAny (.type "set") _) _ _ _
  apply wpAny_pure
  refine ⟨Code.quiet_builtin _ (by decide +kernel), ?_⟩
  apply codeAny_builtin F.entry_type_call
  rw [Around.under_plain (weight_type_call_type "set" [.ref l] []) rfl]
  repeat any_goals first | wp_step | assumption
  refine codeAny_mono (code_set_led1 (E := E) (.ref l) (Q₁ := fun v z => v = .ref s.heap.objs.size ∧ z = { s with heap := s.heap.push (oSet w) }) ⟨rfl, rfl⟩) ?_
  rintro (e | f) z hz
  · exact hz
  · cases f
    case ret v =>
      obtain ⟨rfl, rfl⟩ := hz
      repeat any_goals first | wp_step | assumption
      refine codeAny_mono (codeAny_call_builtin F.called_set.init.plain F.entry_set_init (check_set_init_1 tyS ?go)
        (R := wants (fun r z => r = .none ∧ ∃ h tk L es ep t, z = { s with heap := h, toks := tk } ∧ TSet kn h s.heap.objs.size L es ep t ∧ TGot ks ks.length L ∧ ∀ b o, s.heap.get? b = some o → h.get? b = some o) E)) ?_
      case go =>
        obtain ⟨⟨c0, d0, t0, s0⟩, at0, cl0, n0, da0⟩ := hl
        dsimp only at cl0 da0
        subst cl0 da0
        have atL : (s.heap.push (oSet w)).get? l = some ⟨.type "tuple", d0, .seq vs n0, s0⟩ := Heap.get?_push_of_some _ at0
        have isL : (s.heap.push (oSet w)).IsTuple l vs := ⟨_, atL, rfl, n0, rfl⟩
        have f1 := F.sub_tuple_set
        have f2 := F.sub_tuple_frozenset
        have f3 : (Value.type "tuple" == Value.type "dict") = false := by decide
        unfold Builtin.«set.__init__» noKeywords Builtin.Frozenset.updateFrom
        generalize hw : pyIter = it0
        wp_walk
        subst hw
        apply wpAny_pyIter_tuple isL
        apply wpAny_bind
        apply wpAny_runValue
        have small : l < s.heap.objs.size := Heap.lt_size at0
        have big : (s.heap.push (oSet w)).objs.size = s.heap.objs.size + 1 := Heap.size_push ..
        have calm : A.in1.in1.in1.handled = none := by simpa using hc
        have n1 : l ≠ (s.heap.push (oSet w)).objs.size := by
          rw [big]
          exact Nat.ne_of_lt (Nat.lt_succ_of_lt small)
        have n2 : s.heap.objs.size ≠ (s.heap.push (oSet w)).objs.size := by
          rw [big]
          exact Nat.ne_of_lt (Nat.lt_succ_self _)
        have nothing : ∀ b, s.heap.objs.size ≤ b → s.heap.get? b = none := fun b hb => by
          cases q : s.heap.get? b with
          | none => rfl
          | some o => exact absurd (Nat.lt_of_lt_of_le (Heap.lt_size q) hb) (Nat.lt_irrefl _)
        refine tset_loop (Walks.tuple calm _ l n1 vs).toS s.heap.objs.size (fun hm => ?f1) ks size few (fun i v ev => ?f2) s.heap tup (nothing _ (Nat.le_refl _)) (fun b hb => nothing b ?f4) (by show A.units + 3 < cLine; omega) (vs.size - 0) 0 _ rfl (Nat.zero_le _)
          ⟨⟨_, Heap.get?_push_size _ rfl, rfl, rfl⟩, isL.push _⟩ (fun b o e => Heap.get?_push_of_some _ (Heap.get?_push_of_some _ e)) ?f5 ?f3
        case f1 =>
          rcases List.mem_cons.mp hm with e | hm
          · exact n2 e
          · exact Nat.ne_of_gt small (List.mem_singleton.mp hm)
        case f2 =>
          have q : vs.toList[i]? = some v := by rw [Array.getElem?_toList]; exact ev
          rw [hv, List.getElem?_map] at q
          cases hq : ks[i]? with
          | none =>
            rw [hq] at q
            cases q
          | some p =>
            rw [hq] at q
            exact ⟨p, rfl, (Option.some.inj q).symm⟩
        case f4 =>
          rw [List.mem_singleton.mp hb, big]
          exact Nat.le_succ _
        case f5 =>
          have at1 := Heap.get?_push_of_some (⟨.type "tuple_iterator", none, .fields #[.ref l, .int 0 0], #[]⟩ : Obj) atS
          refine ⟨[], #[], 0, _, ⟨⟨_, at1, ⟨rfl, rfl, rfl⟩, rfl⟩, rfl, ⟨List.Pairwise.nil, rfl, rfl, .inl rfl, fun x hx => (by cases hx), fun i h j hi => (by simp at hi)⟩, List.nodup_nil, fun p hp => (by cases hp), ?_, ?_, ?_⟩, ⟨fun p h => (by cases h), fun p h => (by simp at h), Nat.le_refl _⟩⟩
          · show _ ∨ (!w.params.followText "set-order") = true
            cases w.params.followText "set-order"
            · exact .inr rfl
            · exact .inl rfl
          · show 0 * 5 < 7 * 3
            decide
          · show 0 < 64
            decide
        case f3 =>
          rintro ⟨h, g, d, tk, os⟩ L es ep t moved hS hG hk
          obtain rfl : g = s.gens := moved.gens
          obtain rfl : d = s.drawn := moved.drawn
          obtain rfl : os = s.os := moved.os
          apply wpAny_pure
          show wpAny _ _ (ret Value.none) _ _ _
          apply wpAny_pure
          exact ⟨rfl, h, tk, L, es, ep, t, rfl, hS, by rw [← size]; exact hG, hk⟩
      rintro (e | f) z hz
      · exact hz
      · cases f
        case ret v =>
          obtain ⟨rfl, h, tk, L, es, ep, t, rfl, hS, hG, hk⟩ := hz
          repeat any_goals first | wp_step | assumption
          exact q h tk L es ep t hS hG hk
        all_goals exact hz.elim
    all_goals exact hz.elim
theorem lf_is {x : V} {u : Value} (f : flatV x = true) (r : RelV x u) : Leaf.isOf (lfV x) u = true := by
  cases x with
  | non =>
    obtain rfl : u = Value.none := r
    rfl
  | bl b =>
    obtain rfl : u = Value.bool b := r
    exact decide_eq_true rfl
  | int i =>
    obtain ⟨t, rfl⟩ := r
    exact decide_eq_true rfl
  | str z =>
    obtain ⟨t, rfl⟩ := r
    simp [lfV, Leaf.isOf, Value.isStrOf]
  | _ => cases f
theorem lf_all {P : Program} {w : World} : ∀ {xs : List V} {us : List Value}, xs.all flatV = true → Vals xs us → ItemsAre (leafKind P w) (xs.map lfV) us
  | [], _, _, .nil => .nil
  | x :: xs, _, f, .cons r t => by
    rw [List.all_cons, Bool.and_eq_true] at f
    exact .cons (lf_is f.1 r) (lf_all f.2 t)
theorem ref_vals : ∀ {ks : List (Addr × List V)} {us : List Value}, Vals (ks.map fun p => V.ref p.1) us → us = ks.map fun p => Value.ref p.1
  | [], _, .nil => rfl
  | p :: ks, _, .cons r t => by
    cases r
    rw [ref_vals t]
    rfl
end
section
variable {X : Cx}
/-- set(xs), xs a tuple of tuples of flat things -/
def rSetTT (K : PySem.W.Frag) : List V → Hp → VK → Prop := fun vs H Q => ∃ (l : Addr) (ks : List (Addr × List V)), vs = [.ref l] ∧ SqT K H l (ks.map fun p => V.ref p.1) ∧ (∀ p ∈ ks, SqT K H p.1 p.2 ∧ p.2.all flatV = true) ∧ ks.length < 64 ∧
  ∀ p, H p = none → Q (.ref p) (upd H p (SetC p (dd (ks.map fun p => p.2.map lfV)).length))
theorem cg_setTT {k : Nat} (hr : Room k X.A) (hc : X.calm = true) : CallR X (.type "set") (rSetTT X.K) := by
  rintro pins s σ H vs us Q I r ⟨l, ks, rfl, hS, hk, few, q⟩
  obtain ⟨its, rv, pl, hz⟩ := I.tuple hS
  have e1 := Vals.ref1 r
  subst e1
  have hu := hr.un
  let ks2 : List (Addr × List Leaf) := ks.map fun p => (p.1, p.2.map lfV)
  have hv : its.toArray.toList = ks2.map fun p => Value.ref p.1 := by
    rw [List.map_map]
    show its = _
    rw [ref_vals rv]
    rfl
  refine tset_made (kn := leafKind X.prog X.w) (ks := ks2) (I.ok.hd hc) (by omega) pl hv (fun p hp => ?_) (by rw [List.length_map]; exact few) ?_
  · obtain ⟨z, hz, rfl⟩ := List.mem_map.mp hp
    obtain ⟨its', rv', ⟨o, ho, hc', n, hd⟩, _⟩ := I.tuple (hk z hz).1
    exact ⟨o, its'.toArray, n, ho, hc', hd, by simpa using lf_all (hk z hz).2 rv'⟩
  · intro h tk L es ep t hT hG keep
    have free : H s.heap.objs.size = none := I.hok.fresh (Nat.le_refl _)
    have cnt : es.size = (dd (ks.map fun p => p.2.map lfV)).length := by
      rw [hT.size, ← List.length_map (f := fun p : Addr × List Leaf => p.2)]
      refine same_len hT.nd (dd_nodup _) fun k => ?_
      rw [dd_mem]
      have tk2 : ks2.take ks2.length = ks2 := List.take_length
      constructor
      · intro h
        obtain ⟨p, hp, rfl⟩ := List.mem_map.mp h
        have hp2 := hG.sub p hp
        rw [tk2] at hp2
        obtain ⟨z, hz, rfl⟩ := List.mem_map.mp hp2
        exact List.mem_map.mpr ⟨z, hz, rfl⟩
      · intro h
        obtain ⟨z, hz, rfl⟩ := List.mem_map.mp h
        exact hG.all (z.1, z.2.map lfV) (by rw [tk2]; exact List.mem_map.mpr ⟨z, hz, rfl⟩)
    have few2 : es.size < 100000 := by
      have := hT.few
      have := hT.size
      omega
    obtain ⟨o, ho, hex, hd⟩ := hT.ob
    exact ⟨.ref _, _, I.laid (t' := tk) keep (Nat.le_refl _) (setC_new ⟨o, es, ep, t, ho, hex, hd, hT.fits, cnt, by rw [← cnt]; exact few2⟩), rfl, q _ free⟩
/-- how many a set of ints holds -/
theorem setR_count {w : World} {h : Heap} {a : Addr} {ns : List Int} {c : Nat} (R : SetR w h a (fun j => decide (j ∈ ns)) c) : ∃ o es ep t, h.get? a = some o ∧ o.ExactSet ∧ o.data = .set es ep t ∧ t.fits es.size = true ∧ es.size = (dd ns).length ∧ (dd ns).length < 100000 := by
  obtain ⟨o, es, ep, t, ho, hex, hd, _, nd, mem, lt, hf, hn, _⟩ := R
  have e : es.size = (dd ns).length := by
    have e1 : es.size = (es.toList.map keyOf).length := by simp
    rw [e1]
    refine same_len nd (dd_nodup _) fun k => ?_
    rw [dd_mem, ← mem k, decide_eq_true_eq]
  have lt2 : es.size < 4096 := lt
  exact ⟨o, es, ep, t, ho, hex, hd, hf, e, by omega⟩
/-- set(xs) of a list of ints, counted -/
def rSetLn (K : PySem.W.Frag) : List V → Hp → VK → Prop := fun vs H Q => ∃ (l : Addr) (ns : List Int), vs = [.ref l] ∧ SqL K H l (ns.map V.int) ∧ ns.length ≤ 4000 ∧ ∀ p, H p = none → Q (.ref p) (upd H p (SetC p (dd ns).length))
theorem cg_setLn (hc : X.calm = true) : CallR X (.type "set") (rSetLn X.K) := by
  rintro pins s σ H vs us Q I r ⟨l, ns, rfl, hS, hn, q⟩
  obtain ⟨its, rv, pl, hz⟩ := I.list hS
  have e1 := Vals.ref1 r
  subst e1
  have hv : PyProof.Rows.IntsAre its.toArray.toList ns := by simpa using rv.ints
  refine set_made (I.ok.hd hc) pl.isList hv hn ?_
  rintro h tk ⟨c, hR, hcn, keep⟩
  have free : H s.heap.objs.size = none := I.hok.fresh (Nat.le_refl _)
  exact ⟨.ref _, _, I.laid (t' := tk) keep (Nat.le_refl _) (setC_new (setR_count hR)), rfl, q _ free⟩
/-- set(xs) of a tuple of ints, counted -/
def rSetTn (K : PySem.W.Frag) : List V → Hp → VK → Prop := fun vs H Q => ∃ (l : Addr) (ns : List Int), vs = [.ref l] ∧ SqT K H l (ns.map V.int) ∧ ns.length ≤ 4000 ∧ ∀ p, H p = none → Q (.ref p) (upd H p (SetC p (dd ns).length))
theorem cg_setTn (hc : X.calm = true) : CallR X (.type "set") (rSetTn X.K) := by
  rintro pins s σ H vs us Q I r ⟨l, ns, rfl, hS, hn, q⟩
  obtain ⟨its, rv, pl, hz⟩ := I.tuple hS
  have e1 := Vals.ref1 r
  subst e1
  have hv : PyProof.Rows.IntsAre its.toArray.toList ns := by simpa using rv.ints
  refine call_set_tupI ns (I.ok.hd hc) pl hv (by unfold scanBound; omega) ?_
  intro h tk c hR hcn keep
  have free : H s.heap.objs.size = none := I.hok.fresh (Nat.le_refl _)
  exact ⟨.ref _, _, I.laid (t' := tk) keep (Nat.le_refl _) (setC_new (setR_count hR)), rfl, q _ free⟩
/-- len of such a set -/
def rLenN : List V → Hp → VK → Prop := fun vs H Q => ∃ (p : Addr) (n : Nat), vs = [.ref p] ∧ H p = some (SetC p n) ∧ Q (.int (n : Nat)) H
theorem cg_lenN : CallR X (.builtin "len") rLenN := by
  rintro pins s σ H vs us Q I r ⟨p, n, rfl, hp, q⟩
  have e1 := Vals.ref1 r
  subst e1
  obtain ⟨o, es, ep, t, ho, hex, hd, hf, hn, hl⟩ := (I.hok p _ hp).1
  exact call_len_set ho hex hd hf (by rw [hn]; omega) ⟨.int n, H, I.tok _, ⟨_, by rw [hn]⟩, q⟩
end
section
variable {K : PySem.W.Frag} {H : Hp} {Q : VK} {l p : Addr} {ns : List Int} {n : Nat}
theorem r_setLn (h : H l = some (.lst (ns.map V.int))) (hn : ns.length ≤ 4000) (q : ∀ p H2, H p = none → H2 p = some (SetC p (dd ns).length) → Kp [] H H2 → Q (.ref p) H2) : rSetLn K [.ref l] H Q :=
  ⟨l, ns, rfl, SqL.of h, hn, fun p hp => q p _ hp upd_same (Kp.new hp)⟩
theorem r_setTn (h : SqT K H l (ns.map V.int)) (hn : ns.length ≤ 4000) (q : ∀ p H2, H p = none → H2 p = some (SetC p (dd ns).length) → Kp [] H H2 → Q (.ref p) H2) : rSetTn K [.ref l] H Q :=
  ⟨l, ns, rfl, h, hn, fun p hp => q p _ hp upd_same (Kp.new hp)⟩
theorem r_setTT {ks : List (Addr × List V)} (h : SqT K H l (ks.map fun p => V.ref p.1)) (h2 : ∀ p ∈ ks, SqT K H p.1 p.2 ∧ p.2.all flatV = true) (hn : ks.length < 64)
    (q : ∀ p H2, H p = none → H2 p = some (SetC p (dd (ks.map fun p => p.2.map lfV)).length) → Kp [] H H2 → Q (.ref p) H2) : rSetTT K [.ref l] H Q :=
  ⟨l, ks, rfl, h, h2, hn, fun p hp => q p _ hp upd_same (Kp.new hp)⟩
theorem r_lenN (h : H p = some (SetC p n)) (q : Q (.int (n : Nat)) H) : rLenN [.ref p] H Q := ⟨p, n, rfl, h, q⟩
end

/-! ### the tape and the draw -/
/-- a tape at t over the numbers at c -/
structure Tp (t c : Addr) (H : Hp) : Prop where
  ex : ∃ (ns : List Int) (k z : Int), H t = some (.lst [.ref c, .int k, .int z]) ∧ H c = some (.lst (ns.map V.int)) ∧ 0 ≤ k ∧ 0 ≤ z
theorem Tp.ne {t c : Addr} {H : Hp} (h : Tp t c H) : t ≠ c := by
  obtain ⟨ns, k, z, h1, h2, _⟩ := h.ex
  refine ne_of h1 h2 fun e => ?_
  cases ns with
  | nil => simp at e
  | cons n ns => simp at e
theorem Tp.mut {t c : Addr} {H : Hp} (h : Tp t c H) : Mut (H t) := by
  obtain ⟨ns, k, z, h1, h2, _⟩ := h.ex
  rw [h1]
  trivial
theorem Tp.it {t c : Addr} {H : Hp} (h : Tp t c H) : ∃ o, H t = some o := by
  obtain ⟨ns, k, z, h1, h2, _⟩ := h.ex
  exact ⟨_, h1⟩
theorem Tp.itc {t c : Addr} {H : Hp} (h : Tp t c H) : ∃ o, H c = some o := by
  obtain ⟨ns, k, z, h1, h2, _⟩ := h.ex
  exact ⟨_, h2⟩
theorem Tp.kp {t c : Addr} {S : List Addr} {H H' : Hp} (k : Kp S H H') (h : Tp t c H) (n1 : ¬ t ∈ S) (n2 : ¬ c ∈ S) : Tp t c H' := by
  obtain ⟨ns, j, z, h1, h2, h3⟩ := h.ex
  exact ⟨ns, j, z, k.get n1 h1, k.get n2 h2, h3⟩
theorem Tp.kp0 {t c : Addr} {H H' : Hp} (k : Kp [] H H') (h : Tp t c H) : Tp t c H' := h.kp k (fun z => nomatch z) (fun z => nomatch z)
/-- no draw is asked for more -/
def bigB : Int := 2 ^ 240
theorem bigB_ok {z m : Int} (h1 : 1 ≤ m) (h2 : m < bigB) : CDivW z m := by
  unfold bigB at h2
  exact wide_div (b := 240) (by omega) (by omega) (by decide) (by decide)
def spDraw : Sp := fun vs H Q _ => ∃ (t c : Addr) (m : Int), vs = [.ref t, .int m] ∧ Tp t c H ∧ 1 ≤ m ∧ m < bigB ∧ ∀ (d : Int) (H' : Hp), 0 ≤ d → d < m → Tp t c H' → Kp [t] H H' → Q (.int d) H'
theorem spDraw_i {t c : Addr} {m : Int} {H : Hp} {Q : VK} {E : XK} (h : Tp t c H) (h1 : 1 ≤ m) (h2 : m < bigB) (k : ∀ (d : Int) (H' : Hp), 0 ≤ d → d < m → Tp t c H' → Kp [t] H H' → Q (.int d) H') : spDraw [.ref t, .int m] H Q E :=
  ⟨t, c, m, rfl, h, h1, h2, k⟩
def spTape (K : PySem.W.Frag) : Sp := fun vs H Q _ => ∃ (a : Addr) (ns : List Int), vs = [.ref a] ∧ SqL K H a (ns.map V.int) ∧ ∀ (t c : Addr) (H' : Hp), H t = none → H c = none → Tp t c H' → Kp [] H H' → Q (.ref t) H'
theorem Tp.kp1 {t c p : Addr} {H H' : Hp} (k : Kp [p] H H') (h : Tp t c H) (n1 : t ≠ p) (n2 : c ≠ p) : Tp t c H' := h.kp k (fun z => n1 (by simpa using z)) (fun z => n2 (by simpa using z))
local macro_rules | `(tactic| walk_at "cg h") => `(tactic| (first
  | ((with_reducible show Tp _ _ _); exact Tp.kp0 (by assumption) (by walk_at "cg h"))
  | fail))
local macro_rules | `(tactic| walk_at "cg h") => `(tactic| (first
  | ((with_reducible show Tp _ _ _); exact Tp.kp1 (by assumption) (by walk_at "cg h") (by walk_at "cg ne") (by walk_at "cg ne"))
  | fail))
local macro_rules | `(tactic| walk_at "cg h") => `(tactic| assumption)
theorem Tp.nef {t c p : Addr} {H : Hp} (hp : H p = none) (h : Tp t c H) : p ≠ t := by
  obtain ⟨o, e⟩ := h.it
  exact (ne_of_none e hp).symm
theorem Tp.nefc {t c p : Addr} {H : Hp} (hp : H p = none) (h : Tp t c H) : p ≠ c := by
  obtain ⟨o, e⟩ := h.itc
  exact (ne_of_none e hp).symm
local macro_rules | `(tactic| walk_at "cg ne") => `(tactic| (first
  | exact Tp.nef (by assumption) (by walk_at "cg h") | exact (Tp.nef (by assumption) (by walk_at "cg h")).symm | exact Tp.nefc (by assumption) (by walk_at "cg h") | exact (Tp.nefc (by assumption) (by walk_at "cg h")).symm
  | fail))
theorem Tp.base {t c : Addr} {H : Hp} (T : Tp t c H) : Kp [t] H H := .base fun b hb => by
  rw [List.mem_singleton] at hb
  subst hb
  exact T.mut
local macro_rules | `(tactic| walk_at "cg kp") => `(tactic| (first
  | ((with_reducible show Kp [_] _ _); exact Tp.base (by assumption))
  | fail))
theorem Tp.free {t c p : Addr} {H0 H1 : Hp} (hp : H1 p = none) (k : Kp [t] H0 H1) (T : Tp t c H1) : H0 p = none := k.free hp fun b hb => by
  rw [List.mem_singleton] at hb
  subst hb
  exact T.it
local macro_rules | `(tactic| walk_at "cg fr") => `(tactic| (first
  | assumption
  | exact Tp.free (by assumption) (by walk_at "cg kp") (by walk_at "cg h")
  | fail))
local macro_rules | `(tactic| walk_at "cg dr") => `(tactic| ((with_reducible refine spDraw_i (c := ?c) ?h ?h1 ?h2 ?_); (case h => walk_at "cg h"); (case h1 => first | omega | decide); (case h2 => first | (with_reducible assumption) | decide)))
local macro_rules | `(tactic| walk_at "cg s") => `(tactic| (walk_at "cg dr"; intro _ _ _ _ _ _))

/-! ### relations and literals -/
inductive Rel where
  | le | ge | eq | ne
  deriving DecidableEq
def Rel.s : Rel → Str
  | .le => "<="
  | .ge => ">="
  | .eq => "="
  | .ne => "!="
def Rel.h : Rel → Int → Int → Bool
  | .le, a, b => decide (a ≤ b)
  | .ge, a, b => decide (b ≤ a)
  | .eq, a, b => decide (a = b)
  | .ne, a, b => decide (a ≠ b)
def Rel.neg : Rel → Rel
  | .le => .ge
  | .ge => .le
  | .eq => .ne
  | .ne => .eq
def Rel.nnum : Rel → Int → Int
  | .le, a => a + 1
  | .ge, a => a - 1
  | _, a => a
theorem Rel.neg_neg (r : Rel) : r.neg.neg = r := by cases r <;> rfl
theorem Rel.nnum_nnum (r : Rel) (a : Int) : r.neg.nnum (r.nnum a) = a := by
  cases r <;> simp [Rel.neg, Rel.nnum] <;> omega
theorem Rel.neg_h (r : Rel) (x a : Int) : r.neg.h x (r.nnum a) = !r.h x a := by
  cases r
  · simp only [Rel.neg, Rel.nnum, Rel.h]
    rw [Bool.eq_iff_iff]; simp; omega
  · simp only [Rel.neg, Rel.nnum, Rel.h]
    rw [Bool.eq_iff_iff]; simp; omega
  · simp [Rel.neg, Rel.nnum, Rel.h]
  · simp [Rel.neg, Rel.nnum, Rel.h]
theorem ix_rel3 {K : PySem.W.Frag} {p : Addr} {H : Hp} {Q : VK} {d : Int} (h : H p = some (.lst [.str (Str.ofString "<="), .str (Str.ofString ">="), .str (Str.ofString "=")])) (h0 : 0 ≤ d) (h1 : d < 3) (q : ∀ r : Rel, r ≠ .ne → Q (.str r.s) H) : rIxL K (.ref p) (.int d) H Q := by
  have e : d = 0 ∨ d = 1 ∨ d = 2 := by omega
  rcases e with rfl | rfl | rfl
  · exact r_ixL h rfl (q .le (by decide))
  · exact r_ixL h rfl (q .ge (by decide))
  · exact r_ixL h rfl (q .eq (by decide))
def spRel : Sp := fun vs H Q _ => ∃ (r : Rel) (a b : Int), vs = [.str r.s, .int a, .int b] ∧ Q (.bl (r.h a b)) H
theorem spRel_i (r : Rel) {a b : Int} {H : Hp} {Q : VK} {E : XK} (q : Q (.bl (r.h a b)) H) : spRel [.str r.s, .int a, .int b] H Q E := ⟨r, a, b, rfl, q⟩
/-- a literal stands at p -/
abbrev LitAt (K : PySem.W.Frag) (H : Hp) (p : Addr) (v : Int) (r : Rel) (a : Int) : Prop := SqT K H p [.int v, .str r.s, .int a]
def spLit (K : PySem.W.Frag) : Sp := fun vs H Q _ => ∃ (p : Addr) (v : Int) (r : Rel) (a x : Int), vs = [.ref p, .int x] ∧ LitAt K H p v r a ∧ Q (.bl (r.h x a)) H
def spNeg (K : PySem.W.Frag) : Sp := fun vs H Q _ => ∃ (p : Addr) (v : Int) (r : Rel) (a : Int), vs = [.ref p] ∧ LitAt K H p v r a ∧ ∀ (p' : Addr) (H' : Hp), LitAt K H' p' v r.neg (r.nnum a) → Kp [] H H' → Q (.ref p') H'
def spSame : Sp := fun vs H Q _ => ∃ (a b : Bool), vs = [.bl a, .bl b] ∧ Q (.bl (decide (a = b))) H
theorem ix_rel4 {K : PySem.W.Frag} {p : Addr} {H : Hp} {Q : VK} {d : Int} (h : H p = some (.lst [.str (Str.ofString "<="), .str (Str.ofString ">="), .str (Str.ofString "="), .str (Str.ofString "!=")])) (h0 : 0 ≤ d) (h1 : d < 4) (q : ∀ r : Rel, Q (.str r.s) H) : rIxL K (.ref p) (.int d) H Q := by
  have e : d = 0 ∨ d = 1 ∨ d = 2 ∨ d = 3 := by omega
  rcases e with rfl | rfl | rfl | rfl
  · exact r_ixL h rfl (q .le)
  · exact r_ixL h rfl (q .ge)
  · exact r_ixL h rfl (q .eq)
  · exact r_ixL h rfl (q .ne)
def litD (v : Int) (r : Rel) (a : Int) : PyData := .tuple [.int v, .str r.s, .int a]
theorem Rel.ok (r : Rel) : PyData.strOk r.s = true := by cases r <;> decide +kernel
theorem litD_shaped (v : Int) (r : Rel) (a : Int) : SeqAt.shaped (litD v r a) = true := by
  simp [litD, Rel.ok, SeqAt.shaped, PyData.canLay0, PyData.canLayAll0, PyData.depth, PyData.depthAll]
theorem litD_self (v : Int) (r : Rel) (a : Int) : PyData.eqv (litD v r a) (litD v r a) = true := by
  simp [litD, PyData.eqv, PyData.eqvAll]
theorem LitAt.dp {K : PySem.W.Frag} {H : Hp} {p : Addr} {v : Int} {r : Rel} {a : Int} (h : LitAt K H p v r a) : Dp K H (.ref p) (litD v r a) :=
  .tup h (.cons (.int _) (.cons (.str _) (.cons (.int _) .nil)))
local macro_rules | `(tactic| walk_at "cg s") => `(tactic| (with_reducible refine spRel_i _ ?_))
theorem spSame_i {a b : Bool} {H : Hp} {Q : VK} {E : XK} (q : Q (.bl (decide (a = b))) H) : spSame [.bl a, .bl b] H Q E := ⟨a, b, rfl, q⟩
local macro_rules | `(tactic| walk_at "cg s") => `(tactic| (with_reducible refine spSame_i ?_))
theorem spLit_i {K : PySem.W.Frag} {H : Hp} {Q : VK} {E : XK} {p : Addr} {v : Int} {r : Rel} {a x : Int} (h : LitAt K H p v r a) (q : Q (.bl (r.h x a)) H) : spLit K [.ref p, .int x] H Q E := ⟨p, v, r, a, x, rfl, h, q⟩
local macro_rules | `(tactic| walk_at "cg s") => `(tactic| ((with_reducible show spLit _ _ _ _ _); refine spLit_i (by walk_at "cg h") ?_))

/-! ### comprehensions and loops over data -/
theorem piTup {X : Cx} (K : PySem.W.Frag) {tg l : Expr} {tl : TE} (hl : PE X l tl) (h : X.K = K := by rfl) : PI X tg l (iTup K tl) := h ▸ pi_tup hl
theorem piLst {X : Cx} (K : PySem.W.Frag) {tg l : Expr} {tl : TE} (hl : PE X l tl) (h : X.K = K := by rfl) : PI X tg l (iList K tl) := h ▸ pi_list hl
theorem flat_ints (us : List Int) : (us.map V.int).all flatV = true := by
  rw [List.all_map]
  exact List.all_eq_true.mpr fun x _ => rfl
theorem inV_ints (v : Int) (us : List Int) : inV (.int v) (us.map V.int) = decide (v ∈ us) := by
  unfold inV
  rw [List.any_map]
  induction us with
  | nil => rfl
  | cons u us ih =>
    have e : ((fun y => eqV y (.int v)) ∘ V.int) u = decide (v = u) := by
      show (u == v) = decide (v = u)
      rw [Bool.eq_iff_iff, beq_iff_eq, decide_eq_true_eq]
      exact eq_comm
    rw [List.any_cons, ih, e, Bool.eq_iff_iff]
    simp only [Bool.or_eq_true, decide_eq_true_eq, List.mem_cons]
theorem blkOk_nf {N : List Str} {sc scope : Scope} {own : List (Str × Nat)} (h : blkC N { kind := .function, names := [], isGenerator := false, isCoroutine := false } scope own = true) : BlkOk N sc scope own := by
  have q := blkOk_by h
  exact ⟨q.1, q.2, q.3, fun y hy e => (by rcases q.4 y hy e with k | k <;> exact nomatch k), q.5⟩
theorem small1e4 {n : Nat} (h : n ≤ 10000) : n < sizeLine := by
  rw [sizeLine_eq]
  omega
theorem atI_nat {α : Type} {xs : List α} {i : Int} (h0 : 0 ≤ i) (h1 : i < xs.length) : atI xs i = xs[i.toNat]? := by
  simp [atI, ixN, h0, h1]
theorem atI_ints {ns : List Int} {i : Int} (h0 : 0 ≤ i) (h1 : i < ns.length) : atI (ns.map V.int) i = some (.int (ns.getD i.toNat 0)) := by
  have e : i.toNat < ns.length := by omega
  rw [atI_nat h0 (by rw [List.length_map]; exact h1)]
  simp [e]
theorem mapGetP {K : PySem.W.Frag} {H : Hp} {x : V} {α : Type} {f : α → PyData} {xs : List V} {as : List α} {i : Nat} (h : ImAll K H xs (as.map f)) (e : xs[i]? = some x) : ∃ a, as[i]? = some a ∧ Im K H x (f a) := by
  obtain ⟨d, h1, h2⟩ := h.get e
  rw [List.getElem?_map] at h1
  cases q : as[i]? with
  | none =>
    rw [q] at h1
    cases h1
  | some a =>
    rw [q] at h1
    cases h1
    exact ⟨a, rfl, h2⟩
theorem mapLenP {K : PySem.W.Frag} {H : Hp} {α : Type} {f : α → PyData} {xs : List V} {as : List α} (h : ImAll K H xs (as.map f)) : xs.length = as.length := by
  rw [h.length, List.length_map]
theorem atI_0 {α : Type} {x : α} {xs : List α} : atI (x :: xs) 0 = some x := by
  rw [atI_nat (by decide) (by simp <;> omega)]
  rfl
theorem atI_1 {α : Type} {x y : α} {xs : List α} : atI (x :: y :: xs) 1 = some y := by
  rw [atI_nat (by decide) (by simp <;> omega)]
  rfl
theorem fm_take {α β : Type} {as : List α} {f : α → Option β} {i : Nat} {a : α} (h : as[i]? = some a) : (as.take (i + 1)).filterMap f = (as.take i).filterMap f ++ (f a).toList := by
  rw [List.take_add_one, h, List.filterMap_append]
  congr 1
  all_goals (cases q : f a <;> simp [q])
theorem fm_some {α β : Type} (as : List α) (h : α → β) : as.filterMap (fun a => some (h a)) = as.map h := by
  induction as with
  | nil => rfl
  | cons a as ih =>
    show h a :: as.filterMap (fun a => some (h a)) = _
    rw [ih, List.map_cons]
theorem ImAll.bls {K : PySem.W.Frag} {H : Hp} : ∀ {xs : List V} {bs : List Bool}, ImAll K H xs (bs.map PyData.bool) → xs = bs.map V.bl
  | _, [], .nil => rfl
  | _, b :: bs, .cons h a => by rw [ImAll.bls a, h.flat rfl]; rfl
theorem ImAll.ints {K : PySem.W.Frag} {H : Hp} : ∀ {xs : List V} {bs : List Int}, ImAll K H xs (bs.map PyData.int) → xs = bs.map V.int
  | _, [], .nil => rfl
  | _, b :: bs, .cons h a => by rw [ImAll.ints a, h.flat rfl]; rfl
theorem imInts {K : PySem.W.Frag} {H : Hp} : ∀ (ns : List Int), ImAll K H (ns.map V.int) (ns.map PyData.int)
  | [] => .nil
  | n :: ns => .cons (.int n) (imInts ns)
def intsD (ns : List Int) : PyData := .tuple (ns.map PyData.int)
theorem Im.intsT {K : PySem.W.Frag} {H : Hp} {p : Addr} {ns : List Int} (h : Im K H (.ref p) (intsD ns)) : SqT K H p (ns.map V.int) := h.sq (flatDs_ints ns)
theorem intsT_im {K : PySem.W.Frag} {H : Hp} {p : Addr} {ns : List Int} (h : SqT K H p (ns.map V.int)) : Im K H (.ref p) (intsD ns) := Im.ints h
section
variable {σ σ0 : St} {H : Hp} {K : PySem.W.Frag} {p : Addr} {xs : List V} {g : TG} {tt : TT} {te : TE} {vs : List Nat} {Q : VK} {n : Nat} {lo : Int} {α : Type} {as : List α} {d : α → PyData} {t c : Addr}
/-- a turn of a comprehension, its answer free -/
abbrev lcTurn (g : TG) (tt : TT) (te : TE) (vs : List Nat) (σ σ0 : St) (x : V) (H' : Hp) (R : V → Hp → Prop) (R' : Hp → Prop) : Prop :=
  g x σ0 H' fun σ2 H2 => wpS σ2 σ vs (tt σ2 H2 fun b H3 => iteP b (te σ2 H3 R) (R' H3))
/-- over a tuple of data, with a test -/
theorem lcT_f [hw : Wip σ vs σ0] (s : SqT K H p xs) (ia : ImAll K H xs (as.map d)) (f : α → Option PyData) (small : as.length ≤ 10000)
    (hs : ∀ (i : Nat) (a : α) (x : V) (H' : Hp) (R : V → Hp → Prop) (R' : Hp → Prop), as[i]? = some a → Kp [] H H' → Im K H' x (d a) → (∀ y H4 e, f a = some e → Im K H4 y e → Kp [] H' H4 → R y H4) → (∀ H4, f a = none → Kp [] H' H4 → R' H4) →
      lcTurn g tt te vs σ σ0 x H' R R')
    (hd : ∀ D H' acc, H D = none → H' D = some (.lst acc) → ImAll K H' acc (as.filterMap f) → Kp [] H H' → Q (.ref D) H') : lcS (Itt K p) g tt te vs σ H Q := by
  have hxl := mapLenP ia
  refine r_lcT xs (fun D i H' => Kp [] H H' ∧ H D = none ∧ ∃ acc, H' D = some (.lst acc) ∧ ImAll K H' acc ((as.take i).filterMap f)) (fun D H2 hD e2 k2 => ⟨k2, hD, [], e2, .nil⟩) (fun D i H' h => h.1.tup s) ?_ ?_
  · rintro D i x H' hx ⟨k2, hD, acc, eD, hA⟩
    obtain ⟨a, ha, hxd⟩ := mapGetP (k2.imAll ia) hx
    have hi : i < as.length := (List.getElem?_eq_some_iff.mp ha).1
    have hal : acc.length ≤ i := by
      rw [hA.length]
      refine Nat.le_trans (List.length_filterMap_le _ _) ?_
      rw [List.length_take]
      omega
    refine hs i a x H' _ _ ha k2 hxd (fun y H4 e hf hy k4 => ?_) (fun H4 hf k4 => ?_)
    · refine r_ap (k4.get0 eD) (small1e4 (by omega)) fun H5 e5 k5 => ⟨Kp.trN k5 (Kp.tr0 k4 k2) hD, hD, _, e5, ?_⟩
      rw [fm_take ha, hf]
      exact (k5.imAll (k4.imAll hA)).snoc (k5.im hy)
    · refine ⟨Kp.tr0 k4 k2, hD, acc, k4.get0 eD, ?_⟩
      rw [fm_take ha, hf]
      simpa using k4.imAll hA
  · rintro D H' ⟨k2, hD, acc, eD, hA⟩
    rw [hxl, List.take_length] at hA
    exact hd D H' acc hD eD hA k2
/-- over a list of data, with a test -/
theorem lcL_f [hw : Wip σ vs σ0] (s : H p = some (.lst xs)) (ia : ImAll K H xs (as.map d)) (f : α → Option PyData) (small : as.length ≤ 10000)
    (hs : ∀ (i : Nat) (a : α) (x : V) (H' : Hp) (R : V → Hp → Prop) (R' : Hp → Prop), as[i]? = some a → Kp [] H H' → Im K H' x (d a) → (∀ y H4 e, f a = some e → Im K H4 y e → Kp [] H' H4 → R y H4) → (∀ H4, f a = none → Kp [] H' H4 → R' H4) →
      lcTurn g tt te vs σ σ0 x H' R R')
    (hd : ∀ D H' acc, H D = none → H' D = some (.lst acc) → ImAll K H' acc (as.filterMap f) → Kp [] H H' → Q (.ref D) H') : lcS (Itl K p) g tt te vs σ H Q := by
  have hxl := mapLenP ia
  refine r_lcL xs (fun D i H' => Kp [] H H' ∧ H D = none ∧ ∃ acc, H' D = some (.lst acc) ∧ ImAll K H' acc ((as.take i).filterMap f)) (fun D H2 hD e2 k2 => ⟨k2, hD, [], e2, .nil⟩) (fun D i H' h => h.1.get0 s) ?_ ?_
  · rintro D i x H' hx ⟨k2, hD, acc, eD, hA⟩
    obtain ⟨a, ha, hxd⟩ := mapGetP (k2.imAll ia) hx
    have hi : i < as.length := (List.getElem?_eq_some_iff.mp ha).1
    have hal : acc.length ≤ i := by
      rw [hA.length]
      refine Nat.le_trans (List.length_filterMap_le _ _) ?_
      rw [List.length_take]
      omega
    refine hs i a x H' _ _ ha k2 hxd (fun y H4 e hf hy k4 => ?_) (fun H4 hf k4 => ?_)
    · refine r_ap (k4.get0 eD) (small1e4 (by omega)) fun H5 e5 k5 => ⟨Kp.trN k5 (Kp.tr0 k4 k2) hD, hD, _, e5, ?_⟩
      rw [fm_take ha, hf]
      exact (k5.imAll (k4.imAll hA)).snoc (k5.im hy)
    · refine ⟨Kp.tr0 k4 k2, hD, acc, k4.get0 eD, ?_⟩
      rw [fm_take ha, hf]
      simpa using k4.imAll hA
  · rintro D H' ⟨k2, hD, acc, eD, hA⟩
    rw [hxl, List.take_length] at hA
    exact hd D H' acc hD eD hA k2
/-- over a range, with a test -/
theorem lcR_f [hw : Wip σ vs σ0] (f : Nat → Option PyData) (small : n ≤ 10000)
    (hs : ∀ (i : Nat) (H' : Hp) (R : V → Hp → Prop) (R' : Hp → Prop), i < n → Kp [] H H' → (∀ y H4 e, f i = some e → Im K H4 y e → Kp [] H' H4 → R y H4) → (∀ H4, f i = none → Kp [] H' H4 → R' H4) →
      lcTurn g tt te vs σ σ0 (.int (lo + (i : Int))) H' R R')
    (hd : ∀ D H' acc, H D = none → H' D = some (.lst acc) → ImAll K H' acc ((List.range n).filterMap f) → Kp [] H H' → Q (.ref D) H') : lcS (Itr lo n) g tt te vs σ H Q := by
  refine r_lcR (fun D i H' => Kp [] H H' ∧ H D = none ∧ ∃ acc, H' D = some (.lst acc) ∧ ImAll K H' acc ((List.range i).filterMap f)) (fun D H2 hD e2 k2 => ⟨k2, hD, [], e2, .nil⟩) ?_ ?_
  · rintro D i H' hi ⟨k2, hD, acc, eD, hA⟩
    have hal : acc.length ≤ i := by
      rw [hA.length]
      refine Nat.le_trans (List.length_filterMap_le _ _) ?_
      rw [List.length_range]
      exact Nat.le_refl _
    have e0 : (List.range (i + 1)).filterMap f = (List.range i).filterMap f ++ (f i).toList := by
      rw [List.range_succ, List.filterMap_append]
      congr 1
      all_goals (cases q : f i <;> simp [q])
    refine hs i H' _ _ hi k2 (fun y H4 e hf hy k4 => ?_) (fun H4 hf k4 => ?_)
    · refine r_ap (k4.get0 eD) (small1e4 (by omega)) fun H5 e5 k5 => ⟨Kp.trN k5 (Kp.tr0 k4 k2) hD, hD, _, e5, ?_⟩
      rw [e0, hf]
      exact (k5.imAll (k4.imAll hA)).snoc (k5.im hy)
    · refine ⟨Kp.tr0 k4 k2, hD, acc, k4.get0 eD, ?_⟩
      rw [e0, hf]
      simpa using k4.imAll hA
  · rintro D H' ⟨k2, hD, acc, eD, hA⟩
    exact hd D H' acc hD eD hA k2
/-- over a tuple of data: each item's answer -/
theorem lcT_m [hw : Wip σ vs σ0] (s : SqT K H p xs) (ia : ImAll K H xs (as.map d)) (f : α → PyData) (small : as.length ≤ 10000)
    (hs : ∀ (i : Nat) (a : α) (x : V) (H' : Hp) (R : V → Hp → Prop) (R' : Hp → Prop), as[i]? = some a → Kp [] H H' → Im K H' x (d a) → (∀ y H4, Im K H4 y (f a) → Kp [] H' H4 → R y H4) → lcTurn g tt te vs σ σ0 x H' R R')
    (hd : ∀ D H' acc, H D = none → H' D = some (.lst acc) → ImAll K H' acc (as.map f) → Kp [] H H' → Q (.ref D) H') : lcS (Itt K p) g tt te vs σ H Q :=
  lcT_f s ia (fun a => some (f a)) small (fun i a x H' R R' ha k hx h1 _ => hs i a x H' R R' ha k hx fun y H4 hy k4 => h1 y H4 _ rfl hy k4) fun D H' acc hD eD hA k => hd D H' acc hD eD (by rw [fm_some] at hA; exact hA) k
theorem lcL_m [hw : Wip σ vs σ0] (s : H p = some (.lst xs)) (ia : ImAll K H xs (as.map d)) (f : α → PyData) (small : as.length ≤ 10000)
    (hs : ∀ (i : Nat) (a : α) (x : V) (H' : Hp) (R : V → Hp → Prop) (R' : Hp → Prop), as[i]? = some a → Kp [] H H' → Im K H' x (d a) → (∀ y H4, Im K H4 y (f a) → Kp [] H' H4 → R y H4) → lcTurn g tt te vs σ σ0 x H' R R')
    (hd : ∀ D H' acc, H D = none → H' D = some (.lst acc) → ImAll K H' acc (as.map f) → Kp [] H H' → Q (.ref D) H') : lcS (Itl K p) g tt te vs σ H Q :=
  lcL_f s ia (fun a => some (f a)) small (fun i a x H' R R' ha k hx h1 _ => hs i a x H' R R' ha k hx fun y H4 hy k4 => h1 y H4 _ rfl hy k4) fun D H' acc hD eD hA k => hd D H' acc hD eD (by rw [fm_some] at hA; exact hA) k
theorem lcR_m [hw : Wip σ vs σ0] (f : Nat → PyData) (small : n ≤ 10000)
    (hs : ∀ (i : Nat) (H' : Hp) (R : V → Hp → Prop) (R' : Hp → Prop), i < n → Kp [] H H' → (∀ y H4, Im K H4 y (f i) → Kp [] H' H4 → R y H4) → lcTurn g tt te vs σ σ0 (.int (lo + (i : Int))) H' R R')
    (hd : ∀ D H' acc, H D = none → H' D = some (.lst acc) → ImAll K H' acc ((List.range n).map f) → Kp [] H H' → Q (.ref D) H') : lcS (Itr lo n) g tt te vs σ H Q :=
  lcR_f (fun i => some (f i)) small (fun i H' R R' hi k h1 _ => hs i H' R R' hi k fun y H4 hy k4 => h1 y H4 _ rfl hy k4) fun D H' acc hD eD hA k => hd D H' acc hD eD (by rw [fm_some] at hA; exact hA) k
/-- .. a truth value for each -/
theorem lcT_b [hw : Wip σ vs σ0] (s : SqT K H p xs) (ia : ImAll K H xs (as.map d)) (f : α → Bool) (small : as.length ≤ 10000)
    (hs : ∀ (i : Nat) (a : α) (x : V) (H' : Hp) (R : V → Hp → Prop) (R' : Hp → Prop), as[i]? = some a → Kp [] H H' → Im K H' x (d a) → (∀ H4, Kp [] H' H4 → R (.bl (f a)) H4) → lcTurn g tt te vs σ σ0 x H' R R')
    (hd : ∀ D H', H D = none → H' D = some (.lst ((as.map f).map V.bl)) → Kp [] H H' → Q (.ref D) H') : lcS (Itt K p) g tt te vs σ H Q :=
  lcT_m s ia (fun a => .bool (f a)) small (fun i a x H' R R' ha k hx h1 => hs i a x H' R R' ha k hx fun H4 k4 => h1 _ H4 (.bl _) k4) fun D H' acc hD eD hA k => hd D H' hD (by
    rw [eD]
    have q : as.map (fun a => PyData.bool (f a)) = (as.map f).map PyData.bool := by simp
    rw [q] at hA
    rw [hA.bls]) k
theorem lcL_b [hw : Wip σ vs σ0] (s : H p = some (.lst xs)) (ia : ImAll K H xs (as.map d)) (f : α → Bool) (small : as.length ≤ 10000)
    (hs : ∀ (i : Nat) (a : α) (x : V) (H' : Hp) (R : V → Hp → Prop) (R' : Hp → Prop), as[i]? = some a → Kp [] H H' → Im K H' x (d a) → (∀ H4, Kp [] H' H4 → R (.bl (f a)) H4) → lcTurn g tt te vs σ σ0 x H' R R')
    (hd : ∀ D H', H D = none → H' D = some (.lst ((as.map f).map V.bl)) → Kp [] H H' → Q (.ref D) H') : lcS (Itl K p) g tt te vs σ H Q :=
  lcL_m s ia (fun a => .bool (f a)) small (fun i a x H' R R' ha k hx h1 => hs i a x H' R R' ha k hx fun H4 k4 => h1 _ H4 (.bl _) k4) fun D H' acc hD eD hA k => hd D H' hD (by
    rw [eD]
    have q : as.map (fun a => PyData.bool (f a)) = (as.map f).map PyData.bool := by simp
    rw [q] at hA
    rw [hA.bls]) k
/-- .. an int for each -/
theorem lcT_i [hw : Wip σ vs σ0] (s : SqT K H p xs) (ia : ImAll K H xs (as.map d)) (f : α → Int) (small : as.length ≤ 10000)
    (hs : ∀ (i : Nat) (a : α) (x : V) (H' : Hp) (R : V → Hp → Prop) (R' : Hp → Prop), as[i]? = some a → Kp [] H H' → Im K H' x (d a) → (∀ H4, Kp [] H' H4 → R (.int (f a)) H4) → lcTurn g tt te vs σ σ0 x H' R R')
    (hd : ∀ D H', H D = none → H' D = some (.lst ((as.map f).map V.int)) → Kp [] H H' → Q (.ref D) H') : lcS (Itt K p) g tt te vs σ H Q :=
  lcT_m s ia (fun a => .int (f a)) small (fun i a x H' R R' ha k hx h1 => hs i a x H' R R' ha k hx fun H4 k4 => h1 _ H4 (.int _) k4) fun D H' acc hD eD hA k => hd D H' hD (by
    rw [eD]
    have q : as.map (fun a => PyData.int (f a)) = (as.map f).map PyData.int := by simp
    rw [q] at hA
    rw [hA.ints]) k
theorem lcL_i [hw : Wip σ vs σ0] (s : H p = some (.lst xs)) (ia : ImAll K H xs (as.map d)) (f : α → Int) (small : as.length ≤ 10000)
    (hs : ∀ (i : Nat) (a : α) (x : V) (H' : Hp) (R : V → Hp → Prop) (R' : Hp → Prop), as[i]? = some a → Kp [] H H' → Im K H' x (d a) → (∀ H4, Kp [] H' H4 → R (.int (f a)) H4) → lcTurn g tt te vs σ σ0 x H' R R')
    (hd : ∀ D H', H D = none → H' D = some (.lst ((as.map f).map V.int)) → Kp [] H H' → Q (.ref D) H') : lcS (Itl K p) g tt te vs σ H Q :=
  lcL_m s ia (fun a => .int (f a)) small (fun i a x H' R R' ha k hx h1 => hs i a x H' R R' ha k hx fun H4 k4 => h1 _ H4 (.int _) k4) fun D H' acc hD eD hA k => hd D H' hD (by
    rw [eD]
    have q : as.map (fun a => PyData.int (f a)) = (as.map f).map PyData.int := by simp
    rw [q] at hA
    rw [hA.ints]) k
/-- draws, one for each number of a range: what they have in common -/
theorem lcR_d [hw : Wip σ vs σ0] (d : α → PyData) (Pr : Nat → α → Prop) (T : Tp t c H) (small : n ≤ 10000)
    (hs : ∀ (i : Nat) (H' : Hp) (R : V → Hp → Prop) (R' : Hp → Prop), i < n → Tp t c H' → Kp [t] H H' → (∀ y H4 a, Pr i a → Im K H4 y (d a) → Tp t c H4 → Kp [t] H' H4 → R y H4) → lcTurn g tt te vs σ σ0 (.int (lo + (i : Int))) H' R R')
    (hd : ∀ D H' acc (as : List α), H D = none → H' D = some (.lst acc) → as.length = n → (∀ (i : Nat) a, as[i]? = some a → Pr i a) → ImAll K H' acc (as.map d) → Tp t c H' → Kp [t] H H' → Q (.ref D) H') : lcS (Itr lo n) g tt te vs σ H Q := by
  refine r_lcR (fun D i H' => Kp [t] H H' ∧ H D = none ∧ Tp t c H' ∧ ∃ (acc : List V) (as : List α), H' D = some (.lst acc) ∧ as.length = i ∧ (∀ (i : Nat) a, as[i]? = some a → Pr i a) ∧ ImAll K H' acc (as.map d))
    (fun D H2 hD e2 k2 => ⟨Kp.tr0 k2 (Tp.base T), hD, Tp.kp0 k2 T, [], [], e2, rfl, (fun i a h => by simp at h), .nil⟩) ?_ ?_
  · rintro D i H' hi ⟨k2, hD, T2, acc, as, eD, hl, hP, hA⟩
    have nt : D ≠ t := Tp.nef hD T
    have nc : D ≠ c := Tp.nefc hD T
    have hal : acc.length = i := by rw [hA.length, List.length_map, hl]
    refine hs i H' _ _ hi T2 k2 fun y H4 a ha hy T4 k4 => ?_
    refine r_ap (k4.get1 nt eD) (small1e4 (by omega)) fun H5 e5 k5 => ⟨Kp.trN k5 (Kp.tr1 k4 k2) hD, hD, Tp.kp1 k5 T4 nt.symm nc.symm, _, as ++ [a], e5, by simp [hl], fun j b hb => ?_, ?_⟩
    · rcases Nat.lt_or_ge j as.length with h | h
      · rw [List.getElem?_append_left h] at hb
        exact hP j b hb
      · rw [List.getElem?_append_right h] at hb
        have e0 : j - as.length = 0 := by
          have := (List.getElem?_eq_some_iff.mp hb).1
          simp at this
          omega
        rw [e0] at hb
        simp at hb
        subst hb
        rw [show j = i by omega]
        exact ha
    · rw [List.map_append]
      exact (k5.imAll (k4.imAll hA)).snoc (k5.im hy)
  · rintro D H' ⟨k2, hD, T2, acc, as, eD, hl, hP, hA⟩
    exact hd D H' acc as hD eD hl hP hA T2 k2
/-- .. one for each item of a tuple -/
theorem lcT_d {β : Type} {bs : List β} {e : β → PyData} [hw : Wip σ vs σ0] (s : SqT K H p xs) (ib : ImAll K H xs (bs.map e)) (d : α → PyData) (Pr : β → α → Prop) (T : Tp t c H) (small : bs.length ≤ 10000)
    (hs : ∀ (i : Nat) (b : β) (x : V) (H' : Hp) (R : V → Hp → Prop) (R' : Hp → Prop), bs[i]? = some b → Im K H' x (e b) → Tp t c H' → Kp [t] H H' → (∀ y H4 a, Pr b a → Im K H4 y (d a) → Tp t c H4 → Kp [t] H' H4 → R y H4) → lcTurn g tt te vs σ σ0 x H' R R')
    (hd : ∀ D H' acc (as : List α), H D = none → H' D = some (.lst acc) → as.length = bs.length → (∀ (i : Nat) a, as[i]? = some a → ∃ b, bs[i]? = some b ∧ Pr b a) → ImAll K H' acc (as.map d) → Tp t c H' → Kp [t] H H' → Q (.ref D) H') : lcS (Itt K p) g tt te vs σ H Q := by
  have hxl := mapLenP ib
  refine r_lcT xs (fun D i H' => Kp [t] H H' ∧ H D = none ∧ Tp t c H' ∧ ∃ (acc : List V) (as : List α), H' D = some (.lst acc) ∧ as.length = i ∧ (∀ (i : Nat) a, as[i]? = some a → ∃ b, bs[i]? = some b ∧ Pr b a) ∧ ImAll K H' acc (as.map d))
    (fun D H2 hD e2 k2 => ⟨Kp.tr0 k2 (Tp.base T), hD, Tp.kp0 k2 T, [], [], e2, rfl, (fun i a h => by simp at h), .nil⟩) (fun D i H' h => h.1.tup s) ?_ ?_
  · rintro D i x H' hx ⟨k2, hD, T2, acc, as, eD, hl, hP, hA⟩
    obtain ⟨b, hb, hxd⟩ := mapGetP (k2.imAll ib) hx
    have hi : i < bs.length := (List.getElem?_eq_some_iff.mp hb).1
    have nt : D ≠ t := Tp.nef hD T
    have nc : D ≠ c := Tp.nefc hD T
    have hal : acc.length = i := by rw [hA.length, List.length_map, hl]
    refine hs i b x H' _ _ hb hxd T2 k2 fun y H4 a ha hy T4 k4 => ?_
    refine r_ap (k4.get1 nt eD) (small1e4 (by omega)) fun H5 e5 k5 => ⟨Kp.trN k5 (Kp.tr1 k4 k2) hD, hD, Tp.kp1 k5 T4 nt.symm nc.symm, _, as ++ [a], e5, by simp [hl], fun j b' hb' => ?_, ?_⟩
    · rcases Nat.lt_or_ge j as.length with h | h
      · rw [List.getElem?_append_left h] at hb'
        exact hP j b' hb'
      · rw [List.getElem?_append_right h] at hb'
        have e0 : j - as.length = 0 := by
          have := (List.getElem?_eq_some_iff.mp hb').1
          simp at this
          omega
        rw [e0] at hb'
        simp at hb'
        subst hb'
        rw [show j = i by omega]
        exact ⟨b, hb, ha⟩
    · rw [List.map_append]
      exact (k5.imAll (k4.imAll hA)).snoc (k5.im hy)
  · rintro D H' ⟨k2, hD, T2, acc, as, eD, hl, hP, hA⟩
    exact hd D H' acc as hD eD (by rw [hl, hxl]) hP hA T2 k2
end
section
variable {σ : St} {H : Hp} {K : PySem.W.Frag} {p : Addr} {xs : List V} {g : TG} {tb : TS} {nx bk ct : St → Hp → Prop} {rt : VK} {α : Type} {as : List α} {d : α → PyData}
/-- a for over a tuple of data -/
theorem r_forTI (S : List Addr) (s : SqT K H p xs) (ia : ImAll K H xs (as.map d)) (Pv : Nat → St → Hp → Prop) (h0 : Pv 0 σ H) (hk : ∀ i σ' H', Pv i σ' H' → Kp S H H')
    (hs : ∀ (i : Nat) (a : α) (x : V) σ' H', as[i]? = some a → Im K H' x (d a) → Kp S H H' → Pv i σ' H' → g x σ' H' fun σ2 H2 => tb ⟨Pv (i + 1), rt, nx, Pv (i + 1)⟩ σ2 H2) (hd : ∀ σ' H', Kp S H H' → Pv as.length σ' H' → nx σ' H') : forS (Itt K p) g tb ⟨nx, rt, bk, ct⟩ σ H := by
  refine r_forT xs Pv h0 (fun i σ' H' h => (hk i σ' H' h).tup s) (fun i x σ' H' hx h => ?_) (fun σ' H' h => ?_)
  · obtain ⟨a, ha, hxd⟩ := mapGetP ((hk i σ' H' h).imAll ia) hx
    exact hs i a x σ' H' ha hxd (hk i σ' H' h) h
  · rw [mapLenP ia] at h
    exact hd σ' H' (hk _ σ' H' h) h
/-- a for over a list of data that stands -/
theorem r_forLD (S : List Addr) (s : H p = some (.lst xs)) (np : ¬ p ∈ S) (ia : ImAll K H xs (as.map d)) (Pv : Nat → St → Hp → Prop) (h0 : Pv 0 σ H) (hk : ∀ i σ' H', Pv i σ' H' → Kp S H H')
    (hs : ∀ (i : Nat) (a : α) (x : V) σ' H', as[i]? = some a → Im K H' x (d a) → Kp S H H' → Pv i σ' H' → g x σ' H' fun σ2 H2 => tb ⟨Pv (i + 1), rt, nx, Pv (i + 1)⟩ σ2 H2) (hd : ∀ σ' H', Kp S H H' → Pv as.length σ' H' → nx σ' H') : forS (Itl K p) g tb ⟨nx, rt, bk, ct⟩ σ H := by
  refine r_forL xs Pv h0 (fun i σ' H' h => (hk i σ' H' h).get np s) (fun i x σ' H' hx h => ?_) (fun σ' H' h => ?_)
  · obtain ⟨a, ha, hxd⟩ := mapGetP ((hk i σ' H' h).imAll ia) hx
    exact hs i a x σ' H' ha hxd (hk i σ' H' h) h
  · rw [mapLenP ia] at h
    exact hd σ' H' (hk _ σ' H' h) h
end
/-! ### sets of ints, sorted -/
section
variable {K : PySem.W.Frag} {w : World} {H : Hp} {Q : VK} {l S : Addr} {ns : List Int} {f : Int → Bool} {c : Nat}
theorem r_setS (h : H l = some (.lst (ns.map V.int))) (hn : ns.length ≤ 4000) (q : ∀ S H2 c, H S = none → H2 S = some (SetO w S (fun j => decide (j ∈ ns)) c) → c ≤ ns.length → Kp [] H H2 → Q (.ref S) H2) : rSetL K w [.ref l] H Q :=
  ⟨l, ns, rfl, SqL.of h, hn, fun p c hp hc _ => q p _ c hp upd_same hc (Kp.new hp)⟩
theorem r_setS2 (h : H l = some (.lst (ns.map V.int))) (hn : ns.length ≤ 4000) (q : ∀ S H2 c, H S = none → H2 S = some (SetO w S (fun j => decide (j ∈ ns)) c) → (∀ us : List Int, (∀ j ∈ ns, j ∈ us) → c ≤ us.length) → Kp [] H H2 → Q (.ref S) H2) : rSetL K w [.ref l] H Q :=
  ⟨l, ns, rfl, SqL.of h, hn, fun p c hp _ hc => q p _ c hp upd_same hc (Kp.new hp)⟩
theorem r_sortS (h : H S = some (SetO w S f c)) (hc : c < 64) (q : ∀ l (ns : List Int) H2, H l = none → H2 l = some (.lst (ns.map V.int)) → ns.Pairwise (· < ·) → (∀ j, j ∈ ns ↔ f j = true) → Kp [] H H2 → Q (.ref l) H2) : rSortedSet w [.ref S] H Q :=
  ⟨S, f, c, rfl, h, hc, fun ns l hp hm hn hl => q l ns _ hl upd_same hp (fun j => by rw [hm j]) (Kp.new hl)⟩
end
/-! ### more rows of tactics -/
theorem Kp.free1 {H0 H1 : Hp} {p : Addr} (h : H1 p = none) (f : Kp [] H0 H1) : H0 p = none := f.free0 h
local macro_rules | `(tactic| walk_at "cg fr") => `(tactic| (first
  | assumption
  | exact Kp.free1 (by assumption) (by walk_at "cg kp")
  | fail))
section
variable {K : PySem.W.Frag} {H : Hp} {Q : VK} {p : Addr} {xs : List V} {x : V} {neg : Bool}
theorem r_inTt (h : SqT K H p xs) (fx : flatV x = true) (fs : xs.all flatV = true) (e : (if neg then !inV x xs else inV x xs) = true) (q : Q (.bl true) H) : rIn K neg x (.ref p) H Q := r_inT h fx fs e q
theorem r_inTf (h : SqT K H p xs) (fx : flatV x = true) (fs : xs.all flatV = true) (e : (if neg then !inV x xs else inV x xs) = false) (q : Q (.bl false) H) : rIn K neg x (.ref p) H Q := r_inT h fx fs e q
theorem r_inLt (h : H p = some (.lst xs)) (fx : flatV x = true) (fs : xs.all flatV = true) (e : (if neg then !inV x xs else inV x xs) = true) (q : Q (.bl true) H) : rIn K neg x (.ref p) H Q := r_inL h fx fs e q
theorem r_inLf (h : H p = some (.lst xs)) (fx : flatV x = true) (fs : xs.all flatV = true) (e : (if neg then !inV x xs else inV x xs) = false) (q : Q (.bl false) H) : rIn K neg x (.ref p) H Q := r_inL h fx fs e q
end
local macro_rules | `(tactic| walk_at "cg s") => `(tactic| (first
  | ((with_reducible apply r_inTt); (focus (walk_at "cg h")); exact rfl; exact rfl; (focus (decide +kernel)))
  | ((with_reducible apply r_inTf); (focus (walk_at "cg h")); exact rfl; exact rfl; (focus (decide +kernel)))
  | ((with_reducible apply r_inLt); (focus (walk_at "cg h")); exact rfl; exact rfl; (focus (decide +kernel)))
  | ((with_reducible apply r_inLf); (focus (walk_at "cg h")); exact rfl; exact rfl; (focus (decide +kernel)))
  | fail))

/-! ### terms and rows -/
structure Shp (n : Nat) (d : PyData) : Prop where
  lay : d.canLay0 = true
  dep : d.depth ≤ n
theorem Shp.int {n : Nat} (i : Int) : Shp n (.int i) := ⟨rfl, Nat.zero_le _⟩
theorem Shp.bool {n : Nat} (b : Bool) : Shp n (.bool b) := ⟨rfl, Nat.zero_le _⟩
theorem Shp.none {n : Nat} : Shp n .none := ⟨rfl, Nat.zero_le _⟩
theorem Shp.str {n : Nat} {x : Str} (h : PyData.strOk x = true) : Shp n (.str x) := ⟨by simp only [PyData.canLay0]; exact h, Nat.zero_le _⟩
theorem shpAll {n : Nat} : ∀ {ds : List PyData}, (∀ d ∈ ds, Shp n d) → PyData.canLayAll0 ds = true ∧ PyData.depthAll ds ≤ n
  | [], _ => ⟨rfl, Nat.zero_le _⟩
  | d :: ds, h => by
    have h1 := h d List.mem_cons_self
    have h2 := shpAll (ds := ds) fun e he => h e (List.mem_cons_of_mem _ he)
    refine ⟨?_, ?_⟩
    · simp only [PyData.canLayAll0, h1.lay, h2.1, Bool.and_self]
    · simp only [PyData.depthAll]
      exact Nat.max_le.mpr ⟨h1.dep, h2.2⟩
theorem Shp.tup {n : Nat} {ds : List PyData} (h : ∀ d ∈ ds, Shp n d) : Shp (n + 1) (.tuple ds) := by
  have q := shpAll h
  exact ⟨by simp only [PyData.canLay0]; exact q.1, by simp only [PyData.depth]; omega⟩
theorem Shp.list {n : Nat} {ds : List PyData} (h : ∀ d ∈ ds, Shp n d) : Shp (n + 1) (.list ds) := by
  have q := shpAll h
  exact ⟨by simp only [PyData.canLay0]; exact q.1, by simp only [PyData.depth]; omega⟩
theorem Shp.mono {n m : Nat} {d : PyData} (h : Shp n d) (l : n ≤ m) : Shp m d := ⟨h.lay, Nat.le_trans h.dep l⟩
theorem Shp.ok {n : Nat} {d : PyData} (h : Shp n d) (l : n ≤ 64 := by decide) : SeqAt.shaped d = true := by
  unfold SeqAt.shaped
  rw [h.lay, decide_eq_true (Nat.le_trans h.dep l)]
  rfl
theorem Shp.self {n : Nat} {d : PyData} (h : Shp n d) : PyData.eqv d d = true := PySem.SeqAt.eqv_refl d h.lay
theorem shp_nil {n : Nat} : ∀ d ∈ ([] : List PyData), Shp n d := fun _ h => by cases h
theorem shp_cons {n : Nat} {d : PyData} {ds : List PyData} (h : Shp n d) (h' : ∀ e ∈ ds, Shp n e) : ∀ e ∈ d :: ds, Shp n e := fun e he => by
  rcases List.mem_cons.mp he with rfl | he
  · exact h
  · exact h' e he
abbrev Tms := List (Int × Int)
def tD (z : Int × Int) : PyData := .tuple [.int z.1, .int z.2]
def tmD (ts : Tms) : PyData := .tuple (ts.map tD)
def negT (ts : Tms) : Tms := ts.map fun z => (z.1, -z.2)
/-- a point: what each unknown is worth -/
abbrev Pt := Int → Int
def sumF (ts : Tms) (f : Pt) : Int := (ts.map fun z => z.2 * f z.1).sum
theorem tD_shp (z : Int × Int) : Shp 1 (tD z) := .tup (shp_cons (.int _) (shp_cons (.int _) shp_nil))
theorem tmD_shp (ts : Tms) : Shp 2 (tmD ts) := .tup fun d hd => by
  obtain ⟨z, _, rfl⟩ := List.mem_map.mp hd
  exact tD_shp z
theorem sumF_neg (ts : Tms) (f : Pt) : sumF (negT ts) f = -sumF ts f := by
  induction ts with
  | nil => rfl
  | cons z ts ih =>
    have e1 : sumF (negT (z :: ts)) f = (-z.2) * f z.1 + sumF (negT ts) f := by simp [sumF, negT]
    have e2 : sumF (z :: ts) f = z.2 * f z.1 + sumF ts f := by simp [sumF]
    rw [e1, e2, ih, Int.neg_mul]
    omega
theorem sumF_snoc (ts : Tms) (z : Int × Int) (f : Pt) : sumF (ts ++ [z]) f = sumF ts f + z.2 * f z.1 := by
  simp [sumF]
theorem sumF_take {ts : Tms} {z : Int × Int} {i : Nat} (f : Pt) (h : ts[i]? = some z) : sumF (ts.take (i + 1)) f = sumF (ts.take i) f + z.2 * f z.1 := by
  rw [List.take_add_one, h]
  exact sumF_snoc _ _ _
theorem sumF_congr {ts : Tms} {f g : Pt} (h : ∀ z ∈ ts, f z.1 = g z.1) : sumF ts f = sumF ts g := by
  unfold sumF
  congr 1
  exact List.map_congr_left fun z hz => by rw [h z hz]
theorem map_take_snoc {α β : Type} {l : List α} {f : α → β} {i : Nat} {x : α} (h : l[i]? = some x) : (l.take (i + 1)).map f = (l.take i).map f ++ [f x] := by
  rw [List.take_add_one, h]
  simp
theorem term_at {K : PySem.W.Frag} {H : Hp} {x : V} {z : Int × Int} (h : Im K H x (tD z)) : ∃ q, x = .ref q ∧ SqT K H q [.int z.1, .int z.2] := by
  obtain ⟨q, rfl⟩ := Im.isRef h
  exact ⟨q, rfl, Im.sq h rfl⟩
/-! ### points -/
/-- at q a point is to be read: f v at each v of dom -/
def PtAt (K : PySem.W.Frag) (H : Hp) (q : Addr) (f : Pt) (dom : Int → Prop) : Prop := ∀ v, dom v → (∃ xs, SqT K H q xs ∧ atI xs v = some (.int (f v))) ∨ (∃ xs, H q = some (.lst xs) ∧ atI xs v = some (.int (f v))) ∨ ∃ kvs, H q = some (.dK kvs) ∧ valV kvs (Sum.inl v) = some (.int (f v))
/-- a dict with numbers as keys, read by [..] -/
def rIxDK : R2 := fun x y H Q => ∃ a kvs k v, x = .ref a ∧ y = .int k ∧ H a = some (.dK kvs) ∧ valV kvs (Sum.inl k) = some v ∧ Q v H
open PySem.Spec PyProof.Rows in
theorem ix_dK {X : Cx} : IxR X rIxDK := by
  intro value slice pins s σ H x y v u Q I rx ry h hs
  obtain ⟨a, kvs, k, z, rfl, rfl, hq, he, q⟩ := h
  obtain rfl : v = Value.ref a := rx
  obtain ⟨z1, hd, vs, rel, dd⟩ := dk_of I.hok hq
  obtain ⟨w', hw, rw'⟩ := RelO.some_of (v := z) (o := valueAt vs (Sum.inl k)) (by rw [← he]; exact rel.val _)
  exact tail_any dd.typeIs PySem.F.slot_dict_getitem.lookup (wpAny_getItem_of (kV_is (k := Sum.inl k) ry) dd.mapOf hw ⟨z, H, I.tok _, rw', q⟩) hs
def rPt (K : PySem.W.Frag) : R2 := fun x y H Q => rIxT K x y H Q ∨ (rIxL K x y H Q ∨ rIxDK x y H Q)
theorem ixP {X : Cx} (K : PySem.W.Frag) (h : X.K = K := by rfl) : IxR X (rPt K) := h ▸ ix_tup.or (ix_list.or ix_dK)
def at_ (pt : List Int) : Pt := fun v => pt.getD v.toNat 0
section
variable {K : PySem.W.Frag} {H H' : Hp} {q : Addr} {f : Pt} {dom dom' : Int → Prop} {v : Int} {Q : VK} {pt : List Int} {S : List Addr}
theorem r_pt (h : PtAt K H q f dom) (hv : dom v) (k : Q (.int (f v)) H) : rPt K (.ref q) (.int v) H Q := by
  rcases h v hv with ⟨xs, h1, h2⟩ | ⟨xs, h1, h2⟩ | ⟨kvs, h1, h2⟩
  · exact .inl ⟨q, xs, v, _, rfl, rfl, h1, h2, k⟩
  · exact .inr (.inl ⟨q, xs, v, _, rfl, rfl, SqL.of h1, h2, k⟩)
  · exact .inr (.inr ⟨q, kvs, v, _, rfl, rfl, h1, h2, k⟩)
theorem PtAt.kp (k : Kp S H H') (h : PtAt K H q f dom) (n : ¬ q ∈ S) : PtAt K H' q f dom := fun v hv => by
  rcases h v hv with ⟨xs, h1, h2⟩ | ⟨xs, h1, h2⟩ | ⟨kvs, h1, h2⟩
  · exact .inl ⟨xs, k.tup h1, h2⟩
  · exact .inr (.inl ⟨xs, k.get n h1, h2⟩)
  · exact .inr (.inr ⟨kvs, k.get n h1, h2⟩)
theorem PtAt.kp0 (k : Kp [] H H') (h : PtAt K H q f dom) : PtAt K H' q f dom := h.kp k fun z => nomatch z
theorem PtAt.ofT (h : SqT K H q (pt.map V.int)) : PtAt K H q (at_ pt) fun v => 0 ≤ v ∧ v < pt.length := fun v hv => .inl ⟨_, h, atI_ints hv.1 hv.2⟩
theorem PtAt.ofL (h : H q = some (.lst (pt.map V.int))) : PtAt K H q (at_ pt) fun v => 0 ≤ v ∧ v < pt.length := fun v hv => .inr (.inl ⟨_, h, atI_ints hv.1 hv.2⟩)
theorem PtAt.mono (h : PtAt K H q f dom) (l : ∀ v, dom' v → dom v) : PtAt K H q f dom' := fun v hv => h v (l v hv)
end
def tmBd (ts : Tms) : Prop := ∀ z ∈ ts, -2000000000000000000 < z.2 ∧ z.2 < 2000000000000000000
def spSumF (K : PySem.W.Frag) : Sp := fun vs H Q _ => ∃ (p q : Addr) (ts : Tms) (f : Pt) (dom : Int → Prop), vs = [.ref p, .ref q] ∧ Im K H (.ref p) (tmD ts) ∧ PtAt K H q f dom ∧ (∀ z ∈ ts, dom z.1) ∧ tmBd ts ∧ Q (.int (sumF ts f)) H
theorem spSumF_i {K : PySem.W.Frag} {H : Hp} {Q : VK} {E : XK} {p q : Addr} {ts : Tms} {f : Pt} {dom : Int → Prop} (h1 : Im K H (.ref p) (tmD ts)) (h2 : PtAt K H q f dom) (h3 : ∀ z ∈ ts, dom z.1) (h4 : tmBd ts) (k : Q (.int (sumF ts f)) H) : spSumF K [.ref p, .ref q] H Q E :=
  ⟨p, q, ts, f, dom, rfl, h1, h2, h3, h4, k⟩
def spNegT (K : PySem.W.Frag) : Sp := fun vs H Q _ => ∃ (p : Addr) (ts : Tms), vs = [.ref p] ∧ Im K H (.ref p) (tmD ts) ∧ ts.length ≤ 1000 ∧ ∀ (p' : Addr) (H' : Hp), Im K H' (.ref p') (tmD (negT ts)) → Kp [] H H' → Q (.ref p') H'
local macro_rules | `(tactic| walk_at "cg h") => `(tactic| (first
  | ((with_reducible show PtAt _ _ _ _ _); exact PtAt.kp0 (by assumption) (by walk_at "cg h"))
  | fail))
local macro_rules | `(tactic| walk_at "cg h") => `(tactic| assumption)

/-! ### data: when equal -/
mutual
/-- no bool, no dict, no list within -/
def nb : PyData → Bool
  | .none => true
  | .int _ => true
  | .str _ => true
  | .tuple xs => nbAll xs
  | _ => false
def nbAll : List PyData → Bool
  | [] => true
  | x :: xs => nb x && nbAll xs
end
mutual
theorem eqv_nb : ∀ (d e : PyData), nb d = true → nb e = true → PyData.eqv d e = true → d = e
  | .none, .none, _, _, _ => rfl
  | .int i, .int j, _, _, h => by
    have h' : (i == j) = true := by simpa only [PyData.eqv] using h
    rw [beq_iff_eq.mp h']
  | .str i, .str j, _, _, h => by
    have h' : (i == j) = true := by simpa only [PyData.eqv] using h
    rw [beq_iff_eq.mp h']
  | .tuple xs, .tuple ys, h1, h2, h => by
    rw [eqvAll_nb xs ys (by simpa only [nb] using h1) (by simpa only [nb] using h2) (by simpa only [PyData.eqv] using h)]
  | .none, .int _, _, _, h => by simp [PyData.eqv] at h
  | .none, .str _, _, _, h => by simp [PyData.eqv] at h
  | .none, .tuple _, _, _, h => by simp [PyData.eqv] at h
  | .int _, .none, _, _, h => by simp [PyData.eqv] at h
  | .int _, .str _, _, _, h => by simp [PyData.eqv] at h
  | .int _, .tuple _, _, _, h => by simp [PyData.eqv] at h
  | .str _, .none, _, _, h => by simp [PyData.eqv] at h
  | .str _, .int _, _, _, h => by simp [PyData.eqv] at h
  | .str _, .tuple _, _, _, h => by simp [PyData.eqv] at h
  | .tuple _, .none, _, _, h => by simp [PyData.eqv] at h
  | .tuple _, .int _, _, _, h => by simp [PyData.eqv] at h
  | .tuple _, .str _, _, _, h => by simp [PyData.eqv] at h
  | .bool _, _, h, _, _ => by simp [nb] at h
  | .list _, _, h, _, _ => by simp [nb] at h
  | .dict _, _, h, _, _ => by simp [nb] at h
  | _, .bool _, _, h, _ => by simp [nb] at h
  | _, .list _, _, h, _ => by simp [nb] at h
  | _, .dict _, _, h, _ => by simp [nb] at h
theorem eqvAll_nb : ∀ (ds es : List PyData), nbAll ds = true → nbAll es = true → PyData.eqvAll ds es = true → ds = es
  | [], [], _, _, _ => rfl
  | [], _ :: _, _, _, h => by simp [PyData.eqvAll] at h
  | _ :: _, [], _, _, h => by simp [PyData.eqvAll] at h
  | d :: ds, e :: es, h1, h2, h => by
    simp only [nbAll, Bool.and_eq_true] at h1 h2
    simp only [PyData.eqvAll, Bool.and_eq_true] at h
    rw [eqv_nb d e h1.1 h2.1 h.1, eqvAll_nb ds es h1.2 h2.2 h.2]
end
theorem nbAll_of {ds : List PyData} (h : ∀ d ∈ ds, nb d = true) : nbAll ds = true := by
  induction ds with
  | nil => rfl
  | cons d ds ih => simp only [nbAll, h d List.mem_cons_self, ih fun e he => h e (List.mem_cons_of_mem _ he), Bool.and_self]
/-- an encoding whose values are equal exactly if the data are -/
theorem eqv_dec {α : Type} [DecidableEq α] {f : α → PyData} (hf : ∀ a b, f a = f b → a = b) (hn : ∀ a, nb (f a) = true) (hs : ∀ a, (f a).canLay0 = true) (a b : α) : PyData.eqv (f a) (f b) = decide (a = b) := by
  by_cases h : a = b
  · subst h
    rw [PySem.SeqAt.eqv_refl _ (hs a), decide_eq_true rfl]
  · rw [decide_eq_false h]
    cases q : PyData.eqv (f a) (f b) with
    | false => rfl
    | true => exact absurd (hf a b (eqv_nb _ _ (hn a) (hn b) q)) h
theorem map_inj {α β : Type} {f : α → β} (hf : ∀ a b, f a = f b → a = b) : ∀ {xs ys : List α}, xs.map f = ys.map f → xs = ys
  | [], [], _ => rfl
  | [], _ :: _, h => by simp at h
  | _ :: _, [], h => by simp at h
  | x :: xs, y :: ys, h => by
    simp only [List.map_cons, List.cons.injEq] at h
    rw [hf x y h.1, map_inj hf h.2]
theorem tD_inj (a b : Int × Int) (h : tD a = tD b) : a = b := by
  simp only [tD, PyData.tuple.injEq, List.cons.injEq, PyData.int.injEq, and_true] at h
  exact Prod.ext h.1 h.2
theorem tmD_inj (a b : Tms) (h : tmD a = tmD b) : a = b := by
  simp only [tmD, PyData.tuple.injEq] at h
  exact map_inj tD_inj h
theorem tmD_nb (a : Tms) : nb (tmD a) = true := by
  simp only [tmD, nb]
  exact nbAll_of fun d hd => by
    obtain ⟨z, _, rfl⟩ := List.mem_map.mp hd
    rfl
theorem tmD_eqv (a b : Tms) : PyData.eqv (tmD a) (tmD b) = decide (a = b) := eqv_dec tmD_inj tmD_nb (fun a => (tmD_shp a).lay) a b
/-! ### literals and facts -/
structure Lit where
  v : Int
  r : Rel
  a : Int
  deriving DecidableEq
def Lit.d (l : Lit) : PyData := litD l.v l.r l.a
theorem Rel.s_inj (a b : Rel) (h : a.s = b.s) : a = b := by
  have e : (decide (a = b) || !decide (a.s = b.s)) = true := by
    cases a <;> cases b <;> decide +kernel
  rw [h, decide_eq_true rfl, Bool.not_true, Bool.or_false] at e
  exact of_decide_eq_true e
theorem Lit.d_inj (a b : Lit) (h : a.d = b.d) : a = b := by
  simp only [Lit.d, litD, PyData.tuple.injEq, List.cons.injEq, PyData.int.injEq, PyData.str.injEq, and_true] at h
  obtain ⟨h1, h2, h3⟩ := h
  cases a
  cases b
  simp only at h1 h2 h3
  rw [h1, Rel.s_inj _ _ h2, h3]
theorem Lit.shp (l : Lit) : Shp 1 l.d := .tup (shp_cons (.int _) (shp_cons (.str (Rel.ok _)) (shp_cons (.int _) shp_nil)))
theorem Lit.d_nb (l : Lit) : nb l.d = true := rfl
theorem Lit.eqv (a b : Lit) : PyData.eqv a.d b.d = decide (a = b) := eqv_dec Lit.d_inj Lit.d_nb (fun a => (Lit.shp a).lay) a b
def litsD (ls : List Lit) : PyData := .tuple (ls.map Lit.d)
theorem litsD_shp (ls : List Lit) : Shp 2 (litsD ls) := .tup fun d hd => by
  obtain ⟨z, _, rfl⟩ := List.mem_map.mp hd
  exact Lit.shp z
def Lit.h (l : Lit) (f : Pt) : Bool := l.r.h (f l.v) l.a
theorem lit_mk {K : PySem.W.Frag} {H : Hp} {p : Addr} {v a : Int} {r : Rel} (h : LitAt K H p v r a) : Im K H (.ref p) (Lit.d ⟨v, r, a⟩) := .tup h (.cons (.int _) (.cons (.str _) (.cons (.int _) .nil)))
theorem lit_at {K : PySem.W.Frag} {H : Hp} {x : V} {l : Lit} (h : Im K H x l.d) : ∃ q, x = .ref q ∧ LitAt K H q l.v l.r l.a := by
  obtain ⟨q, rfl⟩ := Im.isRef h
  exact ⟨q, rfl, Im.sq h rfl⟩
theorem room65 {k : Nat} {A : Around} (r : Room k A) : A.units + 65 < cLine := by have := r.un; omega
/-! ### x in a tuple of data -/
section
variable {X : Cx}
def rInDT (K : PySem.W.Frag) : R2 := fun x y H Q => ∃ d ds, Dp K H x d ∧ Dp K H y (.tuple ds) ∧ SeqAt.shaped d = true ∧ SeqAt.shaped (.tuple ds) = true ∧ Q (.bl (ds.any fun z => PyData.eqv z d)) H
theorem cg_inDT (hu : X.A.units + 65 < cLine) : OpR X (compareOp .In) (rInDT X.K) := by
  intro pins s σ H x y v u Q I rx ry h
  obtain ⟨d, ds, hd, he, sd, se, q⟩ := h
  obtain ⟨as, r1⟩ := Dp.reads I d x v hd rx
  obtain ⟨bs, r2⟩ := Dp.reads I (.tuple ds) y u he ry
  exact SeqAt.in_tuple_reads r2 r1 (by have q := SeqAt.canLay_of_shaped se; simpa only [PyData.canLay0] using q) (SeqAt.canLay_of_shaped sd) (PyProof.Rows.room_in_shaped sd hu) ⟨.bl _, H, I, rfl, q⟩
theorem inDT (K : PySem.W.Frag) {k : Nat} {A : Around} (r : Room k A) (h : X.K = K := by rfl) (ha : X.A = A := by rfl) : OpR X (compareOp .In) (rInDT K) := h ▸ cg_inDT (by rw [ha]; exact room65 r)
end
theorem intsD_inj (a b : List Int) (h : intsD a = intsD b) : a = b := by
  simp only [intsD, PyData.tuple.injEq] at h
  exact map_inj (fun x y e => by simpa using e) h
theorem intsD_nb (a : List Int) : nb (intsD a) = true := by
  simp only [intsD, nb]
  exact nbAll_of fun d hd => by
    obtain ⟨z, _, rfl⟩ := List.mem_map.mp hd
    rfl
theorem intsD_shp (a : List Int) : Shp 1 (intsD a) := .tup fun d hd => by
  obtain ⟨z, _, rfl⟩ := List.mem_map.mp hd
  exact .int z
theorem intsD_eqv (a b : List Int) : PyData.eqv (intsD a) (intsD b) = decide (a = b) := eqv_dec intsD_inj intsD_nb (fun a => (intsD_shp a).lay) a b
theorem any_in {α : Type} [DecidableEq α] {d : α → PyData} (hd : ∀ a b, PyData.eqv (d a) (d b) = decide (a = b)) (as : List α) (a : α) : ((as.map d).any fun z => PyData.eqv z (d a)) = decide (a ∈ as) := by
  rw [List.any_map]
  have e : ((fun z => PyData.eqv z (d a)) ∘ d) = fun b => decide (b = a) := by
    funext b
    exact hd b a
  rw [e, Bool.eq_iff_iff]
  simp


/-! ### bodies -/
inductive Body where
  | row (ts : Tms) (r : Rel) (n : Int)
  | any (ls : List Lit)
  | when (l : Lit) (ts : Tms) (r : Rel) (n : Int)
  | diff (us : List Int)
  | table (us : List Int) (rows : List (List Int))
  | elem (x : Int) (es : List Int) (y : Int)
  | times (x y z : Int)
  deriving DecidableEq
def rowsD (rows : List (List Int)) : PyData := .tuple (rows.map intsD)
def Body.d : Body → PyData
  | .row ts r n => .tuple [.str (Str.ofString "row"), tmD ts, .str r.s, .int n]
  | .any ls => .tuple [.str (Str.ofString "any"), litsD ls]
  | .when l ts r n => .tuple [.str (Str.ofString "when"), l.d, tmD ts, .str r.s, .int n]
  | .diff us => .tuple [.str (Str.ofString "different"), intsD us]
  | .table us rows => .tuple [.str (Str.ofString "table"), intsD us, rowsD rows]
  | .elem x es y => .tuple [.str (Str.ofString "element"), .int x, intsD es, .int y]
  | .times x y z => .tuple [.str (Str.ofString "times"), .int x, .int y, .int z]
def Body.vars : Body → List Int
  | .row ts _ _ => ts.map (·.1)
  | .any ls => ls.map (·.v)
  | .when l ts _ _ => l.v :: ts.map (·.1)
  | .diff us => us
  | .table us _ => us
  | .elem x _ y => [x, y]
  | .times x y z => [x, y, z]
def Body.h (f : Pt) : Body → Bool
  | .row ts r n => r.h (sumF ts f) n
  | .any ls => ls.any fun l => l.h f
  | .when l ts r n => !l.h f || r.h (sumF ts f) n
  | .diff us => decide (us.map f).Nodup
  | .table us rows => decide (us.map f ∈ rows)
  | .elem x es y => decide (0 ≤ f x) && (decide (f x < es.length) && decide (es.getD (f x).toNat 0 = f y))
  | .times x y z => decide (f x * f y = f z)
/-- sizes for the walk -/
def Body.bd : Body → Prop
  | .row ts _ _ => tmBd ts ∧ ts.length ≤ 62
  | .any ls => ls.length ≤ 62
  | .when _ ts _ _ => tmBd ts ∧ ts.length ≤ 62
  | .diff us => us.length ≤ 62
  | .table us rows => us.length ≤ 62 ∧ rows.length ≤ 1000
  | .elem _ es _ => es.length ≤ 1000
  | .times _ _ _ => True
theorem any_congr' {α : Type} {as : List α} {f g : α → Bool} (h : ∀ a ∈ as, f a = g a) : as.any f = as.any g := by
  induction as with
  | nil => rfl
  | cons a as ih => rw [List.any_cons, List.any_cons, h a List.mem_cons_self, ih fun b hb => h b (List.mem_cons_of_mem _ hb)]
theorem Body.bd_vars {b : Body} (h : b.bd) : b.vars.length ≤ 63 := by
  cases b <;> simp only [Body.bd, Body.vars, List.length_map, List.length_cons, List.length_nil] at h ⊢ <;> omega
theorem Body.h_congr {b : Body} {f g : Pt} (h : ∀ v ∈ b.vars, f v = g v) : b.h f = b.h g := by
  have m : ∀ us : List Int, (∀ v ∈ us, f v = g v) → us.map f = us.map g := fun us h => List.map_congr_left h
  have s : ∀ ts : Tms, (∀ v ∈ ts.map (·.1), f v = g v) → sumF ts f = sumF ts g := fun ts h => sumF_congr fun z hz => h _ (List.mem_map.mpr ⟨z, hz, rfl⟩)
  cases b with
  | row ts r n => simp only [Body.h, s ts h]
  | any ls =>
    simp only [Body.h]
    refine any_congr' fun l hl => ?_
    simp only [Lit.h, h l.v (List.mem_map.mpr ⟨l, hl, rfl⟩)]
  | when l ts r n =>
    simp only [Body.h, Lit.h, h l.v List.mem_cons_self, s ts fun v hv => h v (List.mem_cons_of_mem _ hv)]
  | diff us => simp only [Body.h, m us h]
  | table us rows => simp only [Body.h, m us h]
  | elem x es y => simp only [Body.h, h x (by simp [Body.vars]), h y (by simp [Body.vars])]
  | times x y z => simp only [Body.h, h x (by simp [Body.vars]), h y (by simp [Body.vars]), h z (by simp [Body.vars])]
theorem rowsD_shp (rows : List (List Int)) : Shp 2 (rowsD rows) := .tup fun d hd => by
  obtain ⟨z, _, rfl⟩ := List.mem_map.mp hd
  exact intsD_shp z
theorem Body.shp (b : Body) : Shp 3 b.d := by
  have t1 : ∀ ts, Shp 2 (tmD ts) := tmD_shp
  cases b with
  | row ts r n => exact .tup (shp_cons (.str (by decide +kernel)) (shp_cons (tmD_shp ts) (shp_cons (.str (Rel.ok r)) (shp_cons (.int _) shp_nil))))
  | any ls => exact .tup (shp_cons (.str (by decide +kernel)) (shp_cons (litsD_shp ls) shp_nil))
  | when l ts r n => exact .tup (shp_cons (.str (by decide +kernel)) (shp_cons ((Lit.shp l).mono (by decide)) (shp_cons (tmD_shp ts) (shp_cons (.str (Rel.ok r)) (shp_cons (.int _) shp_nil)))))
  | diff us => exact .tup (shp_cons (.str (by decide +kernel)) (shp_cons ((intsD_shp us).mono (by decide)) shp_nil))
  | table us rows => exact .tup (shp_cons (.str (by decide +kernel)) (shp_cons ((intsD_shp us).mono (by decide)) (shp_cons (rowsD_shp rows) shp_nil)))
  | elem x es y => exact .tup (shp_cons (.str (by decide +kernel)) (shp_cons (.int _) (shp_cons ((intsD_shp es).mono (by decide)) (shp_cons (.int _) shp_nil))))
  | times x y z => exact .tup (shp_cons (.str (by decide +kernel)) (shp_cons (.int _) (shp_cons (.int _) (shp_cons (.int _) shp_nil))))
abbrev BodyAt (K : PySem.W.Frag) (H : Hp) (p : Addr) (b : Body) : Prop := Im K H (.ref p) b.d
theorem ImAll.c {K : PySem.W.Frag} {H : Hp} {xs : List V} {d : PyData} {ds : List PyData} (h : ImAll K H xs (d :: ds)) : ∃ x ys, xs = x :: ys ∧ Im K H x d ∧ ImAll K H ys ds := by
  cases h with
  | cons h a => exact ⟨_, _, rfl, h, a⟩
theorem ImAll.n {K : PySem.W.Frag} {H : Hp} {xs : List V} (h : ImAll K H xs []) : xs = [] := by
  cases h
  rfl
section
variable {K : PySem.W.Frag} {H : Hp} {p : Addr} {ts : Tms} {n x y z : Int} {ls : List Lit} {l : Lit} {r : Rel} {us es : List Int} {rows : List (List Int)}
theorem b_row (h : BodyAt K H p (.row ts r n)) : ∃ q, SqT K H p [.str (Str.ofString "row"), .ref q, .str r.s, .int n] ∧ Im K H (.ref q) (tmD ts) := by
  obtain ⟨_, h1, h2⟩ := Im.open h
  obtain ⟨_, _, rfl, a1, h2⟩ := h2.c
  obtain ⟨_, _, rfl, a2, h2⟩ := h2.c
  obtain ⟨_, _, rfl, a3, h2⟩ := h2.c
  obtain ⟨_, _, rfl, a4, h2⟩ := h2.c
  obtain rfl := h2.n
  obtain ⟨q, rfl⟩ := a2.isRef
  cases a1; cases a3; cases a4
  exact ⟨q, h1, a2⟩
theorem b_any (h : BodyAt K H p (.any ls)) : ∃ q, SqT K H p [.str (Str.ofString "any"), .ref q] ∧ Im K H (.ref q) (litsD ls) := by
  obtain ⟨_, h1, h2⟩ := Im.open h
  obtain ⟨_, _, rfl, a1, h2⟩ := h2.c
  obtain ⟨_, _, rfl, a2, h2⟩ := h2.c
  obtain rfl := h2.n
  obtain ⟨q, rfl⟩ := a2.isRef
  cases a1
  exact ⟨q, h1, a2⟩
theorem b_when (h : BodyAt K H p (.when l ts r n)) : ∃ q1 q, SqT K H p [.str (Str.ofString "when"), .ref q1, .ref q, .str r.s, .int n] ∧ LitAt K H q1 l.v l.r l.a ∧ Im K H (.ref q) (tmD ts) := by
  obtain ⟨_, h1, h2⟩ := Im.open h
  obtain ⟨_, _, rfl, a1, h2⟩ := h2.c
  obtain ⟨_, _, rfl, a0, h2⟩ := h2.c
  obtain ⟨_, _, rfl, a2, h2⟩ := h2.c
  obtain ⟨_, _, rfl, a3, h2⟩ := h2.c
  obtain ⟨_, _, rfl, a4, h2⟩ := h2.c
  obtain rfl := h2.n
  obtain ⟨q, rfl⟩ := a2.isRef
  obtain ⟨q1, rfl, L⟩ := lit_at a0
  cases a1; cases a3; cases a4
  exact ⟨q1, q, h1, L, a2⟩
theorem b_diff (h : BodyAt K H p (.diff us)) : ∃ q, SqT K H p [.str (Str.ofString "different"), .ref q] ∧ SqT K H q (us.map V.int) := by
  obtain ⟨_, h1, h2⟩ := Im.open h
  obtain ⟨_, _, rfl, a1, h2⟩ := h2.c
  obtain ⟨_, _, rfl, a2, h2⟩ := h2.c
  obtain rfl := h2.n
  obtain ⟨q, rfl⟩ := a2.isRef
  cases a1
  exact ⟨q, h1, a2.intsT⟩
theorem b_table (h : BodyAt K H p (.table us rows)) : ∃ q q2, SqT K H p [.str (Str.ofString "table"), .ref q, .ref q2] ∧ SqT K H q (us.map V.int) ∧ Im K H (.ref q2) (rowsD rows) := by
  obtain ⟨_, h1, h2⟩ := Im.open h
  obtain ⟨_, _, rfl, a1, h2⟩ := h2.c
  obtain ⟨_, _, rfl, a2, h2⟩ := h2.c
  obtain ⟨_, _, rfl, a3, h2⟩ := h2.c
  obtain rfl := h2.n
  obtain ⟨q, rfl⟩ := a2.isRef
  obtain ⟨q2, rfl⟩ := a3.isRef
  cases a1
  exact ⟨q, q2, h1, a2.intsT, a3⟩
theorem b_elem (h : BodyAt K H p (.elem x es y)) : ∃ q, SqT K H p [.str (Str.ofString "element"), .int x, .ref q, .int y] ∧ SqT K H q (es.map V.int) := by
  obtain ⟨_, h1, h2⟩ := Im.open h
  obtain ⟨_, _, rfl, a1, h2⟩ := h2.c
  obtain ⟨_, _, rfl, a3, h2⟩ := h2.c
  obtain ⟨_, _, rfl, a2, h2⟩ := h2.c
  obtain ⟨_, _, rfl, a4, h2⟩ := h2.c
  obtain rfl := h2.n
  obtain ⟨q, rfl⟩ := a2.isRef
  cases a1; cases a3; cases a4
  exact ⟨q, h1, a2.intsT⟩
theorem b_times (h : BodyAt K H p (.times x y z)) : SqT K H p [.str (Str.ofString "times"), .int x, .int y, .int z] := Im.sq h rfl
end
/-- a list of ints built by hand at l -/
def spUnkn (K : PySem.W.Frag) : Sp := fun vs H Q _ => ∃ (p : Addr) (b : Body), vs = [.ref p] ∧ BodyAt K H p b ∧ b.bd ∧ ∀ (l : Addr) (ns : List Int) (H' : Hp), H l = none → H' l = some (.lst (ns.map V.int)) → ns.Pairwise (· < ·) → (∀ k, k ∈ ns ↔ k ∈ b.vars) → Kp [] H H' → Q (.ref l) H'
def ptBd (f : Pt) (dom : Int → Prop) : Prop := ∀ v, dom v → -1000000000000 < f v ∧ f v < 1000000000000
def spHolds (K : PySem.W.Frag) : Sp := fun vs H Q _ => ∃ (p q : Addr) (b : Body) (f : Pt) (dom : Int → Prop), vs = [.ref p, .ref q] ∧ BodyAt K H p b ∧ b.bd ∧ PtAt K H q f dom ∧ ptBd f dom ∧ (∀ v ∈ b.vars, dom v) ∧ ∀ H', Kp [] H H' → Q (.bl (b.h f)) H'
def rCatL (K : PySem.W.Frag) : R2 := fun x y H Q => ∃ l b xs zs, x = .ref l ∧ y = .ref b ∧ H l = some (.lst xs) ∧ H b = some (.lst zs) ∧ xs.length + zs.length ≤ 10000 ∧ ∀ p H2, H p = none → H2 p = some (.lst (xs ++ zs)) → Kp [] H H2 → Q (.ref p) H2
theorem op_catL {X : Cx} (K : PySem.W.Frag) : OpR X (binaryOp .Add) (rCatL K) := fun pins s σ H x y v u Q I rx ry ⟨l, b, xs, zs, e1, e2, h1, h2, hz, q⟩ =>
  op_cat pins s σ H x y v u Q I rx ry ⟨l, b, xs, zs, e1, e2, h1, h2, by rw [sizeLine_eq]; omega, fun p hp => q p _ hp upd_same (Kp.new hp)⟩
theorem r_cat {K : PySem.W.Frag} {H : Hp} {Q : VK} {l b : Addr} {xs zs : List V} (h1 : H l = some (.lst xs)) (h2 : H b = some (.lst zs)) (hz : xs.length + zs.length ≤ 10000) (q : ∀ p H2, H p = none → H2 p = some (.lst (xs ++ zs)) → Kp [] H H2 → Q (.ref p) H2) : rCatL K (.ref l) (.ref b) H Q :=
  ⟨l, b, xs, zs, rfl, rfl, h1, h2, hz, q⟩

/-! ### the numbers of a range that are in a list -/
theorem sorted_ext : ∀ {xs ys : List Int}, xs.Pairwise (· < ·) → ys.Pairwise (· < ·) → (∀ k, k ∈ xs ↔ k ∈ ys) → xs = ys
  | [], [], _, _, _ => rfl
  | [], y :: ys, _, _, h => by simpa using (h y).2 List.mem_cons_self
  | x :: xs, [], _, _, h => by simpa using (h x).1 List.mem_cons_self
  | x :: xs, y :: ys, h1, h2, h => by
    rw [List.pairwise_cons] at h1 h2
    have e : x = y := by
      rcases List.mem_cons.mp ((h x).1 List.mem_cons_self) with q | q
      · exact q
      · rcases List.mem_cons.mp ((h y).2 List.mem_cons_self) with q2 | q2
        · exact q2.symm
        · have a := h1.1 _ q2
          have b := h2.1 _ q
          omega
    subst e
    rw [sorted_ext h1.2 h2.2 fun k => ?_]
    constructor
    · intro hk
      rcases List.mem_cons.mp ((h k).1 (List.mem_cons_of_mem _ hk)) with q | q
      · subst q
        exact absurd (h1.1 _ hk) (Int.lt_irrefl _)
      · exact q
    · intro hk
      rcases List.mem_cons.mp ((h k).2 (List.mem_cons_of_mem _ hk)) with q | q
      · subst q
        exact absurd (h2.1 _ hk) (Int.lt_irrefl _)
      · exact q
def numsOf (us : List Int) (i : Nat) : List Int := ((List.range i).map Int.ofNat).filter fun v => decide (v ∈ us)
theorem numsOf_succ (us : List Int) (i : Nat) : numsOf us (i + 1) = numsOf us i ++ (if decide (((i : Nat) : Int) ∈ us) = true then [((i : Nat) : Int)] else []) := by
  unfold numsOf
  rw [List.range_succ, List.map_append, List.filter_append]
  congr 1
  simp only [List.map_cons, List.map_nil, List.filter_cons, List.filter_nil]
  rfl
theorem numsOf_le (us : List Int) (i : Nat) : (numsOf us i).length ≤ i := by
  have q := List.length_filter_le (fun v => decide (v ∈ us)) ((List.range i).map Int.ofNat)
  rw [List.length_map, List.length_range] at q
  exact q
theorem numsOf_mem {us : List Int} {i : Nat} {k : Int} : k ∈ numsOf us i ↔ (0 ≤ k ∧ k < i) ∧ k ∈ us := by
  unfold numsOf
  rw [List.mem_filter, List.mem_map]
  simp only [decide_eq_true_eq, List.mem_range]
  constructor
  · rintro ⟨⟨j, hj, rfl⟩, h⟩
    exact ⟨⟨Int.natCast_nonneg j, by show (j : Int) < i; omega⟩, h⟩
  · rintro ⟨⟨h0, h1⟩, h⟩
    exact ⟨⟨k.toNat, by omega, by show ((k.toNat : Nat) : Int) = k; omega⟩, h⟩
theorem numsOf_asc (us : List Int) (i : Nat) : (numsOf us i).Pairwise (· < ·) := by
  refine List.Pairwise.filter _ ?_
  rw [List.pairwise_map]
  exact List.pairwise_lt_range.imp fun {a b} h => by show (a : Int) < b; omega
theorem intsL_dp {K : PySem.W.Frag} {H : Hp} {l : Addr} {ns : List Int} (h : H l = some (.lst (ns.map V.int))) : Dp K H (.ref l) (.list (ns.map PyData.int)) := .lst (SqL.of h) (imInts ns).dp
theorem intsL_shp (ns : List Int) : Shp 1 (.list (ns.map PyData.int)) := .list fun d hd => by
  obtain ⟨z, _, rfl⟩ := List.mem_map.mp hd
  exact .int z

/-! ### bodies that fit; the law's own -/
def litFit (m : Int) (l : Lit) : Prop := 0 ≤ l.v ∧ l.v < m ∧ -1001 ≤ l.a ∧ l.a ≤ 1001
def tmFit (m : Int) (ts : Tms) : Prop := ts.length ≤ 60 ∧ (ts.map (·.1)).Pairwise (· < ·) ∧ ∀ z ∈ ts, 0 ≤ z.1 ∧ z.1 < m ∧ z.2 ≠ 0 ∧ -1000000 ≤ z.2 ∧ z.2 ≤ 1000000
def numFit (m : Int) (us : List Int) : Prop := us.Nodup ∧ ∀ u ∈ us, 0 ≤ u ∧ u < m
def entFit (es : List Int) : Prop := ∀ e ∈ es, -1000 ≤ e ∧ e ≤ 1000
def linFit (m : Int) (ts : Tms) (r : Rel) (n : Int) : Prop := tmFit m ts ∧ r ≠ .ne ∧ -1000000000 ≤ n ∧ n ≤ 1000000000
def Body.fit (m : Int) : Body → Prop
  | .row ts r n => linFit m ts r n
  | .any ls => (1 ≤ ls.length ∧ ls.length ≤ 40) ∧ ls.Nodup ∧ ∀ l ∈ ls, litFit m l
  | .when l ts r n => litFit m l ∧ linFit m ts r n
  | .diff us => (2 ≤ us.length ∧ us.length ≤ 20) ∧ numFit m us
  | .table us rows => ((1 ≤ us.length ∧ us.length ≤ 6) ∧ numFit m us) ∧ (1 ≤ rows.length ∧ rows.length ≤ 200) ∧ ∀ r ∈ rows, r.length = us.length ∧ entFit r
  | .elem x es y => ((0 ≤ x ∧ x < m) ∧ (0 ≤ y ∧ y < m)) ∧ (1 ≤ es.length ∧ es.length ≤ 60) ∧ entFit es
  | .times x y z => (0 ≤ x ∧ x < m) ∧ (0 ≤ y ∧ y < m) ∧ (0 ≤ z ∧ z < m)
theorem tmFit.bd {m : Int} {ts : Tms} (h : tmFit m ts) : tmBd ts := fun z hz => by
  have q := h.2.2 z hz
  omega
theorem Body.fit_bd {m : Int} {b : Body} (h : b.fit m) : b.bd := by
  cases b with
  | row ts r n => exact ⟨h.1.bd, by have := h.1.1; omega⟩
  | any ls => exact (show ls.length ≤ 62 by have := h.1.2; omega)
  | when l ts r n => exact ⟨h.2.1.bd, by have := h.2.1.1; omega⟩
  | diff us => exact (show us.length ≤ 62 by have := h.1.2; omega)
  | table us rows => exact ⟨by have := h.1.1.2; omega, by have := h.2.1.2; omega⟩
  | elem x es y => exact (show es.length ≤ 1000 by have := h.2.1.2; omega)
  | times x y z => trivial
theorem Body.fit_vars {m : Int} {b : Body} (h : b.fit m) : ∀ v ∈ b.vars, 0 ≤ v ∧ v < m := by
  have t : ∀ ts, tmFit m ts → ∀ v ∈ ts.map (fun z : Int × Int => z.1), 0 ≤ v ∧ v < m := fun ts h v hv => by
    obtain ⟨z, hz, rfl⟩ := List.mem_map.mp hv
    have q := h.2.2 z hz
    exact ⟨q.1, q.2.1⟩
  cases b with
  | row ts r n => exact t ts h.1
  | any ls =>
    intro v hv
    obtain ⟨l, hl, rfl⟩ := List.mem_map.mp hv
    have q := h.2.2 l hl
    exact ⟨q.1, q.2.1⟩
  | when l ts r n =>
    intro v hv
    rcases List.mem_cons.mp hv with rfl | hv
    · exact ⟨h.1.1, h.1.2.1⟩
    · exact t ts h.2.1 v hv
  | diff us => exact h.2.2
  | table us rows => exact h.1.2.2
  | elem x es y =>
    intro v hv
    simp only [Body.vars, List.mem_cons, List.not_mem_nil, or_false] at hv
    rcases hv with rfl | rfl
    · exact h.1.1
    · exact h.1.2
  | times x y z =>
    intro v hv
    simp only [Body.vars, List.mem_cons, List.not_mem_nil, or_false] at hv
    rcases hv with rfl | rfl | rfl
    · exact h.1
    · exact h.2.1
    · exact h.2.2
/-- the law's terms: small -/
def tmLaw (m : Int) (ts : Tms) : Prop := (∀ z ∈ ts, 0 ≤ z.1 ∧ z.1 < m ∧ z.2 ≠ 0 ∧ -3 ≤ z.2 ∧ z.2 ≤ 3) ∧ (ts.map (·.1)).Pairwise (· < ·) ∧ (ts.length : Int) ≤ m
theorem tmLaw.fit {m : Int} {ts : Tms} (h : tmLaw m ts) (hm : m ≤ 60) : tmFit m ts := ⟨by have := h.2.2; omega, h.2.1, fun z hz => by have q := h.1 z hz; omega⟩
def spLawTerms (K : PySem.W.Frag) : Sp := fun vs H Q _ => ∃ (t c : Addr) (m : Int), vs = [.ref t, .int m] ∧ Tp t c H ∧ 0 ≤ m ∧ m ≤ 60 ∧ ∀ (p : Addr) (ts : Tms) (H' : Hp), Im K H' (.ref p) (tmD ts) → tmLaw m ts → Tp t c H' → Kp [t] H H' → Q (.ref p) H'
def spLawLiteral (K : PySem.W.Frag) : Sp := fun vs H Q _ => ∃ (t c : Addr) (m : Int), vs = [.ref t, .int m] ∧ Tp t c H ∧ 1 ≤ m ∧ m ≤ 60 ∧ ∀ (p : Addr) (l : Lit) (H' : Hp), LitAt K H' p l.v l.r l.a → litFit m l → Tp t c H' → Kp [t] H H' → Q (.ref p) H'
def spLawSome (K : PySem.W.Frag) : Sp := fun vs H Q _ => ∃ (t c : Addr) (m k : Int), vs = [.ref t, .int m, .int k] ∧ Tp t c H ∧ 0 ≤ k ∧ k ≤ m ∧ m ≤ 60 ∧ ∀ (p : Addr) (us : List Int) (H' : Hp), SqT K H' p (us.map V.int) → numFit m us → k ≤ us.length → (us.length : Int) ≤ m → Tp t c H' → Kp [t] H H' → Q (.ref p) H'
def spLawBody (K : PySem.W.Frag) : Sp := fun vs H Q _ => ∃ (t c : Addr) (m : Int), vs = [.ref t, .int m] ∧ Tp t c H ∧ 1 ≤ m ∧ m ≤ 20 ∧ ∀ (p : Addr) (b : Body) (H' : Hp), BodyAt K H' p b → b.fit m → Tp t c H' → Kp [t] H H' → Q (.ref p) H'
theorem notInDL {X : Cx} (K : PySem.W.Frag) {k : Nat} {A : Around} (r : Room k A) (h : X.K = K := by rfl) (ha : X.A = A := by rfl) : OpR X (compareOp .NotIn) (rNotInD K) := h ▸ op_notInD (by rw [ha]; exact room65 r)
theorem inDL {X : Cx} (K : PySem.W.Frag) {k : Nat} {A : Around} (r : Room k A) (h : X.K = K := by rfl) (ha : X.A = A := by rfl) : OpR X (compareOp .In) (rInD K) := h ▸ op_inD (by rw [ha]; exact room65 r)
theorem slA {X : Cx} (K : PySem.W.Frag) (h : X.K = K := by rfl) : SlR X (rSlA K) := h ▸ sl_tupA
theorem cut_to {xs : List V} {n : Nat} : cutV xs none (some (n : Int)) = xs.take n := by
  unfold cutV
  rw [HT.sIx_nat, HT.sIx_none, List.drop_zero, Nat.sub_zero]
  by_cases h : n ≤ xs.length
  · rw [Nat.min_eq_left h]
  · rw [Nat.min_eq_right (by omega), List.take_of_length_le (Nat.le_refl _), List.take_of_length_le (by omega)]
/-- t[:n] -/
theorem r_slA {K : PySem.W.Frag} {H : Hp} {Q : VK} {p : Addr} {xs : List V} {n : Nat} (h : SqT K H p xs) (q : ∀ l H2, SqT K H2 l (xs.take n) → Kp [] H H2 → Q (.ref l) H2) : rSlA K (.ref p) none (some (n : Int)) H Q := by
  refine ⟨p, xs, rfl, h, fun e => ?_, fun _ l hl => ?_⟩
  · have e2 := e.2
    rw [HT.sIx_nat] at e2
    refine q p H ?_ .refl
    rw [List.take_of_length_le (by omega)]
    exact h
  · rw [cut_to]
    exact q l _ (SqT.of upd_same) (Kp.new hl)
/-- the ints of a range -/
def rgI (a b : Int) : List Int := (List.range (b - a).toNat).map fun i => a + ((i : Nat) : Int)
theorem rgV_eq (a b : Int) : rgV a b = (rgI a b).map V.int := by
  unfold rgV rgI
  rw [List.map_map]
  rfl
theorem rgI_mem {a b k : Int} : k ∈ rgI a b ↔ a ≤ k ∧ k < b := by
  unfold rgI
  rw [List.mem_map]
  constructor
  · rintro ⟨i, hi, rfl⟩
    rw [List.mem_range] at hi
    omega
  · intro h
    exact ⟨(k - a).toNat, by rw [List.mem_range]; omega, by omega⟩
theorem rgI_asc (a b : Int) : (rgI a b).Pairwise (· < ·) := by
  unfold rgI
  rw [List.pairwise_map]
  exact List.pairwise_lt_range.imp fun {a b} h => by omega
theorem rgI_len (a b : Int) : (rgI a b).length = (b - a).toNat := by
  unfold rgI
  rw [List.length_map, List.length_range]
def lstRg (a b : Int) (H : Hp) (Q : VK) : Prop := RgOk a b ∧ ∀ q, H q = none → Q (.ref q) (upd H q (.lst (rgV a b)))
instance s_lstRg {te : St → Hp → (Int → Int → Hp → Prop) → Prop} {σ : St} {H : Hp} {Q : VK} : Stp (tLstRg te σ H Q) (te σ H fun a b H1 => lstRg a b H1 Q) := ⟨id⟩
instance s_rg1 {ta : TE} {σ : St} {H : Hp} {R : Int → Int → Hp → Prop} : Stp (tRg1 ta σ H R) (ta σ H fun x H1 => asI x fun n => R 0 n H1) := ⟨id⟩
def asI2 (x y : V) (R : Int → Int → Prop) : Prop := ∃ i j, x = .int i ∧ y = .int j ∧ R i j
instance s_asI2 {i j : Int} {R : Int → Int → Prop} : Stp (asI2 (.int i) (.int j) R) (R i j) := ⟨fun h => ⟨i, j, rfl, rfl, h⟩⟩
instance s_rg2 {ta tb : TE} {σ : St} {H : Hp} {R : Int → Int → Hp → Prop} : Stp (tRg2 ta tb σ H R) (ta σ H fun x H1 => tb σ H1 fun y H2 => asI2 x y fun i j => R i j H2) := ⟨id⟩
theorem r_lstRg {a b : Int} {H : Hp} {Q : VK} (h0 : -1000000 ≤ a ∧ a ≤ 1000000) (h1 : -1000000 ≤ b ∧ b ≤ 1000000) (q : ∀ l H2, H l = none → H2 l = some (.lst ((rgI a b).map V.int)) → Kp [] H H2 → Q (.ref l) H2) : lstRg a b H Q :=
  ⟨⟨by omega, by omega, by omega, by omega, by omega⟩, fun l hl => q l _ hl (by rw [← rgV_eq]; exact upd_same) (Kp.new hl)⟩
theorem erase_map {α β : Type} (f : α → β) : ∀ (xs : List α) (k : Nat), (xs.map f).eraseIdx k = (xs.eraseIdx k).map f
  | [], _ => rfl
  | _ :: _, 0 => rfl
  | x :: xs, k + 1 => by
    show f x :: (xs.map f).eraseIdx k = f x :: (xs.eraseIdx k).map f
    rw [erase_map f xs k]
theorem erase_perm {α : Type} : ∀ (xs : List α) (k : Nat) (y : α), xs[k]? = some y → (y :: xs.eraseIdx k).Perm xs
  | [], _, _, h => by simp at h
  | x :: xs, 0, y, h => by
    simp at h
    subst h
    exact .refl _
  | x :: xs, k + 1, y, h => by
    rw [List.getElem?_cons_succ] at h
    exact (List.Perm.swap x y (xs.eraseIdx k)).trans ((erase_perm xs k y h).cons x)
theorem some_step {base fs rs : List Int} {k : Nat} {y : Int} (h : (fs ++ rs).Perm base) (e : rs[k]? = some y) : ((fs ++ [y]) ++ rs.eraseIdx k).Perm base := by
  refine List.Perm.trans ?_ h
  rw [List.append_assoc]
  exact (erase_perm rs k y e).append_left fs

/-! ### whether a body fits -/
instance {m : Int} {l : Lit} : Decidable (litFit m l) := by unfold litFit; infer_instance
instance {es : List Int} : Decidable (entFit es) := by unfold entFit; infer_instance

def fitQ (P : Prop) (H : Hp) (Q : VK) : Prop := ∀ (r : Bool) (H' : Hp), (r = true ↔ P) → Kp [] H H' → Q (.bl r) H'
def spTmFit (K : PySem.W.Frag) : Sp := fun vs H Q _ => ∃ (p : Addr) (m : Int) (ts : Tms), vs = [.ref p, .int m] ∧ Im K H (.ref p) (tmD ts) ∧ fitQ (tmFit m ts) H Q
def spLitFit (K : PySem.W.Frag) : Sp := fun vs H Q _ => ∃ (p : Addr) (m : Int) (l : Lit), vs = [.ref p, .int m] ∧ LitAt K H p l.v l.r l.a ∧ fitQ (litFit m l) H Q
def spLinFit (K : PySem.W.Frag) : Sp := fun vs H Q _ => ∃ (p : Addr) (m n : Int) (ts : Tms) (r : Rel), vs = [.ref p, .str r.s, .int n, .int m] ∧ Im K H (.ref p) (tmD ts) ∧ fitQ (linFit m ts r n) H Q
def spDistinct (K : PySem.W.Frag) : Sp := fun vs H Q _ => ∃ (p : Addr) (m lo hi : Int) (us : List Int), vs = [.ref p, .int lo, .int hi, .int m] ∧ SqT K H p (us.map V.int) ∧ hi ≤ 60 ∧ us.length ≤ 4000 ∧ fitQ ((lo ≤ us.length ∧ us.length ≤ hi) ∧ numFit m us) H Q
def spEntries (K : PySem.W.Frag) : Sp := fun vs H Q _ => ∃ (p : Addr) (es : List Int), vs = [.ref p] ∧ SqT K H p (es.map V.int) ∧ es.length ≤ 4000 ∧ fitQ (entFit es) H Q
def spAnyFits (K : PySem.W.Frag) : Sp := fun vs H Q _ => ∃ (p : Addr) (m : Int) (ls : List Lit), vs = [.ref p, .int m] ∧ Im K H (.ref p) (litsD ls) ∧ fitQ ((Body.any ls).fit m) H Q
def spTableFits (K : PySem.W.Frag) : Sp := fun vs H Q _ => ∃ (p q : Addr) (m : Int) (us : List Int) (rows : List (List Int)), vs = [.ref p, .ref q, .int m] ∧ SqT K H p (us.map V.int) ∧ Im K H (.ref q) (rowsD rows) ∧ us.length ≤ 4000 ∧ (∀ r ∈ rows, r.length ≤ 4000) ∧ fitQ ((Body.table us rows).fit m) H Q
/-- lists short enough to be walked -/
def Body.walk : Body → Prop
  | .diff us => us.length ≤ 4000
  | .table us rows => us.length ≤ 4000 ∧ ∀ r ∈ rows, r.length ≤ 4000
  | .elem _ es _ => es.length ≤ 4000
  | _ => True
def spBodyFits (K : PySem.W.Frag) : Sp := fun vs H Q _ => ∃ (p : Addr) (m : Int) (b : Body), vs = [.ref p, .int m] ∧ BodyAt K H p b ∧ b.walk ∧ fitQ (b.fit m) H Q
theorem Body.fit_walk {m : Int} {b : Body} (h : b.fit m) : b.walk := by
  cases b with
  | diff us => exact (show us.length ≤ 4000 by have := h.1.2; omega)
  | table us rows => exact ⟨by have := h.1.1.2; omega, fun r hr => by have := (h.2.2 r hr).1; have := h.1.1.2; omega⟩
  | elem x es y => exact (show es.length ≤ 4000 by have := h.2.1.2; omega)
  | _ => trivial
theorem fst_before {m : Int} {ts : Tms} {i : Nat} {z : Int × Int} (h : tmFit m ts) (e : ts[i]? = some z) : ∀ a ∈ (ts.take i).map (fun z : Int × Int => z.1), a < z.1 := fun a ha => by
  have e2 : ts = ts.take i ++ z :: ts.drop (i + 1) := by
    obtain ⟨hi, rfl⟩ := List.getElem?_eq_some_iff.mp e
    rw [List.getElem_cons_drop, List.take_append_drop]
  have q := h.2.1
  rw [e2, List.map_append, List.pairwise_append] at q
  exact q.2.2 a ha z.1 (by simp)
/-- the literal as a key -/
def litK (l : Lit) : List Leaf := [.num l.v, .text l.r.s, .num l.a]
theorem litK_inj {a b : Lit} (h : litK a = litK b) : a = b := by
  simp only [litK, List.cons.injEq, Leaf.num.injEq, Leaf.text.injEq, and_true] at h
  obtain ⟨h1, h2, h3⟩ := h
  cases a
  cases b
  simp only at h1 h2 h3
  rw [h1, Rel.s_inj _ _ h2, h3]
theorem nodup_inj {α β : Type} {f : α → β} (hf : ∀ {a b}, f a = f b → a = b) {xs : List α} : (xs.map f).Nodup ↔ xs.Nodup := by
  unfold List.Nodup
  rw [List.pairwise_map]
  exact ⟨fun h => h.imp fun {a b} h e => h (congrArg f e), fun h => h.imp fun {a b} h e => h (hf e)⟩
/-- the places of literals -/
theorem lits_at {K : PySem.W.Frag} {H : Hp} : ∀ {xs : List V} {ls : List Lit}, ImAll K H xs (ls.map Lit.d) → ∃ ks : List (Addr × List V), xs = ks.map (fun p => V.ref p.1) ∧ (∀ p ∈ ks, SqT K H p.1 p.2 ∧ p.2.all flatV = true) ∧ ks.map (fun p => p.2.map lfV) = ls.map litK
  | _, [], .nil => ⟨[], rfl, (fun p hp => by cases hp), rfl⟩
  | _, l :: ls, .cons h a => by
    obtain ⟨ks, rfl, h2, h3⟩ := lits_at a
    obtain ⟨q, rfl, L⟩ := lit_at h
    refine ⟨(q, [.int l.v, .str l.r.s, .int l.a]) :: ks, rfl, fun p hp => ?_, by rw [List.map_cons, h3]; rfl⟩
    rcases List.mem_cons.mp hp with rfl | hp
    · exact ⟨L, rfl⟩
    · exact h2 p hp
theorem r_slT1 {K : PySem.W.Frag} {H : Hp} {Q : VK} {p : Addr} {x : V} {xs : List V} (h : SqT K H p (x :: xs)) (q : ∀ l H2, H l = none → SqT K H2 l xs → Kp [] H H2 → Q (.ref l) H2) : rSlT K (.ref p) (some 1) none H Q := by
  refine ⟨p, _, rfl, h, fun e => ?_, fun l hl => ?_⟩
  · have e1 := e.1
    have e0 : HT.sIx (x :: xs).length 0 (some ((1 : Nat) : Int)) = 0 := e1
    rw [HT.sIx_nat] at e0
    simp at e0
  · have e : cutV (x :: xs) (some 1) none = xs := by rw [cut_from (by decide)]; rfl
    rw [e]
    exact q l _ hl (SqT.of upd_same) (Kp.new hl)
theorem all_iff {α : Type} {as : List α} {f : α → Bool} {P : α → Prop} (h : ∀ a ∈ as, (f a = true ↔ P a)) : (as.map f).all id = true ↔ ∀ a ∈ as, P a := by
  rw [List.all_map, List.all_eq_true]
  exact ⟨fun g a ha => (h a ha).mp (g a ha), fun g a ha => (h a ha).mpr (g a ha)⟩
local macro_rules | `(tactic| walk_at "cg all") => `(tactic| (repeat' (first | walk_at "cg s" | ((with_reducible refine if_S ?_ ?_) <;> intro _) | ((with_reducible refine if_NS ?_ ?_) <;> intro _))))

/-! ### the law's own reading of a body -/
def spLawLit (K : PySem.W.Frag) : Sp := fun vs H Q _ => ∃ (p q : Addr) (l : Lit) (f : Pt) (dom : Int → Prop), vs = [.ref p, .ref q] ∧ LitAt K H p l.v l.r l.a ∧ PtAt K H q f dom ∧ dom l.v ∧ Q (.bl (l.h f)) H
theorem inV_ints_t (v : Int) (us : List Int) : (if false = true then !inV (.int v) (us.map V.int) else inV (.int v) (us.map V.int)) = decide (v ∈ us) := by
  rw [if_neg (by decide), inV_ints]

def spWritten (K : PySem.W.Frag) : Sp := fun vs H Q _ => ∃ (p : Addr) (b : Body), vs = [.ref p] ∧ BodyAt K H p b ∧ b.bd ∧ ∀ (l : Addr) (H' : Hp), H' l = some (.lst (b.vars.map V.int)) → Kp [] H H' → Q (.ref l) H'

/-! ### a <= b <= c <= d -/
def tChain3 (r r' r2 : R2) (ta tb tc td : TE) : TE := fun σ H Q => ta σ H fun x H1 => tb σ H1 fun y H2 => r x y H2 fun z H3 => asB z fun k => iteP k (tc σ H3 fun u H4 => r' y u H4 fun z2 H5 => asB z2 fun k2 => iteP k2 (td σ H5 fun v H6 => r2 u v H6 Q) (Q (.bl false) H5)) (Q (.bl false) H3)
open PySem.Spec PyProof.Rows in
theorem pe_chain3 {X : Cx} {a b c d : Expr} {ta tb tc td : TE} {pos : Pos} {op op' op2 : CmpOp} {r r' r2 : R2} (ho : OpR X (compareOp op) r) (ho' : OpR X (compareOp op') r') (ho2 : OpR X (compareOp op2) r2) (ha : PE X a ta) (hb : PE X b tb) (hc : PE X c tc) (hd : PE X d td)
    (hm : lastMarks [op, op', op2] [b, c, d] = false := by with_unfolding_all rfl) : PE X (.Compare a [op, op', op2] [b, c, d] pos) (tChain3 r r' r2 ta tb tc td) := by
  refine ⟨fun pins s σ H Q I h => ?_⟩
  refine Compare_chain (thn (ha.run pins s σ H _ I h) fun v s1 ⟨x, H1, I1, r1, q1⟩ => chain_link (thn (hb.run pins s1 σ H1 _ I1 q1) fun u s2 ⟨y, H2, I2, w2, q2⟩ =>
    thn (ho pins s2 σ H2 x y v u _ I2 r1 w2 q2) fun z0 s3 ⟨z, H3, I3, r3, k, e, q3⟩ => ?_)) hm
  subst e
  cases r3
  refine wpAny_truthy_bool ?_
  cases k with
  | false => exact ite_ff ⟨.bl false, H3, I3, rfl, q3⟩
  | true =>
    refine ite_tt (chain_link (thn (hc.run pins s3 σ H3 _ I3 q3) fun v4 s4 ⟨y4, H4, I4, r4, q4⟩ => thn (ho' pins s4 σ H4 y y4 u v4 _ I4 w2 r4 q4) fun z5 s5 ⟨z6, H5, I5, r5, k2, e2, q5⟩ => ?_))
    subst e2
    cases r5
    refine wpAny_truthy_bool ?_
    cases k2 with
    | false => exact ite_ff ⟨.bl false, H5, I5, rfl, q5⟩
    | true => exact ite_tt (chain_last (thn (hd.run pins s5 σ H5 _ I5 q5) fun v7 s7 ⟨y7, H7, I7, r7, q7⟩ => ho2 pins s7 σ H7 y4 y7 v4 v7 Q I7 r4 r7 q7))
instance s_chain3 {r r' r2 : R2} {ta tb tc td : TE} {σ : St} {H : Hp} {Q : VK} : Stp (tChain3 r r' r2 ta tb tc td σ H Q) (ta σ H fun x H1 => tb σ H1 fun y H2 => r x y H2 fun z H3 => asB z fun k => iteP k (tc σ H3 fun u H4 => r' y u H4 fun z2 H5 => asB z2 fun k2 => iteP k2 (td σ H5 fun v H6 => r2 u v H6 Q) (Q (.bl false) H5)) (Q (.bl false) H3)) := ⟨id⟩
/-! ### own classes -/
structure IsM (P : Program) (w : World) (K : PySem.W.Frag) (mg : Str → Option Value) (base : Heap) (CX : CXT) (k : Nat) (C : Addr) (m : Str) (ps : List Str) (sp : Sp) : Prop where
  ex : ∃ (f : Addr) (fd : FuncData), FnOk P w K mg base CX k f fd ps sp ∧ Meth K C m f ∧ Binds K fd ps []
  cl : Cls K C
structure IsI (P : Program) (w : World) (K : PySem.W.Frag) (mg : Str → Option Value) (base : Heap) (CX : CXT) (k : Nat) (C : Addr) (x : Str) (ps : List Str) (sp : Sp) : Prop where
  ex : ∃ (f : Addr) (fd : FuncData), FnOk P w K mg base CX k f fd ps sp ∧ Mk K C f ∧ Binds K fd ps [] ∧ mg x = some (.ref C)
def mtS (C : Addr) (m : Str) (x : V) (H : Hp) (R : Prop) : Prop := ∃ a dx fs, x = .ref a ∧ H a = some (.ins C dx fs) ∧ fs.lookup m = none ∧ R
def mkS (C : Addr) (sp : Sp) (E : XK) (vs : List V) (H1 : Hp) (Q : VK) : Prop := ∀ x dx, H1 x = none → H1 dx = none → dx ≠ x → sp (.ref x :: (vs ++ [])) (upd (upd H1 dx (.own x)) x (.ins C dx [])) (fun v H2 => v = .non ∧ Q (.ref x) H2) E
def fldS (K : PySem.W.Frag) (f : Str) (x : V) (H : Hp) (Q : VK) : Prop := ∃ a C dx fs v, x = .ref a ∧ H a = some (.ins C dx fs) ∧ Cls K C ∧ NoAttr K C f ∧ fs.lookup f = some v ∧ Q v H
def setF (K : PySem.W.Frag) (f : Str) (x y : V) (H2 : Hp) (R : Hp → Prop) : Prop := ∃ a C dx fs, x = .ref a ∧ H2 a = some (.ins C dx fs) ∧ Cls K C ∧ NoAttr K C f ∧ fs.length < 1000 ∧ R (upd H2 a (.ins C dx (putF f y fs)))
def newD (H : Hp) (Q : VK) : Prop := ∀ p, H p = none → Q (.ref p) (upd H p (.dK []))
def inDk (x y : V) (H : Hp) (Q : VK) : Prop := ∃ a o, x = .ref a ∧ DGet H a y o ∧ Q (.bl o.isSome) H
def putD (x y v : V) (H3 : Hp) (R : Hp → Prop) : Prop := ∃ a H4, x = .ref a ∧ DPut H3 a y v H4 ∧ R H4
section
variable {K : PySem.W.Frag} {C : Addr} {m f : Str} {sp : Sp} {E : XK} {ta tv td ty : TE} {t : TA} {σ : St} {H : Hp} {Q : VK} {a dx : Addr} {fs : List (Str × V)} {v x y : V} {nx bk ct : St → Hp → Prop} {rt : VK} {R : Hp → Prop}
instance s_meth : Stp (tMeth C m sp [] E ta t σ H Q) (ta σ H fun x H1 => mtS C m x H1 (t σ H1 fun vs H2 => sp (x :: vs) H2 Q E)) := ⟨fun h => by
  unfold tMeth
  simp only [List.append_nil]
  exact h⟩
theorem r_mt {R : Prop} (h : H a = some (.ins C dx fs)) (l : fs.lookup m = none) (q : R) : mtS C m (.ref a) H R := ⟨a, dx, fs, rfl, h, l, q⟩
instance s_make : Stp (tMake C sp [] E t σ H Q) (t σ H fun vs H1 => mkS C sp E vs H1 Q) := ⟨id⟩
theorem r_make {vs : List V} (q : ∀ x dx H2, H x = none → H2 x = some (.ins C dx []) → Kp [] H H2 → sp (.ref x :: vs) H2 (fun v H3 => v = .non ∧ Q (.ref x) H3) E) : mkS C sp E vs H Q := fun x dx nx ndx ne => by
  rw [List.append_nil]
  exact q x dx _ nx upd_same ⟨fun b o _ h => by rw [upd_ne (ne_of_none h nx), upd_ne (ne_of_none h ndx)]; exact h, fun _ h => nomatch h⟩
instance s_fld : Stp (tFld K ta f σ H Q) (ta σ H fun x H1 => fldS K f x H1 Q) := ⟨id⟩
theorem r_fld (h : H a = some (.ins C dx fs)) (c : Cls K C) (n : NoAttr K C f) (l : fs.lookup f = some v) (q : Q v H) : fldS K f (.ref a) H Q := ⟨a, C, dx, fs, v, rfl, h, c, n, l, q⟩
instance s_sfld : Stp (sFld K ta tv f ⟨nx, rt, bk, ct⟩ σ H) (tv σ H fun y H1 => ta σ H1 fun x H2 => setF K f x y H2 fun H3 => nx σ H3) := ⟨id⟩
theorem r_setF (h : H a = some (.ins C dx fs)) (c : Cls K C) (n : NoAttr K C f) (few : fs.length < 1000) (q : ∀ H2, H2 a = some (.ins C dx (putF f y fs)) → Kp [a] H H2 → R H2) : setF K f (.ref a) y H R :=
  ⟨a, C, dx, fs, rfl, h, c, n, few, q _ upd_same (Kp.put h trivial)⟩
instance s_dnew : Stp (tDNewK σ H Q) (newD H Q) := ⟨id⟩
theorem r_newD (q : ∀ p H2, H p = none → H2 p = some (.dK []) → Kp [] H H2 → Q (.ref p) H2) : newD H Q := fun p hp => q p _ hp upd_same (Kp.new hp)
instance s_dIn : Stp (tDIn ty td σ H Q) (ty σ H fun y H1 => td σ H1 fun x H2 => inDk x y H2 Q) := ⟨id⟩
theorem r_inDk {kvs : List (Key × V)} {k : Key} {o : Option V} (h : H a = some (.dK kvs)) (e : valV kvs k = o) (q : Q (.bl o.isSome) H) : inDk (.ref a) (kV k) H Q := ⟨a, o, rfl, e ▸ DGet.k h, q⟩
theorem r_inDk0 {kvs : List (Key × V)} {k : Key} (h : H a = some (.dK kvs)) (e : valV kvs k = none) (q : Q (.bl false) H) : inDk (.ref a) (kV k) H Q := r_inDk h e q
theorem r_inDk1 {kvs : List (Key × V)} {k : Key} {w : V} (h : H a = some (.dK kvs)) (e : valV kvs k = some w) (q : Q (.bl true) H) : inDk (.ref a) (kV k) H Q := r_inDk h e q
instance s_dPut : Stp (sDPut td ty tv ⟨nx, rt, bk, ct⟩ σ H) (tv σ H fun v H1 => td σ H1 fun x H2 => ty σ H2 fun y H3 => putD x y v H3 fun H4 => nx σ H4) := ⟨id⟩
theorem r_putD {kvs : List (Key × V)} {k : Key} (h : H a = some (.dK kvs)) (few : kvs.length ≤ 10000) (q : ∀ H2, H2 a = some (.dK (putK kvs k v)) → Kp [a] H H2 → R H2) : putD (.ref a) (kV k) v H R :=
  ⟨a, _, rfl, DPut.k h (small1e4 few), q _ upd_same (Kp.put h trivial)⟩
theorem not_valV {κ : Type} [DecidableEq κ] {kvs : List (κ × V)} {k : κ} (h : ¬ k ∈ kvs.map (·.1)) : valV kvs k = none := by
  cases e : valV kvs k with
  | none => rfl
  | some v => exact absurd (valV_in e) h
end
/-! ### texts -/
section
variable {s : Str} {σ : St} {H : Hp} {g : TG} {tb : TS} {nx bk ct : St → Hp → Prop} {rt : VK} {te : TE} {R : It → Hp → Prop} {Q : VK}
def isS (x : V) (H : Hp) (R : It → Hp → Prop) : Prop := ∃ z, x = .str z ∧ R (Its z) H
instance s_iStr : Stp (iStr te σ H R) (te σ H fun x H1 => isS x H1 R) := ⟨id⟩
instance s_isS : Stp (isS (.str s) H R) (R (Its s) H) := ⟨fun h => ⟨s, rfl, h⟩⟩
theorem r_forS (Pv : Nat → St → Hp → Prop) (h0 : Pv 0 σ H) (hs : ∀ (i c : Nat) σ' H', s.cps[i]? = some c → Pv i σ' H' → g (.str ⟨#[c]⟩) σ' H' fun σ2 H2 => tb ⟨Pv (i + 1), rt, nx, Pv (i + 1)⟩ σ2 H2)
    (hd : ∀ σ' H', Pv s.cps.size σ' H' → nx σ' H') : forS (Its s) g tb ⟨nx, rt, bk, ct⟩ σ H :=
  for_it walk_str Pv h0 (fun _ _ _ _ _ => trivial) (fun i x σ' H1 H2 hi h y => by obtain ⟨rfl, c, hc, rfl⟩ := y; exact hs i c σ' _ hc h) hd
def rLenS : List V → Hp → VK → Prop := fun xs H Q => ∃ z, xs = [.str z] ∧ z.length ≤ sizeLine ∧ Q (.int z.length) H
theorem cg_lenS {X : Cx} : CallR X (.builtin "len") rLenS := call_len_str
theorem r_lenS (h : s.length ≤ 10000) (q : Q (.int s.length) H) : rLenS [.str s] H Q := ⟨s, rfl, by rw [sizeLine_eq]; omega, q⟩
def rSgnNot : R2 := fun x y H Q => ∃ (c : Nat) (z : Str), x = .str ⟨#[c]⟩ ∧ y = .str z ∧ Q (.bl (!decide (c ∈ z.cps.toList))) H
theorem op_sgnNot {X : Cx} : OpR X (compareOp .NotIn) rSgnNot := op_notIn_sign
instance s_sgnNot {c : Nat} {z : Str} : Stp (rSgnNot (.str ⟨#[c]⟩) (.str z) H Q) (Q (.bl (!decide (c ∈ z.cps.toList))) H) := ⟨fun h => ⟨c, z, rfl, rfl, h⟩⟩
theorem r_ixS {i : Int} {c : Nat} (h : s.length ≤ 10000) (e : atI s.cps.toList i = some c) (q : Q (.str ⟨#[c]⟩) H) : rIxS (.str s) (.int i) H Q := ⟨s, i, c, rfl, rfl, by rw [sizeLine_eq]; omega, e, q⟩
end
/-! ### labels -/
def lettersS : Str := Str.ofString "abcdefghijklmnopqrstuvwxyz"
def digitsS : Str := Str.ofString "0123456789"
def sgnOk (c : Nat) : Bool := decide (c ∈ lettersS.cps.toList) || decide (c ∈ digitsS.cps.toList)
def labelB (s : Str) : Bool := decide (1 ≤ s.length) && decide (s.length ≤ 20) && (match s.cps.toList with | [] => false | c :: _ => decide (c ∈ lettersS.cps.toList)) && s.cps.toList.all sgnOk
def spLabel : Sp := fun vs H Q _ => ∃ s : Str, vs = [.str s] ∧ s.length ≤ 10000 ∧ Q (.bl (labelB s)) H

/-! ### models -/
structure Goal where
  mx : Bool
  ts : Tms
  c : Int
def senseS (b : Bool) : Str := if b then Str.ofString "max" else Str.ofString "min"
def Goal.d (g : Goal) : PyData := .tuple [.str (senseS g.mx), tmD g.ts, .int g.c]
structure Mdl where
  us : List (Str × Int × Int)
  bs : List (Str × Body)
  g : Goal
def unD (u : Str × Int × Int) : PyData := .tuple [.str u.1, .int u.2.1, .int u.2.2]
structure MA where
  p : Addr
  n : Addr
  l : Addr
  h : Addr
  b : Addr
def MA.all (a : MA) : List Addr := [a.p, a.n, a.l, a.h, a.b]
structure MFs (fs : List (Str × V)) (a : MA) (g : V) : Prop where
  nm : fs.lookup (Str.ofString "_names") = some (.ref a.n)
  lo : fs.lookup (Str.ofString "_lows") = some (.ref a.l)
  hi : fs.lookup (Str.ofString "_highs") = some (.ref a.h)
  bo : fs.lookup (Str.ofString "_bodies") = some (.ref a.b)
  go : fs.lookup (Str.ofString "_goal") = some g
  le : fs.length ≤ 10
  no : ∀ m : Str, ¬ m = "_names" → ¬ m = "_lows" → ¬ m = "_highs" → ¬ m = "_bodies" → ¬ m = "_goal" → fs.lookup m = none
theorem putF_len (f : Str) (v w : V) : ∀ fs : List (Str × V), fs.lookup f = some w → (putF f v fs).length = fs.length
  | [], h => by simp at h
  | (x, y) :: fs, h => by
    show (if x = f then (x, v) :: fs else (x, y) :: putF f v fs).length = _
    by_cases e : x = f
    · rw [if_pos e]
      rfl
    · rw [if_neg e, List.length_cons, List.length_cons, putF_len f v w fs (by
        rw [List.lookup_cons] at h
        have : (f == x) = false := beq_false_of_ne (fun z => e z.symm)
        rw [this] at h
        exact h)]
theorem putF_le (f : Str) (v : V) : ∀ fs : List (Str × V), (putF f v fs).length ≤ fs.length + 1
  | [] => Nat.le_refl _
  | (x, y) :: fs => by
    show (if x = f then (x, v) :: fs else (x, y) :: putF f v fs).length ≤ _
    by_cases e : x = f
    · rw [if_pos e]
      simp
    · rw [if_neg e, List.length_cons, List.length_cons]
      have := putF_le f v fs
      omega
theorem MFs.goal {fs : List (Str × V)} {a : MA} {g g' : V} (h : MFs fs a g) : MFs (putF (Str.ofString "_goal") g' fs) a g' := by
  have l : ∀ m : Str, ¬ m = Str.ofString "_goal" → (putF (Str.ofString "_goal") g' fs).lookup m = fs.lookup m := fun m hm => by rw [lookup_putF, if_neg hm]
  exact ⟨(l _ (by decide +kernel)).trans h.nm, (l _ (by decide +kernel)).trans h.lo, (l _ (by decide +kernel)).trans h.hi, (l _ (by decide +kernel)).trans h.bo, by rw [lookup_putF, if_pos rfl], by rw [putF_len _ _ _ _ h.go]; exact h.le,
    fun m h1 h2 h3 h4 h5 => (l m h5).trans (h.no m h1 h2 h3 h4 h5)⟩
def fs3 (n l h : Addr) : List (Str × V) := putF (Str.ofString "_highs") (.ref h) (putF (Str.ofString "_lows") (.ref l) (putF (Str.ofString "_names") (.ref n) []))
theorem fs3_nm (n l h : Addr) : (fs3 n l h).lookup (Str.ofString "_names") = some (.ref n) := by
  unfold fs3
  rw [lookup_putF, if_neg (by decide +kernel), lookup_putF, if_neg (by decide +kernel), lookup_putF, if_pos rfl]
theorem fs3_lo (n l h : Addr) : (fs3 n l h).lookup (Str.ofString "_lows") = some (.ref l) := by
  unfold fs3
  rw [lookup_putF, if_neg (by decide +kernel), lookup_putF, if_pos rfl]
theorem fs3_hi (n l h : Addr) : (fs3 n l h).lookup (Str.ofString "_highs") = some (.ref h) := by
  unfold fs3
  rw [lookup_putF, if_pos rfl]
theorem fs3_len (n l h : Addr) : (fs3 n l h).length ≤ 3 := by
  unfold fs3
  refine Nat.le_trans (putF_le _ _ _) (Nat.succ_le_succ (Nat.le_trans (putF_le _ _ _) (Nat.succ_le_succ (putF_le _ _ _))))
theorem MFs.new {p n l h b : Addr} {g : V} : MFs (putF (Str.ofString "_goal") g (putF (Str.ofString "_bodies") (.ref b) (fs3 n l h))) ⟨p, n, l, h, b⟩ g := by
  have k : ∀ m : Str, ¬ m = Str.ofString "_goal" → ¬ m = Str.ofString "_bodies" → (putF (Str.ofString "_goal") g (putF (Str.ofString "_bodies") (.ref b) (fs3 n l h))).lookup m = (fs3 n l h).lookup m := fun m h1 h2 => by rw [lookup_putF, if_neg h1, lookup_putF, if_neg h2]
  refine ⟨(k _ (by decide +kernel) (by decide +kernel)).trans (fs3_nm n l h), (k _ (by decide +kernel) (by decide +kernel)).trans (fs3_lo n l h), (k _ (by decide +kernel) (by decide +kernel)).trans (fs3_hi n l h), by rw [lookup_putF, if_neg (by decide +kernel), lookup_putF, if_pos rfl], by rw [lookup_putF, if_pos rfl], ?_, fun m h1 h2 h3 h4 h5 => ?_⟩
  · have a1 := putF_le (Str.ofString "_goal") g (putF (Str.ofString "_bodies") (.ref b) (fs3 n l h))
    have a2 := putF_le (Str.ofString "_bodies") (.ref b) (fs3 n l h)
    have a3 := fs3_len n l h
    omega
  · rw [k m h5 h4]
    unfold fs3
    rw [lookup_putF, if_neg h3, lookup_putF, if_neg h2, lookup_putF, if_neg h1]
    rfl
/-- a model stands at a -/
structure MdlAt (K : PySem.W.Frag) (C : Addr) (H : Hp) (a : MA) (M : Mdl) : Prop where
  ob : ∃ dx fs g, H a.p = some (.ins C dx fs) ∧ MFs fs a g ∧ Im K H g M.g.d
  nm : H a.n = some (.lst (M.us.map fun u => V.str u.1))
  lo : H a.l = some (.lst (M.us.map fun u => V.int u.2.1))
  hi : H a.h = some (.lst (M.us.map fun u => V.int u.2.2))
  bo : ∃ kvs : List (Key × V), H a.b = some (.dK kvs) ∧ kvs.map (fun z => z.1) = M.bs.map (fun b => Sum.inr b.1) ∧ ImAll K H (kvs.map (fun z => z.2)) (M.bs.map fun b => b.2.d)
  ne : a.n ≠ a.l ∧ a.n ≠ a.h ∧ a.l ≠ a.h
section
variable {K : PySem.W.Frag} {C : Addr} {H H' : Hp} {a : MA} {M : Mdl} {S : List Addr}
theorem MdlAt.kp (k : Kp S H H') (h : MdlAt K C H a M) (d : ∀ x ∈ a.all, ¬ x ∈ S) : MdlAt K C H' a M := by
  obtain ⟨dx, fs, g, h1, h2, h3⟩ := h.ob
  obtain ⟨kvs, h4, h5, h6⟩ := h.bo
  exact ⟨⟨dx, fs, g, k.get (d _ (by simp [MA.all])) h1, h2, k.im h3⟩, k.get (d _ (by simp [MA.all])) h.nm, k.get (d _ (by simp [MA.all])) h.lo, k.get (d _ (by simp [MA.all])) h.hi, ⟨kvs, k.get (d _ (by simp [MA.all])) h4, h5, k.imAll h6⟩, h.ne⟩
theorem MdlAt.kp0 (k : Kp [] H H') (h : MdlAt K C H a M) : MdlAt K C H' a M := h.kp k fun _ _ z => nomatch z
/-- none of its places is one of these -/
def offA (a : MA) (t : Addr) : Prop := ∀ x ∈ a.all, x ≠ t
theorem MdlAt.kp1 {t : Addr} (k : Kp [t] H H') (h : MdlAt K C H a M) (n : offA a t) : MdlAt K C H' a M := h.kp k fun x hx z => n x hx (by simpa using z)
end
/-- what a model takes -/
def unOk (u : Str × Int × Int) : Prop := labelB u.1 = true ∧ u.1.length ≤ 10000 ∧ -1000 ≤ u.2.1 ∧ u.2.1 ≤ u.2.2 ∧ u.2.2 ≤ 1000
def Goal.fit (m : Int) (g : Goal) : Prop := tmFit m g.ts ∧ -1000000000 ≤ g.c ∧ g.c ≤ 1000000000
def goal0 : Goal := ⟨true, [], 0⟩
def spBounds : Sp := fun vs H Q _ => ∃ lo hi : Int, vs = [.int lo, .int hi] ∧ Q (.bl (decide (-1000 ≤ lo) && (decide (lo ≤ hi) && decide (hi ≤ 1000)))) H
def spInit (K : PySem.W.Frag) (C : Addr) : Sp := fun vs H Q _ => ∃ (p l dx : Addr) (refs : List V) (us : List (Str × Int × Int)), vs = [.ref p, .ref l] ∧ H p = some (.ins C dx []) ∧ H l = some (.lst refs) ∧ ImAll K H refs (us.map unD) ∧ 1 ≤ us.length ∧ us.length ≤ 60 ∧
  (∀ u ∈ us, unOk u) ∧ (us.map (·.1)).Nodup ∧ ∀ (a : MA) (H' : Hp), a.p = p → MdlAt K C H' a ⟨us, [], goal0⟩ → (∀ x ∈ a.all, x = p ∨ H x = none) → Kp [p] H H' → Q .non H'
def spPut (K : PySem.W.Frag) (C : Addr) : Sp := fun vs H Q _ => ∃ (a : MA) (s : Str) (pb : Addr) (b : Body) (M : Mdl), vs = [.ref a.p, .str s, .ref pb] ∧ MdlAt K C H a M ∧ labelB s = true ∧ s.length ≤ 10000 ∧ ¬ s ∈ M.bs.map (·.1) ∧ BodyAt K H pb b ∧ b.fit M.us.length ∧ M.bs.length < 200 ∧
  ∀ H', MdlAt K C H' a ⟨M.us, M.bs ++ [(s, b)], M.g⟩ → Kp [a.b] H H' → Q .non H'
def spAim (K : PySem.W.Frag) (C : Addr) : Sp := fun vs H Q _ => ∃ (a : MA) (pg : Addr) (g : Goal) (M : Mdl), vs = [.ref a.p, .ref pg] ∧ MdlAt K C H a M ∧ Im K H (.ref pg) g.d ∧ g.fit M.us.length ∧ ∀ H', MdlAt K C H' a ⟨M.us, M.bs, g⟩ → Kp [a.p] H H' → Q .non H'
theorem goal_at {K : PySem.W.Frag} {H : Hp} {x : V} {g : Goal} (h : Im K H x g.d) : ∃ p q, x = .ref p ∧ SqT K H p [.str (senseS g.mx), .ref q, .int g.c] ∧ Im K H (.ref q) (tmD g.ts) := by
  obtain ⟨p, rfl⟩ := Im.isRef h
  obtain ⟨_, h1, h2⟩ := Im.open h
  obtain ⟨_, _, rfl, a1, h2⟩ := h2.c
  obtain ⟨_, _, rfl, a2, h2⟩ := h2.c
  obtain ⟨_, _, rfl, a3, h2⟩ := h2.c
  obtain rfl := h2.n
  obtain ⟨q, rfl⟩ := a2.isRef
  cases a1; cases a3
  exact ⟨p, q, rfl, h1, a2⟩
theorem un_at {K : PySem.W.Frag} {H : Hp} {x : V} {u : Str × Int × Int} (h : Im K H x (unD u)) : ∃ p, x = .ref p ∧ SqT K H p [.str u.1, .int u.2.1, .int u.2.2] := by
  obtain ⟨p, rfl⟩ := Im.isRef h
  exact ⟨p, rfl, Im.sq h rfl⟩
theorem flat_strs (us : List Str) : (us.map V.str).all flatV = true := by
  rw [List.all_map]
  exact List.all_eq_true.mpr fun x _ => rfl
theorem inV_strs (v : Str) (us : List Str) : inV (.str v) (us.map V.str) = decide (v ∈ us) := by
  unfold inV
  rw [List.any_map]
  induction us with
  | nil => rfl
  | cons u us ih =>
    have e : ((fun y => eqV y (.str v)) ∘ V.str) u = decide (v = u) := by
      show (u == v) = decide (v = u)
      rw [Bool.eq_iff_iff, beq_iff_eq, decide_eq_true_eq]
      exact eq_comm
    rw [List.any_cons, ih, e, Bool.eq_iff_iff]
    simp only [Bool.or_eq_true, decide_eq_true_eq, List.mem_cons]
def mOk (m : Str) : Bool := decide (¬ m = Str.ofString "_names") && decide (¬ m = Str.ofString "_lows") && decide (¬ m = Str.ofString "_highs") && decide (¬ m = Str.ofString "_bodies") && decide (¬ m = Str.ofString "_goal")
/-- a method of a model is called -/
theorem r_mtM {K : PySem.W.Frag} {C : Addr} {H : Hp} {a : MA} {M : Mdl} {m : Str} {R : Prop} (h : MdlAt K C H a M) (n : mOk m = true) (q : R) : mtS C m (.ref a.p) H R := by
  obtain ⟨dx, fs, g, h1, h2, _⟩ := h.ob
  unfold mOk at n
  simp only [Bool.and_eq_true, decide_eq_true_eq] at n
  exact r_mt h1 (h2.no m n.1.1.1.1 n.1.1.1.2 n.1.1.2 n.1.2 n.2) q
local macro_rules | `(tactic| walk_at "cg h") => `(tactic| (first
  | ((with_reducible show MdlAt _ _ _ _ _); exact MdlAt.kp0 (by assumption) (by walk_at "cg h"))
  | ((with_reducible show MdlAt _ _ _ _ _); exact MdlAt.kp1 (by assumption) (by walk_at "cg h") (by assumption))
  | fail))
local macro_rules | `(tactic| walk_at "cg h") => `(tactic| assumption)
local macro_rules | `(tactic| walk_at "cg s") => `(tactic| (first
  | ((with_reducible apply r_fld); (focus (walk_at "cg h")); (focus assumption); (focus assumption); (focus assumption))
  | ((with_reducible apply r_mt); (focus (walk_at "cg h")); (focus assumption))
  | ((with_reducible apply r_newD); intro _ _ _ _ _)
  | ((with_reducible apply r_setF); (focus (walk_at "cg h")); (focus assumption); (focus assumption); (focus (first | assumption | exact Nat.lt_of_sub_pos (by decide) | omega)); intro _ _ _)
  | fail))
local macro_rules | `(tactic| walk_at "cg s") => `(tactic| ((with_reducible apply r_mtM); (focus (walk_at "cg h")); (focus (decide +kernel))))

/-! ### the law's own world -/
section
variable {σ σ0 : St} {H : Hp} {K : PySem.W.Frag} {p : Addr} {xs : List V} {g : TG} {tt : TT} {te : TE} {vs : List Nat} {Q : VK} {n : Nat} {lo : Int} {α : Type} {as : List α} {d : α → PyData} {t c : Addr}
/-- .. one for each item of a list -/
theorem lcL_d {β : Type} {bs : List β} {e : β → PyData} [hw : Wip σ vs σ0] (s : H p = some (.lst xs)) (np : p ≠ t) (ib : ImAll K H xs (bs.map e)) (d : α → PyData) (Pr : β → α → Prop) (T : Tp t c H) (small : bs.length ≤ 10000)
    (hs : ∀ (i : Nat) (b : β) (x : V) (H' : Hp) (R : V → Hp → Prop) (R' : Hp → Prop), bs[i]? = some b → Im K H' x (e b) → Tp t c H' → Kp [t] H H' → (∀ y H4 a, Pr b a → Im K H4 y (d a) → Tp t c H4 → Kp [t] H' H4 → R y H4) → lcTurn g tt te vs σ σ0 x H' R R')
    (hd : ∀ D H' acc (as : List α), H D = none → H' D = some (.lst acc) → as.length = bs.length → (∀ (i : Nat) a, as[i]? = some a → ∃ b, bs[i]? = some b ∧ Pr b a) → ImAll K H' acc (as.map d) → Tp t c H' → Kp [t] H H' → Q (.ref D) H') : lcS (Itl K p) g tt te vs σ H Q := by
  have hxl := mapLenP ib
  refine r_lcL xs (fun D i H' => Kp [t] H H' ∧ H D = none ∧ Tp t c H' ∧ ∃ (acc : List V) (as : List α), H' D = some (.lst acc) ∧ as.length = i ∧ (∀ (i : Nat) a, as[i]? = some a → ∃ b, bs[i]? = some b ∧ Pr b a) ∧ ImAll K H' acc (as.map d))
    (fun D H2 hD e2 k2 => ⟨Kp.tr0 k2 (Tp.base T), hD, Tp.kp0 k2 T, [], [], e2, rfl, (fun i a h => by simp at h), .nil⟩) (fun D i H' h => h.1.get1 np s) ?_ ?_
  · rintro D i x H' hx ⟨k2, hD, T2, acc, as, eD, hl, hP, hA⟩
    obtain ⟨b, hb, hxd⟩ := mapGetP (k2.imAll ib) hx
    have hi : i < bs.length := (List.getElem?_eq_some_iff.mp hb).1
    have nt : D ≠ t := Tp.nef hD T
    have nc : D ≠ c := Tp.nefc hD T
    have hal : acc.length = i := by rw [hA.length, List.length_map, hl]
    refine hs i b x H' _ _ hb hxd T2 k2 fun y H4 a ha hy T4 k4 => ?_
    refine r_ap (k4.get1 nt eD) (small1e4 (by omega)) fun H5 e5 k5 => ⟨Kp.trN k5 (Kp.tr1 k4 k2) hD, hD, Tp.kp1 k5 T4 nt.symm nc.symm, _, as ++ [a], e5, by simp [hl], fun j b' hb' => ?_, ?_⟩
    · rcases Nat.lt_or_ge j as.length with h | h
      · rw [List.getElem?_append_left h] at hb'
        exact hP j b' hb'
      · rw [List.getElem?_append_right h] at hb'
        have e0 : j - as.length = 0 := by
          have := (List.getElem?_eq_some_iff.mp hb').1
          simp at this
          omega
        rw [e0] at hb'
        simp at hb'
        subst hb'
        rw [show j = i by omega]
        exact ⟨b, hb, ha⟩
    · rw [List.map_append]
      exact (k5.imAll (k4.imAll hA)).snoc (k5.im hy)
  · rintro D H' ⟨k2, hD, T2, acc, as, eD, hl, hP, hA⟩
    exact hd D H' acc as hD eD (by rw [hl, hxl]) hP hA T2 k2
end
def labD (b : Str × Body) : PyData := .tuple [.str b.1, b.2.d]
structure Mdl.ok (M : Mdl) : Prop where
  n0 : 1 ≤ M.us.length
  n1 : M.us.length ≤ 60
  un : ∀ u ∈ M.us, unOk u
  nd : (M.us.map (·.1)).Nodup
  lb : ∀ b ∈ M.bs, labelB b.1 = true ∧ b.1.length ≤ 10000
  ln : (M.bs.map (·.1)).Nodup
  bf : ∀ b ∈ M.bs, b.2.fit M.us.length
  nb : M.bs.length ≤ 200
  gf : M.g.fit M.us.length
def nmS : Nat → Str
  | 0 => Str.ofString "x"
  | 1 => Str.ofString "y"
  | 2 => Str.ofString "z"
  | 3 => Str.ofString "u"
  | _ => Str.ofString "w"
def labC (k : Int) : Str := Str.ofString "c" ++ ((toString k : String) : Str)
/-- the drawn ones are small -/
structure Mdl.sm (M : Mdl) (most width bodies : Int) : Prop where
  n : (M.us.length : Int) ≤ most
  u : ∀ u ∈ M.us, -2 ≤ u.2.1 ∧ u.2.1 ≤ 2 ∧ u.2.2 < u.2.1 + width
  b : (M.bs.length : Int) ≤ bodies
  g : tmLaw M.us.length M.g.ts ∧ -2 ≤ M.g.c ∧ M.g.c ≤ 2
  l : ∀ b ∈ M.bs, ∃ k : Int, 0 ≤ k ∧ k < 10 ∧ b.1 = labC k
  nm : ∀ u ∈ M.us, ∃ i : Nat, i < 5 ∧ u.1 = nmS i
structure WA where
  w : Addr
  u : Addr
  f : Addr
def WA.all (a : WA) : List Addr := [a.w, a.u, a.f]
structure WorldAt (K : PySem.W.Frag) (H : Hp) (a : WA) (M : Mdl) : Prop where
  w : ∃ pg, H a.w = some (.lst [.ref a.u, .ref a.f, .ref pg]) ∧ Im K H (.ref pg) M.g.d
  u : ∃ refs, H a.u = some (.lst refs) ∧ ImAll K H refs (M.us.map unD)
  f : ∃ refs, H a.f = some (.lst refs) ∧ ImAll K H refs (M.bs.map labD)
  d : a.w ≠ a.u ∧ a.w ≠ a.f
section
variable {K : PySem.W.Frag} {C : Addr} {H H' : Hp} {a : WA} {M : Mdl} {S : List Addr}
theorem WorldAt.kp (k : Kp S H H') (h : WorldAt K H a M) (d : ∀ x ∈ a.all, ¬ x ∈ S) : WorldAt K H' a M := by
  obtain ⟨pg, h1, h2⟩ := h.w
  obtain ⟨r1, h3, h4⟩ := h.u
  obtain ⟨r2, h5, h6⟩ := h.f
  exact ⟨⟨pg, k.get (d _ (by simp [WA.all])) h1, k.im h2⟩, ⟨r1, k.get (d _ (by simp [WA.all])) h3, k.imAll h4⟩, ⟨r2, k.get (d _ (by simp [WA.all])) h5, k.imAll h6⟩, h.d⟩
theorem WorldAt.kp0 (k : Kp [] H H') (h : WorldAt K H a M) : WorldAt K H' a M := h.kp k fun _ _ z => nomatch z
def offW (a : WA) (t : Addr) : Prop := ∀ x ∈ a.all, x ≠ t
theorem WorldAt.kp1 {t : Addr} (k : Kp [t] H H') (h : WorldAt K H a M) (n : offW a t) : WorldAt K H' a M := h.kp k fun x hx z => n x hx (by simpa using z)
end
def spWorld (K : PySem.W.Frag) : Sp := fun vs H Q _ => ∃ (t c : Addr) (most width bodies : Int), vs = [.ref t, .int most, .int width, .int bodies] ∧ Tp t c H ∧ 1 ≤ most ∧ most ≤ 5 ∧ 1 ≤ width ∧ width ≤ 900 ∧ 0 ≤ bodies ∧ bodies ≤ 9 ∧
  ∀ (a : WA) (M : Mdl) (H' : Hp), WorldAt K H' a M → M.ok → M.sm most width bodies → (∀ x ∈ a.all, H x = none) → Tp t c H' → Kp [t] H H' → Q (.ref a.w) H'
def spLawModel (K : PySem.W.Frag) (C : Addr) : Sp := fun vs H Q _ => ∃ (a : WA) (M : Mdl), vs = [.ref a.w] ∧ WorldAt K H a M ∧ M.ok ∧ ∀ (m : MA) (H' : Hp), MdlAt K C H' m M → (∀ x ∈ m.all, H x = none) → Kp [] H H' → Q (.ref m.p) H'
def ptIn (us : List (Str × Int × Int)) (pt : List Int) : Prop := pt.length = us.length ∧ ∀ (i : Nat) z, pt[i]? = some z → ∃ u, us[i]? = some u ∧ u.2.1 ≤ z ∧ z ≤ u.2.2
def spLawPoint (K : PySem.W.Frag) : Sp := fun vs H Q _ => ∃ (t c l : Addr) (refs : List V) (us : List (Str × Int × Int)), vs = [.ref t, .ref l] ∧ Tp t c H ∧ H l = some (.lst refs) ∧ l ≠ t ∧ ImAll K H refs (us.map unD) ∧ us.length ≤ 60 ∧ (∀ u ∈ us, -1000 ≤ u.2.1 ∧ u.2.1 ≤ u.2.2 ∧ u.2.2 ≤ 1000) ∧
  ∀ (p : Addr) (pt : List Int) (H' : Hp), SqT K H' p (pt.map V.int) → ptIn us pt → Tp t c H' → Kp [t] H H' → Q (.ref p) H'
def rStrI : List V → Hp → VK → Prop := fun xs H Q => ∃ i, xs = [.int i] ∧ i.natAbs.log2 < 1920 ∧ Q (.str (toString i)) H
theorem cg_strI {X : Cx} : CallR X (.type "str") rStrI := call_str_int
theorem r_strI {i : Int} {H : Hp} {Q : VK} (h0 : 0 ≤ i) (h1 : i ≤ 1000) (q : Q (.str (toString i)) H) : rStrI [.int i] H Q := ⟨i, rfl, Nat.lt_of_le_of_lt (Nat.log2_le_self _) (by omega), q⟩
def rAddS : R2 := fun x y H Q => ∃ i j, x = .str i ∧ y = .str j ∧ i.length + j.length ≤ sizeLine ∧ Q (.str (i ++ j)) H
theorem cg_addS {X : Cx} : OpR X (binaryOp .Add) rAddS := op_add_str
theorem r_addS {i j : Str} {H : Hp} {Q : VK} (h : i.length + j.length ≤ 10000) (q : Q (.str (i ++ j)) H) : rAddS (.str i) (.str j) H Q := ⟨i, j, rfl, rfl, by rw [sizeLine_eq]; omega, q⟩
theorem ten (P : Int → Prop) (h : P 0 ∧ P 1 ∧ P 2 ∧ P 3 ∧ P 4 ∧ P 5 ∧ P 6 ∧ P 7 ∧ P 8 ∧ P 9) {k : Int} (h0 : 0 ≤ k) (h1 : k < 10) : P k := by
  have e : k = 0 ∨ k = 1 ∨ k = 2 ∨ k = 3 ∨ k = 4 ∨ k = 5 ∨ k = 6 ∨ k = 7 ∨ k = 8 ∨ k = 9 := by omega
  obtain ⟨p0, p1, p2, p3, p4, p5, p6, p7, p8, p9⟩ := h
  rcases e with rfl | rfl | rfl | rfl | rfl | rfl | rfl | rfl | rfl | rfl <;> assumption
theorem labC_ok {k : Int} (h0 : 0 ≤ k) (h1 : k < 10) : labelB (labC k) = true ∧ (Str.ofString "c").length + (((toString k : String) : Str)).length ≤ 10 ∧ (labC k).length ≤ 10 :=
  ten (fun k => labelB (labC k) = true ∧ (Str.ofString "c").length + (((toString k : String) : Str)).length ≤ 10 ∧ (labC k).length ≤ 10) (by decide +kernel) h0 h1
theorem labC_inj {j k : Int} (h0 : 0 ≤ j) (h1 : j < 10) (h2 : 0 ≤ k) (h3 : k < 10) (e : labC j = labC k) : j = k := by
  have q : ((List.range 10).all fun a => (List.range 10).all fun b => decide (labC (a : Nat) = labC (b : Nat) → a = b)) = true := by decide +kernel
  have q1 := List.all_eq_true.mp q j.toNat (List.mem_range.mpr (by omega))
  have q2 := List.all_eq_true.mp q1 k.toNat (List.mem_range.mpr (by omega))
  have q3 := of_decide_eq_true q2
  rw [Int.toNat_of_nonneg h0, Int.toNat_of_nonneg h2] at q3
  have := q3 e
  omega
theorem nmS_ok : ∀ i < 5, labelB (nmS i) = true ∧ (nmS i).length ≤ 10 := by decide +kernel
theorem nmS_inj : ∀ i < 5, ∀ j < 5, nmS i = nmS j → i = j := by decide +kernel
theorem ix_nm {K : PySem.W.Frag} {p : Addr} {H : Hp} {Q : VK} {i : Nat} (h : H p = some (.lst [.str (Str.ofString "x"), .str (Str.ofString "y"), .str (Str.ofString "z"), .str (Str.ofString "u"), .str (Str.ofString "w")])) (h1 : i < 5) (q : Q (.str (nmS i)) H) : rIxL K (.ref p) (.int (0 + (i : Int))) H Q := by
  have e : i = 0 ∨ i = 1 ∨ i = 2 ∨ i = 3 ∨ i = 4 := by omega
  rcases e with rfl | rfl | rfl | rfl | rfl <;> exact r_ixL h rfl q
theorem ix_mm {K : PySem.W.Frag} {p : Addr} {H : Hp} {Q : VK} {d : Int} (h : H p = some (.lst [.str (Str.ofString "max"), .str (Str.ofString "min")])) (h0 : 0 ≤ d) (h1 : d < 2) (q : ∀ b, Q (.str (senseS b)) H) : rIxL K (.ref p) (.int d) H Q := by
  have e : d = 0 ∨ d = 1 := by omega
  rcases e with rfl | rfl
  · exact r_ixL h rfl (q true)
  · exact r_ixL h rfl (q false)
theorem nodup_map_range {α : Type} {f : Nat → α} {n : Nat} (h : ∀ i < n, ∀ j < n, f i = f j → i = j) : ((List.range n).map f).Nodup := by
  unfold List.Nodup
  rw [List.pairwise_map]
  refine List.Pairwise.imp_of_mem (fun {a b} ha hb hab e => ?_) (List.nodup_range (n := n))
  exact hab (h a (List.mem_range.mp ha) b (List.mem_range.mp hb) e)

/-! ### a tuple of the top -/
def TupIn (K : PySem.W.Frag) (a : Addr) (xs : List V) : Prop := ∃ (o : Obj) (its : Array Value) (n : Nat), K.lookup a = some o ∧ o.cls = .type "tuple" ∧ o.data = .seq its n ∧ its.size ≤ sizeLine ∧ Vals xs its.toList
theorem TupIn.sq {K : PySem.W.Frag} {a : Addr} {xs : List V} {H : Hp} (h : TupIn K a xs) : SqT K H a xs := .inr h

def top (i : Nat) : Stmt := PySem.Challenge.pw_commonground_k67_consistent_with_bodies.main.body.getD i (.Pass ⟨0, 0, 0, 0⟩)
abbrev s_relation_holds : Stmt := top 1
theorem sc_relation_holds : FnScope ["relation", "left", "right"] ["relation", "left", "right"] (defScope s_relation_holds) := ⟨rfl, rfl, rfl, by decide +kernel, rfl, by decide +kernel, by decide +kernel⟩
theorem st_relation_holds (v0 v1 v2 : V) : L2.start ["relation", "left", "right"] [v0, v1, v2] = [some v0, some v1, some v2] := rfl
abbrev s_literal_holds : Stmt := top 2
theorem sc_literal_holds : FnScope ["literal", "worth"] ["literal", "worth"] (defScope s_literal_holds) := ⟨rfl, rfl, rfl, by decide +kernel, rfl, by decide +kernel, by decide +kernel⟩
theorem st_literal_holds (v0 v1 : V) : L2.start ["literal", "worth"] [v0, v1] = [some v0, some v1] := rfl
abbrev s_negated : Stmt := top 3
theorem sc_negated : FnScope ["literal", "v", "relation", "a"] ["literal"] (defScope s_negated) := ⟨rfl, rfl, rfl, by decide +kernel, rfl, by decide +kernel, by decide +kernel⟩
theorem st_negated (v0 : V) : L2.start ["literal", "v", "relation", "a"] [v0] = [some v0, none, none, none] := rfl
abbrev s_terms_sum : Stmt := top 4
theorem sc_terms_sum : FnScope ["terms", "point", "total", "v", "c"] ["terms", "point"] (defScope s_terms_sum) := ⟨rfl, rfl, rfl, by decide +kernel, rfl, by decide +kernel, by decide +kernel⟩
theorem st_terms_sum (v0 v1 : V) : L2.start ["terms", "point", "total", "v", "c"] [v0, v1] = [some v0, some v1, none, none, none] := rfl
abbrev s_negated_terms : Stmt := top 5
theorem sc_negated_terms : FnScope ["terms", "v", "c"] ["terms"] (defScope s_negated_terms) := ⟨rfl, rfl, rfl, by decide +kernel, rfl, by decide +kernel, by decide +kernel⟩
theorem st_negated_terms (v0 : V) : L2.start ["terms", "v", "c"] [v0] = [some v0, none, none] := rfl
abbrev s_rows_of : Stmt := top 6
theorem sc_rows_of : FnScope ["terms", "relation", "rhs", "rows"] ["terms", "relation", "rhs"] (defScope s_rows_of) := ⟨rfl, rfl, rfl, by decide +kernel, rfl, by decide +kernel, by decide +kernel⟩
theorem st_rows_of (v0 v1 v2 : V) : L2.start ["terms", "relation", "rhs", "rows"] [v0, v1, v2] = [some v0, some v1, some v2, none] := rfl
abbrev s_unknowns_of : Stmt := top 8
theorem sc_unknowns_of : FnScope ["body", "kind", "found", "v", "c", "literal"] ["body"] (defScope s_unknowns_of) := ⟨rfl, rfl, rfl, by decide +kernel, rfl, by decide +kernel, by decide +kernel⟩
theorem st_unknowns_of (v0 : V) : L2.start ["body", "kind", "found", "v", "c", "literal"] [v0] = [some v0, none, none, none, none, none] := rfl
abbrev s_body_holds : Stmt := top 9
theorem sc_body_holds : FnScope ["body", "point", "kind", "literal", "at", "v"] ["body", "point"] (defScope s_body_holds) := ⟨rfl, rfl, rfl, by decide +kernel, rfl, by decide +kernel, by decide +kernel⟩
theorem st_body_holds (v0 v1 : V) : L2.start ["body", "point", "kind", "literal", "at", "v"] [v0, v1] = [some v0, some v1, none, none, none, none] := rfl
abbrev s_cost_of : Stmt := top 12
theorem sc_cost_of : FnScope ["body", "domains", "kind", "unknowns", "cost", "v"] ["body", "domains"] (defScope s_cost_of) := ⟨rfl, rfl, rfl, by decide +kernel, rfl, by decide +kernel, by decide +kernel⟩
theorem st_cost_of (v0 v1 : V) : L2.start ["body", "domains", "kind", "unknowns", "cost", "v"] [v0, v1] = [some v0, some v1, none, none, none, none] := rfl
abbrev s_wider : Stmt := top 13
theorem sc_wider : FnScope ["choices", "v", "values", "found", "choice", "a", "more"] ["choices", "v", "values"] (defScope s_wider) := ⟨rfl, rfl, rfl, by decide +kernel, rfl, by decide +kernel, by decide +kernel⟩
theorem st_wider (v0 v1 v2 : V) : L2.start ["choices", "v", "values", "found", "choice", "a", "more"] [v0, v1, v2] = [some v0, some v1, some v2, none, none, none, none] := rfl
abbrev s_all_choices : Stmt := top 14
theorem sc_all_choices : FnScope ["unknowns", "domains", "choices", "v"] ["unknowns", "domains"] (defScope s_all_choices) := ⟨rfl, rfl, rfl, by decide +kernel, rfl, by decide +kernel, by decide +kernel⟩
theorem st_all_choices (v0 v1 : V) : L2.start ["unknowns", "domains", "choices", "v"] [v0, v1] = [some v0, some v1, none, none] := rfl
abbrev s_with_result : Stmt := top 15
theorem sc_with_result : FnScope ["choice", "z", "worth", "domains", "more"] ["choice", "z", "worth", "domains"] (defScope s_with_result) := ⟨rfl, rfl, rfl, by decide +kernel, rfl, by decide +kernel, by decide +kernel⟩
theorem st_with_result (v0 v1 v2 v3 : V) : L2.start ["choice", "z", "worth", "domains", "more"] [v0, v1, v2, v3] = [some v0, some v1, some v2, some v3, none] := rfl
abbrev s_table_choices : Stmt := top 16
theorem sc_table_choices : FnScope ["body", "domains", "found", "row", "v", "a"] ["body", "domains"] (defScope s_table_choices) := ⟨rfl, rfl, rfl, by decide +kernel, rfl, by decide +kernel, by decide +kernel⟩
theorem st_table_choices (v0 v1 : V) : L2.start ["body", "domains", "found", "row", "v", "a"] [v0, v1] = [some v0, some v1, none, none, none, none] := rfl
abbrev s_result_choices : Stmt := top 17
theorem sc_result_choices : FnScope ["body", "domains", "found", "inputs", "choice", "worth", "more"] ["body", "domains"] (defScope s_result_choices) := ⟨rfl, rfl, rfl, by decide +kernel, rfl, by decide +kernel, by decide +kernel⟩
theorem st_result_choices (v0 v1 : V) : L2.start ["body", "domains", "found", "inputs", "choice", "worth", "more"] [v0, v1] = [some v0, some v1, none, none, none, none, none] := rfl
abbrev s_body_choices : Stmt := top 18
theorem sc_body_choices : FnScope ["body", "domains", "choice"] ["body", "domains"] (defScope s_body_choices) := ⟨rfl, rfl, rfl, by decide +kernel, rfl, by decide +kernel, by decide +kernel⟩
theorem st_body_choices (v0 v1 : V) : L2.start ["body", "domains", "choice"] [v0, v1] = [some v0, some v1, none] := rfl
abbrev s_is_possible : Stmt := top 20
theorem sc_is_possible : FnScope ["box", "literal", "v", "relation", "a", "low", "high"] ["box", "literal"] (defScope s_is_possible) := ⟨rfl, rfl, rfl, by decide +kernel, rfl, by decide +kernel, by decide +kernel⟩
theorem st_is_possible (v0 v1 : V) : L2.start ["box", "literal", "v", "relation", "a", "low", "high"] [v0, v1] = [some v0, some v1, none, none, none, none, none] := rfl
abbrev s_is_sure : Stmt := top 21
theorem sc_is_sure : FnScope ["box", "literal"] ["box", "literal"] (defScope s_is_sure) := ⟨rfl, rfl, rfl, by decide +kernel, rfl, by decide +kernel, by decide +kernel⟩
theorem st_is_sure (v0 v1 : V) : L2.start ["box", "literal"] [v0, v1] = [some v0, some v1] := rfl
abbrev s_least_sum : Stmt := top 22
theorem sc_least_sum : FnScope ["box", "terms", "total", "v", "c"] ["box", "terms"] (defScope s_least_sum) := ⟨rfl, rfl, rfl, by decide +kernel, rfl, by decide +kernel, by decide +kernel⟩
theorem st_least_sum (v0 v1 : V) : L2.start ["box", "terms", "total", "v", "c"] [v0, v1] = [some v0, some v1, none, none, none] := rfl
abbrev s_ends_wanted : Stmt := top 23
theorem sc_ends_wanted : FnScope ["box", "literal", "v", "relation", "a", "low", "high", "wanted"] ["box", "literal"] (defScope s_ends_wanted) := ⟨rfl, rfl, rfl, by decide +kernel, rfl, by decide +kernel, by decide +kernel⟩
theorem st_ends_wanted (v0 v1 : V) : L2.start ["box", "literal", "v", "relation", "a", "low", "high", "wanted"] [v0, v1] = [some v0, some v1, none, none, none, none, none, none] := rfl
abbrev s_row_ends : Stmt := top 24
theorem sc_row_ends : FnScope ["box", "row", "slack", "wanted", "v", "c"] ["box", "row"] (defScope s_row_ends) := ⟨rfl, rfl, rfl, by decide +kernel, rfl, by decide +kernel, by decide +kernel⟩
theorem st_row_ends (v0 v1 : V) : L2.start ["box", "row", "slack", "wanted", "v", "c"] [v0, v1] = [some v0, some v1, none, none, none, none] := rfl
abbrev s_clause_ends : Stmt := top 25
theorem sc_clause_ends : FnScope ["box", "clause", "live", "literal"] ["box", "clause"] (defScope s_clause_ends) := ⟨rfl, rfl, rfl, by decide +kernel, rfl, by decide +kernel, by decide +kernel⟩
theorem st_clause_ends (v0 v1 : V) : L2.start ["box", "clause", "live", "literal"] [v0, v1] = [some v0, some v1, none, none] := rfl
abbrev s_fact_ends : Stmt := top 26
theorem sc_fact_ends : FnScope ["box", "fact"] ["box", "fact"] (defScope s_fact_ends) := ⟨rfl, rfl, rfl, by decide +kernel, rfl, by decide +kernel, by decide +kernel⟩
theorem st_fact_ends (v0 v1 : V) : L2.start ["box", "fact"] [v0, v1] = [some v0, some v1] := rfl
abbrev s_when_yields : Stmt := top 27
theorem sc_when_yields : FnScope ["box", "body", "literal", "rows", "row"] ["box", "body"] (defScope s_when_yields) := ⟨rfl, rfl, rfl, by decide +kernel, rfl, by decide +kernel, by decide +kernel⟩
theorem st_when_yields (v0 v1 : V) : L2.start ["box", "body", "literal", "rows", "row"] [v0, v1] = [some v0, some v1, none, none, none] := rfl
abbrev s_apart_yields : Stmt := top 28
theorem sc_apart_yields : FnScope ["box", "unknowns", "found", "x", "a", "y"] ["box", "unknowns"] (defScope s_apart_yields) := ⟨rfl, rfl, rfl, by decide +kernel, rfl, by decide +kernel, by decide +kernel⟩
theorem st_apart_yields (v0 v1 : V) : L2.start ["box", "unknowns", "found", "x", "a", "y"] [v0, v1] = [some v0, some v1, none, none, none, none] := rfl
abbrev s_yielded : Stmt := top 29
theorem sc_yielded : FnScope ["box", "body", "kind"] ["box", "body"] (defScope s_yielded) := ⟨rfl, rfl, rfl, by decide +kernel, rfl, by decide +kernel, by decide +kernel⟩
theorem st_yielded (v0 v1 : V) : L2.start ["box", "body", "kind"] [v0, v1] = [some v0, some v1, none] := rfl
abbrev s_support_ends : Stmt := top 30
theorem sc_support_ends : FnScope ["box", "body", "domains", "supports", "wanted", "v", "held", "choice"] ["box", "body"] (defScope s_support_ends) := ⟨rfl, rfl, rfl, by decide +kernel, rfl, by decide +kernel, by decide +kernel⟩
theorem st_support_ends (v0 v1 : V) : L2.start ["box", "body", "domains", "supports", "wanted", "v", "held", "choice"] [v0, v1] = [some v0, some v1, none, none, none, none, none, none] := rfl
abbrev s_is_supported : Stmt := top 31
theorem sc_is_supported : FnScope ["body"] ["body"] (defScope s_is_supported) := ⟨rfl, rfl, rfl, by decide +kernel, rfl, by decide +kernel, by decide +kernel⟩
theorem st_is_supported (v0 : V) : L2.start ["body"] [v0] = [some v0] := rfl
abbrev s_body_ends : Stmt := top 32
theorem sc_body_ends : FnScope ["box", "body", "wanted", "fact", "ends"] ["box", "body"] (defScope s_body_ends) := ⟨rfl, rfl, rfl, by decide +kernel, rfl, by decide +kernel, by decide +kernel⟩
theorem st_body_ends (v0 v1 : V) : L2.start ["box", "body", "wanted", "fact", "ends"] [v0, v1] = [some v0, some v1, none, none, none] := rfl
abbrev s_body_consistent : Stmt := top 33
theorem sc_body_consistent : FnScope ["box", "body", "ends"] ["box", "body"] (defScope s_body_consistent) := ⟨rfl, rfl, rfl, by decide +kernel, rfl, by decide +kernel, by decide +kernel⟩
theorem st_body_consistent (v0 v1 : V) : L2.start ["box", "body", "ends"] [v0, v1] = [some v0, some v1, none] := rfl
abbrev s_law_draw : Stmt := top 35
theorem sc_law_draw : FnScope ["_law_tape_here", "_law_many", "_law_cells", "_law_k", "_law_cell", "_law_digit"] ["_law_tape_here", "_law_many"] (defScope s_law_draw) := ⟨rfl, rfl, rfl, by decide +kernel, rfl, by decide +kernel, by decide +kernel⟩
theorem st_law_draw (v0 v1 : V) : L2.start ["_law_tape_here", "_law_many", "_law_cells", "_law_k", "_law_cell", "_law_digit"] [v0, v1] = [some v0, some v1, none, none, none, none] := rfl
abbrev s_law_tape : Stmt := top 36
theorem sc_law_tape : FnScope ["_law_script"] ["_law_script"] (defScope s_law_tape) := ⟨rfl, rfl, rfl, by decide +kernel, rfl, by decide +kernel, by decide +kernel⟩
theorem st_law_tape (v0 : V) : L2.start ["_law_script"] [v0] = [some v0] := rfl
abbrev s_law_terms : Stmt := top 37
theorem sc_law_terms : FnScope ["_law_tape_here", "_law_many", "_law_terms_here", "_law_v", "_law_c"] ["_law_tape_here", "_law_many"] (defScope s_law_terms) := ⟨rfl, rfl, rfl, by decide +kernel, rfl, by decide +kernel, by decide +kernel⟩
theorem st_law_terms (v0 v1 : V) : L2.start ["_law_tape_here", "_law_many", "_law_terms_here", "_law_v", "_law_c"] [v0, v1] = [some v0, some v1, none, none, none] := rfl
abbrev s_law_literal : Stmt := top 38
theorem sc_law_literal : FnScope ["_law_tape_here", "_law_many", "_law_relation"] ["_law_tape_here", "_law_many"] (defScope s_law_literal) := ⟨rfl, rfl, rfl, by decide +kernel, rfl, by decide +kernel, by decide +kernel⟩
theorem st_law_literal (v0 v1 : V) : L2.start ["_law_tape_here", "_law_many", "_law_relation"] [v0, v1] = [some v0, some v1, none] := rfl
abbrev s_law_some : Stmt := top 39
theorem sc_law_some : FnScope ["_law_tape_here", "_law_many", "_law_least_here", "_law_rest", "_law_found", "_law_k"] ["_law_tape_here", "_law_many", "_law_least_here"] (defScope s_law_some) := ⟨rfl, rfl, rfl, by decide +kernel, rfl, by decide +kernel, by decide +kernel⟩
theorem st_law_some (v0 v1 v2 : V) : L2.start ["_law_tape_here", "_law_many", "_law_least_here", "_law_rest", "_law_found", "_law_k"] [v0, v1, v2] = [some v0, some v1, some v2, none, none, none] := rfl
abbrev s_law_body : Stmt := top 40
theorem sc_law_body : FnScope ["_law_tape_here", "_law_many", "_law_kind", "_law_relation", "_law_literals", "_law_k", "_law_literal_here", "_law_numbers", "_law_rows", "_law_entries", "_law_v"] ["_law_tape_here", "_law_many"] (defScope s_law_body) := ⟨rfl, rfl, rfl, by decide +kernel, rfl, by decide +kernel, by decide +kernel⟩
theorem st_law_body (v0 v1 : V) : L2.start ["_law_tape_here", "_law_many", "_law_kind", "_law_relation", "_law_literals", "_law_k", "_law_literal_here", "_law_numbers", "_law_rows", "_law_entries", "_law_v"] [v0, v1] = [some v0, some v1, none, none, none, none, none, none, none, none, none] := rfl
abbrev s_law_world : Stmt := top 41
theorem sc_law_world : FnScope ["_law_tape_here", "_law_most", "_law_width", "_law_bodies", "_law_unknowns", "_law_v", "_law_low", "_law_many", "_law_found", "_law_goal", "_law_k"] ["_law_tape_here", "_law_most", "_law_width", "_law_bodies"] (defScope s_law_world) := ⟨rfl, rfl, rfl, by decide +kernel, rfl, by decide +kernel, by decide +kernel⟩
theorem st_law_world (v0 v1 v2 v3 : V) : L2.start ["_law_tape_here", "_law_most", "_law_width", "_law_bodies", "_law_unknowns", "_law_v", "_law_low", "_law_many", "_law_found", "_law_goal", "_law_k"] [v0, v1, v2, v3] = [some v0, some v1, some v2, some v3, none, none, none, none, none, none, none] := rfl
abbrev s_law_rel : Stmt := top 42
theorem sc_law_rel : FnScope ["_law_relation", "_law_left", "_law_right"] ["_law_relation", "_law_left", "_law_right"] (defScope s_law_rel) := ⟨rfl, rfl, rfl, by decide +kernel, rfl, by decide +kernel, by decide +kernel⟩
theorem st_law_rel (v0 v1 v2 : V) : L2.start ["_law_relation", "_law_left", "_law_right"] [v0, v1, v2] = [some v0, some v1, some v2] := rfl
abbrev s_law_sum : Stmt := top 43
theorem sc_law_sum : FnScope ["_law_terms_here", "_law_point", "_law_total", "_law_v", "_law_c"] ["_law_terms_here", "_law_point"] (defScope s_law_sum) := ⟨rfl, rfl, rfl, by decide +kernel, rfl, by decide +kernel, by decide +kernel⟩
theorem st_law_sum (v0 v1 : V) : L2.start ["_law_terms_here", "_law_point", "_law_total", "_law_v", "_law_c"] [v0, v1] = [some v0, some v1, none, none, none] := rfl
abbrev s_law_lit : Stmt := top 44
theorem sc_law_lit : FnScope ["_law_literal_here", "_law_point"] ["_law_literal_here", "_law_point"] (defScope s_law_lit) := ⟨rfl, rfl, rfl, by decide +kernel, rfl, by decide +kernel, by decide +kernel⟩
theorem st_law_lit (v0 v1 : V) : L2.start ["_law_literal_here", "_law_point"] [v0, v1] = [some v0, some v1] := rfl
abbrev s_law_holds : Stmt := top 45
theorem sc_law_holds : FnScope ["_law_body_here", "_law_point", "_law_seen", "_law_v", "_law_at", "_law_literal_here"] ["_law_body_here", "_law_point"] (defScope s_law_holds) := ⟨rfl, rfl, rfl, by decide +kernel, rfl, by decide +kernel, by decide +kernel⟩
theorem st_law_holds (v0 v1 : V) : L2.start ["_law_body_here", "_law_point", "_law_seen", "_law_v", "_law_at", "_law_literal_here"] [v0, v1] = [some v0, some v1, none, none, none, none] := rfl
abbrev s_law_negation : Stmt := top 46
theorem sc_law_negation : FnScope ["_law_fact", "_law_v", "_law_relation", "_law_a", "_law_c"] ["_law_fact"] (defScope s_law_negation) := ⟨rfl, rfl, rfl, by decide +kernel, rfl, by decide +kernel, by decide +kernel⟩
theorem st_law_negation (v0 : V) : L2.start ["_law_fact", "_law_v", "_law_relation", "_law_a", "_law_c"] [v0] = [some v0, none, none, none, none] := rfl
abbrev s_law_written : Stmt := top 47
theorem sc_law_written : FnScope ["_law_body_here", "_law_v", "_law_c", "_law_literal_here"] ["_law_body_here"] (defScope s_law_written) := ⟨rfl, rfl, rfl, by decide +kernel, rfl, by decide +kernel, by decide +kernel⟩
theorem st_law_written (v0 : V) : L2.start ["_law_body_here", "_law_v", "_law_c", "_law_literal_here"] [v0] = [some v0, none, none, none] := rfl
abbrev s_law_stated : Stmt := top 48
theorem sc_law_stated : FnScope ["_law_body_here", "_law_found", "_law_v", "_law_c"] ["_law_body_here"] (defScope s_law_stated) := ⟨rfl, rfl, rfl, by decide +kernel, rfl, by decide +kernel, by decide +kernel⟩
theorem st_law_stated (v0 : V) : L2.start ["_law_body_here", "_law_found", "_law_v", "_law_c"] [v0] = [some v0, none, none, none] := rfl
abbrev s_law_same : Stmt := top 49
theorem sc_law_same : FnScope ["_law_answer", "_law_due"] ["_law_answer", "_law_due"] (defScope s_law_same) := ⟨rfl, rfl, rfl, by decide +kernel, rfl, by decide +kernel, by decide +kernel⟩
theorem st_law_same (v0 v1 : V) : L2.start ["_law_answer", "_law_due"] [v0, v1] = [some v0, some v1] := rfl
abbrev s_law_box : Stmt := top 50
theorem sc_law_box : FnScope ["_law_tape_here", "_law_unknowns", "_law_lows", "_law_highs", "_law_name", "_law_low", "_law_high", "_law_a", "_law_b"] ["_law_tape_here", "_law_unknowns"] (defScope s_law_box) := ⟨rfl, rfl, rfl, by decide +kernel, rfl, by decide +kernel, by decide +kernel⟩
theorem st_law_box (v0 v1 : V) : L2.start ["_law_tape_here", "_law_unknowns", "_law_lows", "_law_highs", "_law_name", "_law_low", "_law_high", "_law_a", "_law_b"] [v0, v1] = [some v0, some v1, none, none, none, none, none, none, none] := rfl
abbrev s_law_values : Stmt := top 51
theorem sc_law_values : FnScope ["_law_box_here", "_law_v"] ["_law_box_here", "_law_v"] (defScope s_law_values) := ⟨rfl, rfl, rfl, by decide +kernel, rfl, by decide +kernel, by decide +kernel⟩
theorem st_law_values (v0 v1 : V) : L2.start ["_law_box_here", "_law_v"] [v0, v1] = [some v0, some v1] := rfl
abbrev s_law_least : Stmt := top 52
theorem sc_law_least : FnScope ["_law_box_here", "_law_terms_here", "_law_total", "_law_v", "_law_c", "_law_a"] ["_law_box_here", "_law_terms_here"] (defScope s_law_least) := ⟨rfl, rfl, rfl, by decide +kernel, rfl, by decide +kernel, by decide +kernel⟩
theorem st_law_least (v0 v1 : V) : L2.start ["_law_box_here", "_law_terms_here", "_law_total", "_law_v", "_law_c", "_law_a"] [v0, v1] = [some v0, some v1, none, none, none, none] := rfl
abbrev s_law_bad_row : Stmt := top 53
theorem sc_law_bad_row : FnScope ["_law_box_here", "_law_row", "_law_least_here", "_law_found", "_law_v", "_law_c", "_law_products", "_law_a"] ["_law_box_here", "_law_row"] (defScope s_law_bad_row) := ⟨rfl, rfl, rfl, by decide +kernel, rfl, by decide +kernel, by decide +kernel⟩
theorem st_law_bad_row (v0 v1 : V) : L2.start ["_law_box_here", "_law_row", "_law_least_here", "_law_found", "_law_v", "_law_c", "_law_products", "_law_a"] [v0, v1] = [some v0, some v1, none, none, none, none, none, none] := rfl
abbrev s_law_bad_all : Stmt := top 54
theorem sc_law_bad_all : FnScope ["_law_box_here", "_law_rows", "_law_found", "_law_row", "_law_bad"] ["_law_box_here", "_law_rows"] (defScope s_law_bad_all) := ⟨rfl, rfl, rfl, by decide +kernel, rfl, by decide +kernel, by decide +kernel⟩
theorem st_law_bad_all (v0 v1 : V) : L2.start ["_law_box_here", "_law_rows", "_law_found", "_law_row", "_law_bad"] [v0, v1] = [some v0, some v1, none, none, none] := rfl
abbrev s_law_bad_keep : Stmt := top 55
theorem sc_law_bad_keep : FnScope ["_law_box_here", "_law_literal_here", "_law_v", "_law_relation", "_law_a", "_law_found", "_law_side"] ["_law_box_here", "_law_literal_here"] (defScope s_law_bad_keep) := ⟨rfl, rfl, rfl, by decide +kernel, rfl, by decide +kernel, by decide +kernel⟩
theorem st_law_bad_keep (v0 v1 : V) : L2.start ["_law_box_here", "_law_literal_here", "_law_v", "_law_relation", "_law_a", "_law_found", "_law_side"] [v0, v1] = [some v0, some v1, none, none, none, none, none] := rfl
abbrev s_law_bad_clause : Stmt := top 56
theorem sc_law_bad_clause : FnScope ["_law_box_here", "_law_clause", "_law_live", "_law_literal_here", "_law_a"] ["_law_box_here", "_law_clause"] (defScope s_law_bad_clause) := ⟨rfl, rfl, rfl, by decide +kernel, rfl, by decide +kernel, by decide +kernel⟩
theorem st_law_bad_clause (v0 v1 : V) : L2.start ["_law_box_here", "_law_clause", "_law_live", "_law_literal_here", "_law_a"] [v0, v1] = [some v0, some v1, none, none, none] := rfl
abbrev s_law_bad_when : Stmt := top 57
theorem sc_law_bad_when : FnScope ["_law_box_here", "_law_body_here", "_law_literal_here", "_law_rows", "_law_row", "_law_a"] ["_law_box_here", "_law_body_here"] (defScope s_law_bad_when) := ⟨rfl, rfl, rfl, by decide +kernel, rfl, by decide +kernel, by decide +kernel⟩
theorem st_law_bad_when (v0 v1 : V) : L2.start ["_law_box_here", "_law_body_here", "_law_literal_here", "_law_rows", "_law_row", "_law_a"] [v0, v1] = [some v0, some v1, none, none, none, none] := rfl
abbrev s_law_bad_different : Stmt := top 58
theorem sc_law_bad_different : FnScope ["_law_box_here", "_law_numbers", "_law_found", "_law_x", "_law_y", "_law_side"] ["_law_box_here", "_law_numbers"] (defScope s_law_bad_different) := ⟨rfl, rfl, rfl, by decide +kernel, rfl, by decide +kernel, by decide +kernel⟩
theorem st_law_bad_different (v0 v1 : V) : L2.start ["_law_box_here", "_law_numbers", "_law_found", "_law_x", "_law_y", "_law_side"] [v0, v1] = [some v0, some v1, none, none, none, none] := rfl
abbrev s_law_supports : Stmt := top 59
theorem sc_law_supports : FnScope ["_law_box_here", "_law_body_here", "_law_points", "_law_v", "_law_longer", "_law_point", "_law_a", "_law_low"] ["_law_box_here", "_law_body_here"] (defScope s_law_supports) := ⟨rfl, rfl, rfl, by decide +kernel, rfl, by decide +kernel, by decide +kernel⟩
theorem st_law_supports (v0 v1 : V) : L2.start ["_law_box_here", "_law_body_here", "_law_points", "_law_v", "_law_longer", "_law_point", "_law_a", "_law_low"] [v0, v1] = [some v0, some v1, none, none, none, none, none, none] := rfl
abbrev s_law_bad_supports : Stmt := top 60
theorem sc_law_bad_supports : FnScope ["_law_box_here", "_law_body_here", "_law_many", "_law_points", "_law_found", "_law_v", "_law_side", "_law_point"] ["_law_box_here", "_law_body_here"] (defScope s_law_bad_supports) := ⟨rfl, rfl, rfl, by decide +kernel, rfl, by decide +kernel, by decide +kernel⟩
theorem st_law_bad_supports (v0 v1 : V) : L2.start ["_law_box_here", "_law_body_here", "_law_many", "_law_points", "_law_found", "_law_v", "_law_side", "_law_point"] [v0, v1] = [some v0, some v1, none, none, none, none, none, none] := rfl
abbrev s_law_bad_body : Stmt := top 61
theorem sc_law_bad_body : FnScope ["_law_box_here", "_law_body_here"] ["_law_box_here", "_law_body_here"] (defScope s_law_bad_body) := ⟨rfl, rfl, rfl, by decide +kernel, rfl, by decide +kernel, by decide +kernel⟩
theorem st_law_bad_body (v0 v1 : V) : L2.start ["_law_box_here", "_law_body_here"] [v0, v1] = [some v0, some v1] := rfl
abbrev s_law_large : Stmt := top 62
theorem sc_law_large : FnScope ["_law_tape_here", "_law_low", "_law_size", "_law_first", "_law_box_here"] ["_law_tape_here"] (defScope s_law_large) := ⟨rfl, rfl, rfl, by decide +kernel, rfl, by decide +kernel, by decide +kernel⟩
theorem st_law_large (v0 : V) : L2.start ["_law_tape_here", "_law_low", "_law_size", "_law_first", "_law_box_here"] [v0] = [some v0, none, none, none, none] := rfl
abbrev s_law : Stmt := top 63
theorem sc_law : FnScope ["_law_script", "_law_tape_here", "_law_box_here", "_law_body_here", "_law_unknowns", "_law_told"] ["_law_script"] (defScope s_law) := ⟨rfl, rfl, rfl, by decide +kernel, rfl, by decide +kernel, by decide +kernel⟩
theorem st_law (v0 : V) : L2.start ["_law_script", "_law_tape_here", "_law_box_here", "_law_body_here", "_law_unknowns", "_law_told"] [v0] = [some v0, none, none, none, none, none] := rfl
structure Bi (K : PySem.W.Frag) (mg : Str → Option Value) : Prop where
  n_len : mg "len" = none
  n_int : mg "int" = none
  n_list : mg "list" = none
  n_tuple : mg "tuple" = none
  n_range : mg "range" = none
  n_all : mg "all" = none
  n_any : mg "any" = none
  n_isinstance : mg "isinstance" = none
  n_bool : mg "bool" = none
  n_set : mg "set" = none
  n_str : mg "str" = none
  n_sorted : mg "sorted" = none
  n_min : mg "min" = none
  n_max : mg "max" = none
  n_zip : mg "zip" = none
  n_dict : mg "dict" = none
  c_COST_MOST : ∃ u, mg "COST_MOST" = some u ∧ RelV (.int 400) u
section
variable {P : Program} {w : World} {K : PySem.W.Frag} {mg : Str → Option Value} {base : Heap} {C_Model : Addr}
theorem ok_relation_holds {f : Addr} {fd : FuncData} (F : Fun K "relation_holds" "relation_holds" s_relation_holds f fd) (B : Bi K mg)  : FnOk P w K mg base CX0 1 f fd ["relation", "left", "right"] spRel := by
  have nd := sc_relation_holds.nd
  refine F.ok sc_relation_holds ?len (fun cdv A outer s H vs Q E hr h => ?body)
  case len =>
    rintro vs H Q E ⟨r, a, b, rfl, _⟩
    rfl
  case body =>
    obtain ⟨r, a, b, rfl, q⟩ := h
    refine ⟨_, (pss_cons (ps_if (pt_cmpR op_eq (pv 0) pe_str (nomark _))
      (pss_one (ps_ret (pe_cmpR op_le (pv 1) (pv 2) (nomark _))))
      pss_nil)
      (pss_cons (ps_if (pt_cmpR op_eq (pv 0) pe_str (nomark _))
      (pss_one (ps_ret (pe_cmpR op_ge (pv 1) (pv 2) (nomark _))))
      pss_nil)
      (pss_cons (ps_if (pt_cmpR op_eq (pv 0) pe_str (nomark _))
      (pss_one (ps_ret (pe_cmpR op_eq (pv 1) (pv 2) (nomark _))))
      pss_nil)
      (pss_one (ps_ret (pe_cmpR op_ne (pv 1) (pv 2) (nomark _))))))), ?_⟩
    try dsimp only [L2.cxOf, L2.Cx.nox, L2.Cx.wish]
    rw [st_relation_holds]
    cases r
    all_goals
      walk_at "cg"
      exact q

theorem ok_literal_holds {f : Addr} {fd : FuncData} (F : Fun K "literal_holds" "literal_holds" s_literal_holds f fd) (B : Bi K mg) (D_relation_holds : Is P w K mg base CX0 1 "relation_holds" ["relation", "left", "right"] spRel) : FnOk P w K mg base CX0 2 f fd ["literal", "worth"] (spLit K) := by
  have nd := sc_literal_holds.nd
  refine F.ok sc_literal_holds ?len (fun cdv A outer s H vs Q E hr h => ?body)
  case len =>
    rintro vs H Q E ⟨p, v, r, a, x, rfl, _⟩
    rfl
  case body =>
    obtain ⟨p, v, r, a, x, rfl, hL, q⟩ := h
    refine ⟨_, (pss_one (ps_ret (pe_is D_relation_holds (hr.mono (by decide)) rfl pass0 (pa_cons (pe_ix (ixT K) (pv 0) pe_int (fun _ _ => rfl)) (pa_cons (pv 1) (pa_cons (pe_ix (ixT K) (pv 0) pe_int (fun _ _ => rfl)) pa_nil)))))), ?_⟩
    try dsimp only [L2.cxOf, L2.Cx.nox, L2.Cx.wish]
    rw [st_literal_holds]
    walk_at "cg"
    exact q

theorem ok_terms_sum {f : Addr} {fd : FuncData} (F : Fun K "terms_sum" "terms_sum" s_terms_sum f fd) (B : Bi K mg)  : FnOk P w K mg base CX0 1 f fd ["terms", "point"] (spSumF K) := by
  have nd := sc_terms_sum.nd
  refine F.ok sc_terms_sum ?len (fun cdv A outer s H vs Q E hr h => ?body)
  case len =>
    rintro vs H Q E ⟨p, q, ts, f, dom, rfl, _⟩
    rfl
  case body =>
    obtain ⟨p, q, ts, f, dom, rfl, hI, hP, hD, hT, k⟩ := h
    refine ⟨_, (pss_cons (ps_set (i := 2) nd rfl (Or.inl rfl) pe_int)
      (pss_cons (ps_for PassesOwn.never rfl (pi_tup (pv 0)) (pg_tup (n := 2) rfl (pgs_cons (pg_name (i := 3) nd rfl (Or.inl rfl)) (pgs_cons (pg_name (i := 4) nd rfl (Or.inl rfl)) pgs_nil)))
      (pss_one (ps_aug (i := 2) nd rfl (Or.inl rfl) (pe_op op_mul (pv 4) (pe_ix (ixP K) (pv 1) (pv 3) (fun _ _ => rfl))) ip_add)))
      (pss_one (ps_ret (pv 2))))), ?_⟩
    try dsimp only [L2.cxOf, L2.Cx.nox, L2.Cx.wish]
    rw [st_terms_sum]
    obtain ⟨xs, h1, h2⟩ := hI.open
    walk_at "cg"
    refine r_forTI [] h1 h2 (fun i σ' H' => ∃ x3 x4 : Option V, σ' = [some (.ref p), some (.ref q), some (.int (sumF (ts.take i) f)), x3, x4] ∧ H = H') ⟨_, _, rfl, rfl⟩ (fun i σ' H' ⟨_, _, _, e⟩ => e ▸ .refl) ?_ ?_
    · rintro i z x σ' H' hz hxd _ ⟨x3, x4, rfl, rfl⟩
      obtain ⟨px, rfl, hs⟩ := term_at hxd
      have hzt := hT z (List.mem_of_getElem? hz)
      walk_at "cg"
      refine r_pt hP (hD z (List.mem_of_getElem? hz)) ?_
      walk_at "cg"
      exact ⟨_, _, by rw [sumF_take f hz], rfl⟩
    · rintro σ' H' _ ⟨x3, x4, rfl, rfl⟩
      walk_at "cg"
      rw [List.take_length]
      exact k

end
section
variable {P : Program} {w : World} {K : PySem.W.Frag} {mg : Str → Option Value} {base : Heap} {C_Model : Addr}
theorem ok_law_draw {f : Addr} {fd : FuncData} (F : Fun K "_law_draw" "_law_draw" s_law_draw f fd) (B : Bi K mg)  : FnOk P w K mg base CX0 1 f fd ["_law_tape_here", "_law_many"] spDraw := by
  have nd := sc_law_draw.nd
  refine F.ok sc_law_draw ?len (fun cdv A outer s H vs Q E hr h => ?body)
  case len =>
    rintro vs H Q E ⟨t, c, m, rfl, _⟩
    rfl
  case body =>
    obtain ⟨t, c, m, rfl, T, hm1, hm2, q⟩ := h
    refine ⟨_, (Evl.pss_cut (ps_if (pt_cmpR op_lt (pe_ix (ixL K) (pv 0) pe_int (fun _ _ => rfl)) (pv 1) (nomark _))
      (pss_cons (ps_set (i := 2) nd rfl (Or.inl rfl) (pe_ix (ixL K) (pv 0) pe_int (fun _ _ => rfl)))
      (pss_cons (ps_set (i := 3) nd rfl (Or.inl rfl) (pe_ix (ixL K) (pv 0) pe_int (fun _ _ => rfl)))
      (pss_cons (ps_set (i := 4) nd rfl (Or.inl rfl) pe_int)
      (Evl.pss_cut (ps_if (pt_cmpR op_lt (pv 3) (pe_callB (cgLen K) (by rfl) B.n_len PySem.boot_len (pa_cons (pv 2) pa_nil)) (nomark _))
      (pss_one (ps_set (i := 4) nd rfl (Or.inl rfl) (pe_ix (ixL K) (pv 2) (pv 3) (fun _ _ => rfl))))
      pss_nil)
      (Evl.pss_cut (ps_if (pt_cmpR op_lt (pv 4) pe_int (nomark _))
      (pss_one (ps_set (i := 4) nd rfl (Or.inl rfl) (pe_op op_sub (pe_op op_mul (pe_un un_neg pe_int) (pv 4)) pe_int)))
      pss_nil)
      (Evl.pss_cut (ps_if (pt_cmpR op_lt (pv 4) (pe_op op_pow pe_int pe_int) (nomark _))
      (pss_cons (ps_set (i := 4) nd rfl (Or.inl rfl) (pe_op op_mod (pe_callTy cg_int (by rfl) B.n_int PyProof.Rows.boot_int (pa_cons (pe_op op_add (pe_op op_add (pe_op op_mul (pv 4) pe_int) (pe_op op_mul (pv 3) pe_int)) pe_int) pa_nil)) pe_int))
      (pss_one (ps_set (i := 4) nd rfl (Or.inl rfl) (pe_op op_mod (pe_callTy cg_int (by rfl) B.n_int PyProof.Rows.boot_int (pa_cons (pe_op op_add (pe_op op_add (pe_op op_mul (pv 4) pe_int) (pe_op op_mul (pv 3) pe_int)) pe_int) pa_nil)) pe_int))))
      pss_nil)
      (pss_cons (ps_asg (pe_op op_add (pv 3) pe_int) (pg_sub (pv 0) pe_int set_list))
      (pss_one (ps_asg (pv 4) (pg_sub (pv 0) pe_int set_list))))))))))
      pss_nil)
      (pss_cons (ps_set (i := 5) nd rfl (Or.inl rfl) (pe_op op_mod (pe_callTy cg_int (by rfl) B.n_int PyProof.Rows.boot_int (pa_cons (pe_ix (ixL K) (pv 0) pe_int (fun _ _ => rfl)) pa_nil)) (pv 1)))
      (pss_cons (ps_asg (pe_op op_fdivW (pe_ix (ixL K) (pv 0) pe_int (fun _ _ => rfl)) (pv 1)) (pg_sub (pv 0) pe_int set_list))
      (pss_one (ps_ret (pv 5)))))), ?_⟩
    try dsimp only [L2.cxOf, L2.Cx.nox, L2.Cx.wish]
    rw [st_law_draw]
    obtain ⟨ns, k, z, h1, h2, hk, hz⟩ := id T.ex
    have net := T.ne
    show Evl.tCut _ _ _ _ _
    refine ⟨fun σ' H1 => ∃ (k z : Int) (x1 x2 x3 x4 : Option V), σ' = [some (V.ref t), some (.int m), x1, x2, x3, x4] ∧ H1 t = some (.lst [.ref c, .int k, .int z]) ∧ H1 c = some (.lst (ns.map V.int)) ∧ 0 ≤ k ∧ 0 ≤ z ∧ (H1 = H ∨ Kp [t] H H1), ?_, ?_⟩
    · walk_at "cg"
      refine if_S (fun hc => ?_) (fun hc => ?_)
      · walk_at "cg"
        refine ⟨fun σ' H1 => ∃ z' : Int, σ' = [some (V.ref t), some (.int m), some (V.ref c), some (.int k), some (.int z'), none] ∧ H = H1, ?_, ?_⟩
        · walk_at "cg"
          refine if_S (fun hk1 => ?_) (fun hk1 => ?_)
          · walk_at "cg"
            rw [List.length_map] at hk1
            refine r_ixL h2 (v := .int (ns.getD k.toNat 0)) ?_ ?_
            · have e : k.toNat < ns.length := by omega
              simp [atI, ixN, hk, hk1, e]
            · walk_at "cg"
              exact ⟨_, rfl, rfl⟩
          · walk_at "cg"
            exact ⟨_, rfl, rfl⟩
        · rintro σ' H1 ⟨z1, rfl, rfl⟩
          refine ⟨fun σ' H2 => ∃ z' : Int, 0 ≤ z' ∧ σ' = [some (V.ref t), some (.int m), some (V.ref c), some (.int k), some (.int z'), none] ∧ H = H2, ?_, ?_⟩
          · walk_at "cg"
            refine if_S (fun hk1 => ?_) (fun hk1 => ?_)
            · walk_at "cg"
              exact ⟨_, by omega, rfl, rfl⟩
            · walk_at "cg"
              exact ⟨_, by omega, rfl, rfl⟩
          · rintro σ' H2 ⟨z2, hz2, rfl, rfl⟩
            refine ⟨fun σ' H2 => ∃ z' : Int, 0 ≤ z' ∧ σ' = [some (V.ref t), some (.int m), some (V.ref c), some (.int k), some (.int z'), none] ∧ H = H2, ?_, ?_⟩
            · walk_at "cg"
              refine if_S (fun hk1 => ?_) (fun hk1 => ?_)
              · walk_at "cg"
                exact ⟨_, by omega, rfl, rfl⟩
              · walk_at "cg"
                exact ⟨_, hz2, rfl, rfl⟩
            · rintro σ' H2 ⟨z3, hz3, rfl, rfl⟩
              walk_at "cg"
              intro H2 e1 k1
              walk_at "cg"
              intro H3 e2 k2
              walk_at "cg"
              exact ⟨k + 1, z3, _, _, _, _, rfl, e2, k2.get1 net.symm (k1.get1 net.symm h2), by omega, hz3, .inr ⟨fun b o hb e => k2.k b o hb (k1.k b o hb e), k1.mu⟩⟩
      · walk_at "cg"
        exact ⟨k, z, _, _, _, _, rfl, h1, h2, hk, hz, .inl rfl⟩
    · rintro σ' H1 ⟨k, z, x1, x2, x3, x4, rfl, g1, g2, gk, gz, hk⟩
      walk_at "cg"
      refine r_rI (bigB_ok hm1 hm2) ?_
      walk_at "cg"
      intro H2 e1 k1
      walk_at "cg"
      refine q _ _ (Int.emod_nonneg _ (by omega)) (Int.emod_lt_of_pos _ (by omega)) ⟨ns, k, _, e1, k1.get1 net.symm g2, gk, Int.ediv_nonneg gz (by omega)⟩ ?_
      rcases hk with rfl | hk
      · exact k1
      · exact ⟨fun b o hb e => k1.k b o hb (hk.k b o hb e), hk.mu⟩

theorem ok_law_tape {f : Addr} {fd : FuncData} (F : Fun K "_law_tape" "_law_tape" s_law_tape f fd) (B : Bi K mg)  : FnOk P w K mg base CX0 1 f fd ["_law_script"] (spTape K) := by
  have nd := sc_law_tape.nd
  refine F.ok sc_law_tape ?len (fun cdv A outer s H vs Q E hr h => ?body)
  case len =>
    rintro vs H Q E ⟨a, ns, rfl, _⟩
    rfl
  case body =>
    obtain ⟨a, ns, rfl, hS, q⟩ := h
    refine ⟨_, (pss_one (ps_ret (pe_lst (pa_cons (pe_callTy (cgList K) (by rfl) B.n_list (by decide +kernel) (pa_cons (pv 0) pa_nil)) (pa_cons pe_int (pa_cons pe_int pa_nil)))))), ?_⟩
    try dsimp only [L2.cxOf, L2.Cx.nox, L2.Cx.wish]
    rw [st_law_tape]
    walk_at "cg"
    rename_i c H1 hc h1 k1 t H2 ht h2 k2
    exact q _ _ _ (Kp.free0 (by assumption) ht) hc ⟨ns, 0, 0, h2, k2.get0 h1, by decide, by decide⟩ (by walk_at "cg kp")

theorem ok_law_same {f : Addr} {fd : FuncData} (F : Fun K "_law_same" "_law_same" s_law_same f fd) (B : Bi K mg)  : FnOk P w K mg base CX0 1 f fd ["_law_answer", "_law_due"] spSame := by
  have nd := sc_law_same.nd
  refine F.ok sc_law_same ?len (fun cdv A outer s H vs Q E hr h => ?body)
  case len =>
    rintro vs H Q E ⟨a, b, rfl, _⟩
    rfl
  case body =>
    obtain ⟨a, b, rfl, q⟩ := h
    refine ⟨_, (pss_one (ps_ret (pe_and (pe_callB (cgIsi K) (by rfl) B.n_isinstance (by decide +kernel) (pa_cons (pv 0) (pa_cons (pe_bltn (v := .ty "bool") rfl B.n_bool (by decide +kernel) rfl) pa_nil))) (pe_one (pe_cmpR op_eq (pv 0) (pv 1) (nomark _)))))), ?_⟩
    try dsimp only [L2.cxOf, L2.Cx.nox, L2.Cx.wish]
    rw [st_law_same]
    walk_at "cg"
    exact q

theorem ok_law_terms {f : Addr} {fd : FuncData} (F : Fun K "_law_terms" "_law_terms" s_law_terms f fd) (B : Bi K mg) (D_law_draw : Is P w K mg base CX0 1 "_law_draw" ["_law_tape_here", "_law_many"] spDraw) : FnOk P w K mg base CX0 2 f fd ["_law_tape_here", "_law_many"] (spLawTerms K) := by
  have nd := sc_law_terms.nd
  refine F.ok sc_law_terms ?len (fun cdv A outer s H vs Q E hr h => ?body)
  case len =>
    rintro vs H Q E ⟨t, c, m, rfl, _⟩
    rfl
  case body =>
    obtain ⟨t, c, m, rfl, T, m0, m1, q⟩ := h
    refine ⟨_, (pss_cons (ps_set (i := 2) nd rfl (Or.inl rfl) (pe_lst pa_nil))
      (pss_cons (ps_for PassesOwn.never rfl (pi_range1 rfl B.n_range (pa_cons (pv 1) pa_nil)) (pg_name (i := 3) nd rfl (Or.inl rfl))
      (pss_cons (ps_set (i := 4) nd rfl (Or.inl rfl) (pe_op op_sub (pe_is D_law_draw (hr.mono (by decide)) rfl pass0 (pa_cons (pv 0) (pa_cons pe_int pa_nil))) pe_int))
      (pss_one (ps_if (pt_cmpR op_ne (pv 4) pe_int (nomark _))
      (pss_one (ps_expr (pe_bm PySem.F.plainAttrs_list PySem.F.slot_list_append PySem.F.type_list_append mt_append (pv 2) (pa_cons (pe_tup (pa_cons (pv 3) (pa_cons (pv 4) pa_nil))) pa_nil))))
      pss_nil))))
      (pss_one (ps_ret (pe_callTy (cgTuple K) (by rfl) B.n_tuple (by decide +kernel) (pa_cons (pv 2) pa_nil)))))), ?_⟩
    try dsimp only [L2.cxOf, L2.Cx.nox, L2.Cx.wish]
    rw [st_law_terms]
    walk_at "cg"
    rename_i l H1 hl el kl
    have nlt : l ≠ t := by walk_at "cg ne"
    have nlc : l ≠ c := by walk_at "cg ne"
    have T1 : Tp t c H1 := by walk_at "cg h"
    refine r_forR (fun i σ' H' => ∃ (ts : Tms) (refs : List V) (x3 x4 : Option V), σ' = [some (.ref t), some (.int m), some (.ref l), x3, x4] ∧ Tp t c H' ∧ Kp [t] H H' ∧ H' l = some (.lst refs) ∧ ImAll K H' refs (ts.map tD) ∧
      (∀ z ∈ ts, 0 ≤ z.1 ∧ z.1 < i ∧ z.2 ≠ 0 ∧ -3 ≤ z.2 ∧ z.2 ≤ 3) ∧ (ts.map (·.1)).Pairwise (· < ·) ∧ ts.length ≤ i) ⟨[], [], none, none, rfl, T1, by walk_at "cg kp", el, .nil, (fun z hz => by cases hz), List.Pairwise.nil, Nat.le_refl _⟩ ?_ ?_
    · rintro i σ' H2 hi ⟨ts, refs, x3, x4, rfl, T2, k2, e2, A2, ok, asc, hn⟩
      have hrl := mapLenP A2
      clear T1 el kl T
      walk_at "cg"
      refine if_S (fun h0 => ?_) (fun h0 => ?_)
      · walk_at "cg"
        rename_i d H3 d0 d6 T3 k3 pn H4 hpn sn k4 H5 e5 k5
        refine ⟨ts ++ [((i : Int), d - 3)], refs ++ [.ref pn], some (.int (0 + (i : Int))), some (.int (d - 3)), rfl, by walk_at "cg h", by walk_at "cg kp", e5, ?_, fun z hz => ?_, ?_, by simp; omega⟩
        · rw [List.map_append]
          refine (k5.imAll (k4.imAll (k3.imAll A2))).snoc (.tup (k5.tup sn) ?_)
          rw [show (0 + (i : Int)) = (i : Int) by omega]
          exact .cons (.int _) (.cons (.int _) .nil)
        · rcases List.mem_append.mp hz with h | h
          · have q := ok z h
            omega
          · rw [List.mem_singleton] at h
            subst h
            simp only
            omega
        · rw [List.map_append, List.pairwise_append]
          refine ⟨asc, List.pairwise_singleton .., fun a ha b hb => ?_⟩
          obtain ⟨z, hz, rfl⟩ := List.mem_map.mp ha
          have q := ok z hz
          simp only [List.map_cons, List.map_nil, List.mem_singleton] at hb
          subst hb
          exact q.2.1
      · walk_at "cg"
        rename_i d H3 d0 d6 T3 k3
        exact ⟨ts, refs, some (.int (0 + (i : Int))), some (.int (d - 3)), rfl, by walk_at "cg h", by walk_at "cg kp", by walk_at "cg h", by walk_at "cg h", (fun z hz => by have q := ok z hz; omega), asc, by omega⟩
    · rintro σ' H2 ⟨ts, refs, x3, x4, rfl, T2, k2, e2, A2, ok, asc, hn⟩
      clear T1 el kl T
      walk_at "cg"
      exact q _ _ _ (.tup (by assumption) (by walk_at "cg h")) ⟨(fun z hz => by have q := ok z hz; omega), asc, by omega⟩ (by walk_at "cg h") (by walk_at "cg kp")
theorem ok_law_literal {f : Addr} {fd : FuncData} (F : Fun K "_law_literal" "_law_literal" s_law_literal f fd) (B : Bi K mg) (D_law_draw : Is P w K mg base CX0 1 "_law_draw" ["_law_tape_here", "_law_many"] spDraw) : FnOk P w K mg base CX0 2 f fd ["_law_tape_here", "_law_many"] (spLawLiteral K) := by
  have nd := sc_law_literal.nd
  refine F.ok sc_law_literal ?len (fun cdv A outer s H vs Q E hr h => ?body)
  case len =>
    rintro vs H Q E ⟨t, c, m, rfl, _⟩
    rfl
  case body =>
    obtain ⟨t, c, m, rfl, T, m0, m1, q⟩ := h
    refine ⟨_, (pss_cons (ps_set (i := 2) nd rfl (Or.inl rfl) (pe_ix (ixL K) (pe_lst (pa_cons pe_str (pa_cons pe_str (pa_cons pe_str (pa_cons pe_str pa_nil))))) (pe_is D_law_draw (hr.mono (by decide)) rfl pass0 (pa_cons (pv 0) (pa_cons pe_int pa_nil))) (fun _ _ => rfl)))
      (pss_one (ps_ret (pe_tup (pa_cons (pe_is D_law_draw (hr.mono (by decide)) rfl pass0 (pa_cons (pv 0) (pa_cons (pv 1) pa_nil))) (pa_cons (pv 2) (pa_cons (pe_op op_sub (pe_is D_law_draw (hr.mono (by decide)) rfl pass0 (pa_cons (pv 0) (pa_cons pe_int pa_nil))) pe_int) pa_nil))))))), ?_⟩
    try dsimp only [L2.cxOf, L2.Cx.nox, L2.Cx.wish]
    rw [st_law_literal]
    have mb : m < bigB := by
      have e : (60 : Int) < bigB := by decide
      omega
    walk_at "cg"
    refine ix_rel4 (by walk_at "cg h") (by assumption) (by assumption) fun r => ?_
    walk_at "cg"
    rename_i d1 _ _ _ _ _ d2 _ _ _ _ _ p1 H5 _ _ _
    exact q p1 ⟨d1, r, d2 - 3⟩ _ (by assumption) ⟨by assumption, by assumption, by simp only; omega, by simp only; omega⟩ (by walk_at "cg h") (by walk_at "cg kp")
theorem ok_law_some {f : Addr} {fd : FuncData} (F : Fun K "_law_some" "_law_some" s_law_some f fd) (B : Bi K mg) (D_law_draw : Is P w K mg base CX0 1 "_law_draw" ["_law_tape_here", "_law_many"] spDraw) : FnOk P w K mg base CX0 2 f fd ["_law_tape_here", "_law_many", "_law_least_here"] (spLawSome K) := by
  have nd := sc_law_some.nd
  refine F.ok sc_law_some ?len (fun cdv A outer s H vs Q E hr h => ?body)
  case len =>
    rintro vs H Q E ⟨t, c, m, k, rfl, _⟩
    rfl
  case body =>
    obtain ⟨t, c, m, k, rfl, T, k0, k1, m1, q⟩ := h
    refine ⟨_, (pss_cons (ps_set (i := 3) nd rfl (Or.inl rfl) (pe_listRg rfl (by rfl) B.n_list (prg_1 (by rfl) B.n_range (pv 1))))
      (pss_cons (ps_set (i := 4) nd rfl (Or.inl rfl) (pe_lst pa_nil))
      (pss_cons (ps_for PassesOwn.never rfl (pi_range1 rfl B.n_range (pa_cons (pe_op op_add (pv 2) (pe_is D_law_draw (hr.mono (by decide)) rfl pass0 (pa_cons (pv 0) (pa_cons (pe_op op_add (pe_op op_sub (pv 1) (pv 2)) pe_int) pa_nil)))) pa_nil)) (pg_name (i := 5) nd rfl (Or.inl rfl))
      (pss_one (ps_expr (pe_bm PySem.F.plainAttrs_list PySem.F.slot_list_append PySem.F.type_list_append mt_append (pv 4) (pa_cons (pe_bm PySem.F.plainAttrs_list PySem.F.slot_list_pop PySem.F.type_list_pop mt_popAt (pv 3) (pa_cons (pe_is D_law_draw (hr.mono (by decide)) rfl pass0 (pa_cons (pv 0) (pa_cons (pe_callB (cgLen K) (by rfl) B.n_len PySem.boot_len (pa_cons (pv 3) pa_nil)) pa_nil))) pa_nil)) pa_nil)))))
      (pss_one (ps_ret (pe_callTy (cgTuple K) (by rfl) B.n_tuple (by decide +kernel) (pa_cons (pv 4) pa_nil))))))), ?_⟩
    try dsimp only [L2.cxOf, L2.Cx.nox, L2.Cx.wish]
    rw [st_law_some]
    have mb : m - k + 1 < bigB := by
      have e : (62 : Int) < bigB := by decide
      omega
    walk_at "cg"
    refine r_lstRg (by omega) (by omega) fun l1 H1 hl1 el1 kl1 => ?_
    walk_at "cg"
    rename_i l2 H2 hl2 el2 kl2 d H3 d0 d1 T3 kd
    have n1t : l1 ≠ t := by walk_at "cg ne"
    have n1c : l1 ≠ c := by walk_at "cg ne"
    have n2t : l2 ≠ t := by walk_at "cg ne"
    have n2c : l2 ≠ c := by walk_at "cg ne"
    have n12 : l1 ≠ l2 := ne_newL hl2 el1
    have K3 : Kp [t] H H3 := by walk_at "cg kp"
    have E1 : H3 l1 = some (.lst ((rgI 0 m).map V.int)) := Kp.get1 kd n1t (kl2.get0 el1)
    have E2 : H3 l2 = some (.lst []) := Kp.get1 kd n2t el2
    have f1 : H l1 = none := hl1
    have f2 : H l2 = none := by walk_at "cg fr"
    clear T kl1 kl2 el1 el2 kd hl2
    refine r_forR (fun i σ' H' => ∃ (rs fs : List Int) (x5 : Option V), σ' = [some (.ref t), some (.int m), some (.int k), some (.ref l1), some (.ref l2), x5] ∧ Tp t c H' ∧ Kp [t] H H' ∧ H' l1 = some (.lst (rs.map V.int)) ∧ H' l2 = some (.lst (fs.map V.int)) ∧
      (fs ++ rs).Perm (rgI 0 m) ∧ fs.length = i) ⟨rgI 0 m, [], _, rfl, T3, K3, E1, E2, by rw [List.nil_append], rfl⟩ ?_ ?_
    · clear T3 K3 E1 E2
      rintro i σ' H4 hi ⟨rs, fs, x5, rfl, T4, k4, e1, e2, pm, hn⟩
      have tot := pm.length_eq
      rw [List.length_append, rgI_len] at tot
      have hrl : (rs.map V.int).length = rs.length := List.length_map ..
      have hr1 : 1 ≤ (((rs.map V.int).length : Nat) : Int) := by omega
      have hrb : (((rs.map V.int).length : Nat) : Int) < bigB := by
        have e : (62 : Int) < bigB := by decide
        omega
      have hfl : (fs.map V.int).length = fs.length := List.length_map ..
      walk_at "cg"
      rename_i d' H5 d0' d1' T5 k5
      refine r_pop (by walk_at "cg h") d0' (by omega) (by omega) fun y H6 ey e6 k6 => ?_
      rw [List.getElem?_map] at ey
      cases hy : rs[d'.toNat]? with
      | none =>
        rw [hy] at ey
        cases ey
      | some y' =>
        rw [hy] at ey
        cases ey
        have E6 : H6 l2 = some (.lst (fs.map V.int)) := Kp.get1 k6 n12.symm (by walk_at "cg h")
        walk_at "cg"
        rename_i H7 e7 k7
        refine ⟨rs.eraseIdx d'.toNat, fs ++ [y'], _, rfl, by walk_at "cg h", by walk_at "cg kp", ?_, by rw [e7, List.map_append]; rfl, some_step pm hy, by simp [hn]⟩
        rw [← erase_map]
        exact Kp.get1 k7 n12 e6
    · clear T3 K3 E1 E2
      rintro σ' H4 ⟨rs, fs, x5, rfl, T4, k4, e1, e2, pm, hn⟩
      walk_at "cg"
      have tot := pm.length_eq
      rw [List.length_append, rgI_len] at tot
      have nd : (fs ++ rs).Nodup := pm.nodup_iff.mpr ((rgI_asc 0 m).imp fun {a b} h => by omega)
      refine q _ fs _ (by assumption) ⟨(List.nodup_append.mp nd).1, fun u hu => ?_⟩ (by omega) (by omega) (by walk_at "cg h") (by walk_at "cg kp")
      have hm := pm.mem_iff.mp (List.mem_append_left rs hu)
      rw [rgI_mem] at hm
      omega

theorem ok_law_body {f : Addr} {fd : FuncData} (F : Fun K "_law_body" "_law_body" s_law_body f fd) (B : Bi K mg) (D_law_draw : Is P w K mg base CX0 1 "_law_draw" ["_law_tape_here", "_law_many"] spDraw) (D_law_literal : Is P w K mg base CX0 2 "_law_literal" ["_law_tape_here", "_law_many"] (spLawLiteral K)) (D_law_terms : Is P w K mg base CX0 2 "_law_terms" ["_law_tape_here", "_law_many"] (spLawTerms K)) (D_law_some : Is P w K mg base CX0 2 "_law_some" ["_law_tape_here", "_law_many", "_law_least_here"] (spLawSome K)) : FnOk P w K mg base CX0 3 f fd ["_law_tape_here", "_law_many"] (spLawBody K) := by
  have nd := sc_law_body.nd
  refine F.ok sc_law_body ?len (fun cdv A outer s H vs Q E hr h => ?body)
  case len =>
    rintro vs H Q E ⟨t, c, m, rfl, _⟩
    rfl
  case body =>
    obtain ⟨t, c, m, rfl, T, m0, m1, q⟩ := h
    refine ⟨_, (pss_cons (ps_set (i := 2) nd rfl (Or.inl rfl) (pe_is D_law_draw (hr.mono (by decide)) rfl pass0 (pa_cons (pv 0) (pa_cons pe_int pa_nil))))
      (pss_cons (ps_set (i := 3) nd rfl (Or.inl rfl) (pe_ix (ixL K) (pe_lst (pa_cons pe_str (pa_cons pe_str (pa_cons pe_str pa_nil)))) (pe_is D_law_draw (hr.mono (by decide)) rfl pass0 (pa_cons (pv 0) (pa_cons pe_int pa_nil))) (fun _ _ => rfl)))
      (pss_cons (ps_if (pt_cmpR op_eq (pv 2) pe_int (nomark _))
      (pss_cons (ps_set (i := 4) nd rfl (Or.inl rfl) (pe_lst pa_nil))
      (pss_cons (ps_for PassesOwn.never rfl (pi_range1 rfl B.n_range (pa_cons (pe_op op_add pe_int (pe_is D_law_draw (hr.mono (by decide)) rfl pass0 (pa_cons (pv 0) (pa_cons pe_int pa_nil)))) pa_nil)) (pg_name (i := 5) nd rfl (Or.inl rfl))
      (pss_cons (ps_set (i := 6) nd rfl (Or.inl rfl) (pe_is D_law_literal (hr.mono (by decide)) rfl pass0 (pa_cons (pv 0) (pa_cons (pv 1) pa_nil))))
      (pss_one (ps_if (pt_cmpR (notInDL K hr) (pv 6) (pv 4) rfl)
      (pss_one (ps_expr (pe_bm PySem.F.plainAttrs_list PySem.F.slot_list_append PySem.F.type_list_append mt_append (pv 4) (pa_cons (pv 6) pa_nil))))
      pss_nil))))
      (pss_one (ps_ret (pe_tup (pa_cons pe_str (pa_cons (pe_callTy (cgTuple K) (by rfl) B.n_tuple (by decide +kernel) (pa_cons (pv 4) pa_nil)) pa_nil)))))))
      pss_nil)
      (pss_cons (ps_if (pt_cmpR op_eq (pv 2) pe_int (nomark _))
      (pss_cons (ps_set (i := 6) nd rfl (Or.inl rfl) (pe_is D_law_literal (hr.mono (by decide)) rfl pass0 (pa_cons (pv 0) (pa_cons (pv 1) pa_nil))))
      (pss_one (ps_ret (pe_tup (pa_cons pe_str (pa_cons (pv 6) (pa_cons (pe_is D_law_terms (hr.mono (by decide)) rfl pass0 (pa_cons (pv 0) (pa_cons (pv 1) pa_nil))) (pa_cons (pv 3) (pa_cons (pe_op op_sub (pe_is D_law_draw (hr.mono (by decide)) rfl pass0 (pa_cons (pv 0) (pa_cons pe_int pa_nil))) pe_int) pa_nil)))))))))
      pss_nil)
      (pss_cons (ps_if (PW.pt (pw_and (pt_cmpR op_eq (pv 2) pe_int (nomark _)) (pw_and1 (pt_cmpR op_gt (pv 1) pe_int (nomark _)))))
      (pss_one (ps_ret (pe_tup (pa_cons pe_str (pa_cons (pe_is D_law_some (hr.mono (by decide)) rfl pass0 (pa_cons (pv 0) (pa_cons (pv 1) (pa_cons pe_int pa_nil)))) pa_nil)))))
      pss_nil)
      (pss_cons (ps_if (pt_cmpR op_eq (pv 2) pe_int (nomark _))
      (pss_cons (ps_set (i := 7) nd rfl (Or.inl rfl) (pe_slice (slA K) (pe_is D_law_some (hr.mono (by decide)) rfl pass0 (pa_cons (pv 0) (pa_cons (pv 1) (pa_cons pe_int pa_nil)))) po_none (po_some pe_int)))
      (pss_cons (ps_set (i := 8) nd rfl (Or.inl rfl) (pe_lst pa_nil))
      (pss_cons (ps_for PassesOwn.never rfl (pi_range1 rfl B.n_range (pa_cons (pe_op op_add pe_int (pe_is D_law_draw (hr.mono (by decide)) rfl pass0 (pa_cons (pv 0) (pa_cons pe_int pa_nil)))) pa_nil)) (pg_name (i := 5) nd rfl (Or.inl rfl))
      (pss_one (ps_expr (pe_bm PySem.F.plainAttrs_list PySem.F.slot_list_append PySem.F.type_list_append mt_append (pv 8) (pa_cons (pe_callTy (cgTuple K) (by rfl) B.n_tuple (by decide +kernel) (pa_cons (by exact pe_lc (own := [("_law_v", 10)]) (g := (gName 10)) (tt := tYes) rfl nd (pi_tup (pv 7)) (blkOk_by (N := ["_law_tape_here", "_law_many", "_law_kind", "_law_relation", "_law_literals", "_law_k", "_law_literal_here", "_law_numbers", "_law_rows", "_law_entries", "_law_v"]) (sc := defScope s_law_body) (by decide +kernel)) (fun _ _ _ _ _ => (pg_name (i := 10) nd rfl (Or.inl rfl))) (fun _ _ _ _ _ => pts_nil) (fun _ _ _ _ _ => (pe_op op_sub (pe_is D_law_draw (hr.mono (by decide)) rfl pass0 (pa_cons (pv 0) (pa_cons pe_int pa_nil))) pe_int))) pa_nil)) pa_nil)))))
      (pss_one (ps_ret (pe_tup (pa_cons pe_str (pa_cons (pv 7) (pa_cons (pe_callTy (cgTuple K) (by rfl) B.n_tuple (by decide +kernel) (pa_cons (pv 8) pa_nil)) pa_nil)))))))))
      pss_nil)
      (pss_cons (ps_if (pt_cmpR op_eq (pv 2) pe_int (nomark _))
      (pss_cons (ps_setLc (i := 9) (own := [("_law_k", 5)]) (g := (gName 5)) (tt := tYes) rfl nd rfl rfl (sw_true rfl rfl rfl (by decide +kernel)) (pi_range1 rfl B.n_range (pa_cons (pe_op op_add pe_int (pe_is D_law_draw (hr.mono (by decide)) rfl pass0 (pa_cons (pv 0) (pa_cons pe_int pa_nil)))) pa_nil)) (blkOk_by (N := ["_law_tape_here", "_law_many", "_law_kind", "_law_relation", "_law_literals", "_law_k", "_law_literal_here", "_law_numbers", "_law_rows", "_law_entries", "_law_v"]) (sc := defScope s_law_body) (by decide +kernel)) (fun _ _ _ _ _ => (pg_name (i := 5) nd rfl (Or.inl rfl))) (fun _ _ _ _ _ => pts_nil) (fun _ _ _ _ _ => (pe_op op_sub (pe_is D_law_draw (hr.mono (by decide)) rfl pass0 (pa_cons (pv 0) (pa_cons pe_int pa_nil))) pe_int)))
      (pss_one (ps_ret (pe_tup (pa_cons pe_str (pa_cons (pe_is D_law_draw (hr.mono (by decide)) rfl pass0 (pa_cons (pv 0) (pa_cons (pv 1) pa_nil))) (pa_cons (pe_callTy (cgTuple K) (by rfl) B.n_tuple (by decide +kernel) (pa_cons (pv 9) pa_nil)) (pa_cons (pe_is D_law_draw (hr.mono (by decide)) rfl pass0 (pa_cons (pv 0) (pa_cons (pv 1) pa_nil))) pa_nil))))))))
      pss_nil)
      (pss_cons (ps_if (pt_cmpR op_eq (pv 2) pe_int (nomark _))
      (pss_one (ps_ret (pe_tup (pa_cons pe_str (pa_cons (pe_is D_law_draw (hr.mono (by decide)) rfl pass0 (pa_cons (pv 0) (pa_cons (pv 1) pa_nil))) (pa_cons (pe_is D_law_draw (hr.mono (by decide)) rfl pass0 (pa_cons (pv 0) (pa_cons (pv 1) pa_nil))) (pa_cons (pe_is D_law_draw (hr.mono (by decide)) rfl pass0 (pa_cons (pv 0) (pa_cons (pv 1) pa_nil))) pa_nil)))))))
      pss_nil)
      (pss_one (ps_ret (pe_tup (pa_cons pe_str (pa_cons (pe_is D_law_terms (hr.mono (by decide)) rfl pass0 (pa_cons (pv 0) (pa_cons (pv 1) pa_nil))) (pa_cons (pv 3) (pa_cons (pe_op op_sub (pe_is D_law_draw (hr.mono (by decide)) rfl pass0 (pa_cons (pv 0) (pa_cons pe_int pa_nil))) pe_int) pa_nil))))))))))))))), ?_⟩
    try dsimp only [L2.cxOf, L2.Cx.nox, L2.Cx.wish]
    rw [st_law_body]
    have mb : m < bigB := by
      have e : (60 : Int) < bigB := by decide
      omega
    walk_at "cg"
    rename_i dk Hk dk0 dk1 Tk kk pl H1 hpl epl kl dr H2 dr0 dr1 T2 k2
    refine ix_rel3 (by walk_at "cg h") dr0 dr1 fun r hr3 => ?_
    have K2 : Kp [t] H H2 := Kp.tr1 k2 (Kp.tr0 kl kk)
    clear kk epl kl k2 Tk T
    walk_at "cg"
    refine if_S (fun c2 => ?_) (fun c2 => ?_)
    · -- any
      walk_at "cg"
      rename_i l H3 hl el kl d H4 d0 d1 T4 kd
      have nlt : l ≠ t := by walk_at "cg ne"
      have nlc : l ≠ c := by walk_at "cg ne"
      have fl : H l = none := by
        refine K2.free hl fun b hb => ?_
        rw [List.mem_singleton] at hb
        subst hb
        exact T2.it
      have K4 : Kp [t] H H4 := Kp.tr1 kd (Kp.tr0 kl K2)
      have E4 : H4 l = some (.lst []) := Kp.get1 kd nlt el
      clear K2 T2 kl el kd
      refine r_forR (fun i σ' H' => ∃ (ls : List Lit) (refs : List V) (x5 x6 : Option V), σ' = [some (.ref t), some (.int m), some (.int dk), some (.str r.s), some (.ref l), x5, x6, none, none, none, none] ∧ Tp t c H' ∧ Kp [t] H H' ∧ H' l = some (.lst refs) ∧ ImAll K H' refs (ls.map Lit.d) ∧
        ls.Nodup ∧ (∀ x ∈ ls, litFit m x) ∧ ls.length ≤ i ∧ (0 < i → 0 < ls.length)) ⟨[], [], none, none, rfl, T4, K4, E4, .nil, List.nodup_nil, (fun z hz => by cases hz), Nat.le_refl _, fun h => absurd h (by decide)⟩ ?_ ?_
      · clear T4 K4 E4
        rintro i σ' H5 hi ⟨ls, refs, x5, x6, rfl, T5, k5, e5, A5, nd, ok, hn, h1⟩
        have hrl := mapLenP A5
        walk_at "cg"
        refine ⟨t, c, m, rfl, T5, by omega, by omega, fun p x H6 L6 f6 T6 k6 => ?_⟩
        have e6 := Kp.get1 k6 nlt e5
        have A6 := k6.imAll A5
        walk_at "cg"
        refine ⟨x.d, ls.map Lit.d, Im.dp (lit_mk L6), .lst (SqL.of e6) A6.dp, (Lit.shp x).ok, (Shp.list (n := 1) fun d hd => ?_).ok, ?_⟩
        · obtain ⟨z, _, rfl⟩ := List.mem_map.mp hd
          exact Lit.shp z
        rw [any_in Lit.eqv]
        walk_at "cg"
        refine if_NS (fun hm => ?_) (fun hm => ?_)
        · walk_at "cg"
          rename_i H7 e7 k7
          refine ⟨ls ++ [x], refs ++ [.ref p], _, _, rfl, by walk_at "cg h", by walk_at "cg kp", e7, ?_, ?_, fun z hz => ?_, by simp; omega, fun _ => by simp⟩
          · rw [List.map_append]
            exact (k7.imAll A6).snoc (k7.im (lit_mk L6))
          · rw [List.nodup_append]
            exact ⟨nd, by simp, fun a ha b hb => by rw [List.mem_singleton] at hb; subst hb; exact fun e => hm (e ▸ ha)⟩
          · rcases List.mem_append.mp hz with h | h
            · exact ok z h
            · rw [List.mem_singleton] at h
              subst h
              exact f6
        · walk_at "cg"
          exact ⟨ls, refs, _, _, rfl, by walk_at "cg h", by walk_at "cg kp", e6, A6, nd, ok, by omega, fun _ => List.length_pos_of_mem hm⟩
      · clear T4 K4 E4
        rintro σ' H5 ⟨ls, refs, x5, x6, rfl, T5, k5, e5, A5, nd, ok, hn, h1⟩
        have h1' := h1 (by omega)
        walk_at "cg"
        exact q _ (.any ls) _ (.tup (by assumption) (.cons (.str _) (.cons (.tup (by walk_at "cg h") (by walk_at "cg h")) .nil))) ⟨⟨h1', by omega⟩, nd, ok⟩ (by walk_at "cg h") (by walk_at "cg kp")
    · walk_at "cg"
      refine if_S (fun c3 => ?_) (fun c3 => ?_)
      · -- when
        walk_at "cg"
        refine ⟨t, c, m, rfl, by walk_at "cg h", by omega, by omega, fun p x H6 L6 f6 T6 k6 => ?_⟩
        walk_at "cg"
        refine ⟨t, c, m, rfl, by walk_at "cg h", by omega, by omega, fun p2 ts H7 I7 f7 T7 k7 => ?_⟩
        walk_at "cg"
        exact q _ (.when x ts r _) _ (.tup (by assumption) (.cons (.str _) (.cons (lit_mk (by walk_at "cg h")) (.cons (by walk_at "cg h") (.cons (.str _) (.cons (.int _) .nil)))))) ⟨f6, f7.fit (by omega), hr3, by omega, by omega⟩ (by walk_at "cg h") (by walk_at "cg kp")
      · walk_at "cg"
        refine if_S (fun c4 => ?_) (fun c4 => ?_)
        · walk_at "cg"
          refine if_S (fun c5 => ?_) (fun c5 => ?_)
          · walk_at "cg"
            refine ⟨t, c, m, 2, rfl, by walk_at "cg h", by omega, by omega, by omega, fun p us H6 S6 f6 u0 u1 T6 k6 => ?_⟩
            walk_at "cg"
            exact q _ (.diff us) _ (.tup (by assumption) (.cons (.str _) (.cons (intsT_im (by walk_at "cg h")) .nil))) ⟨⟨by omega, by omega⟩, f6⟩ (by walk_at "cg h") (by walk_at "cg kp")
          · -- row, one unknown
            walk_at "cg"
            refine ⟨t, c, m, rfl, by walk_at "cg h", by omega, by omega, fun p2 ts H7 I7 f7 T7 k7 => ?_⟩
            walk_at "cg"
            exact q _ (.row ts r _) _ (.tup (by assumption) (.cons (.str _) (.cons (by walk_at "cg h") (.cons (.str _) (.cons (.int _) .nil))))) ⟨f7.fit (by omega), hr3, by omega, by omega⟩ (by walk_at "cg h") (by walk_at "cg kp")
        · walk_at "cg"
          refine if_S (fun c5 => ?_) (fun c5 => ?_)
          · -- table
            walk_at "cg"
            refine ⟨t, c, m, 1, rfl, by walk_at "cg h", by omega, by omega, by omega, fun p us H6 S6 f6 u0 u1 T6 k6 => ?_⟩
            walk_at "cg"
            refine r_slA (n := 3) S6 fun p3 H7 S7 k7 => ?_
            have S7' : SqT K H7 p3 ((us.take 3).map V.int) := by rw [List.map_take]; exact S7
            have f7 : numFit m (us.take 3) := ⟨f6.1.sublist (List.take_sublist ..), fun u hu => f6.2 u (List.mem_of_mem_take hu)⟩
            have l7 : 1 ≤ (us.take 3).length ∧ (us.take 3).length ≤ 3 := by rw [List.length_take]; omega
            generalize us.take 3 = ws at S7' f7 l7
            have T7 : Tp t c H7 := T6.kp0 k7
            have K7 : Kp [t] H H7 := Kp.tr0 k7 (Kp.tr1 k6 K2)
            clear S7 k7 S6 k6 T6 K2 T2
            walk_at "cg"
            rename_i l H3 hl el kl d H4 d0 d1 T4 kd
            have nlt : l ≠ t := by walk_at "cg ne"
            have nlc : l ≠ c := by walk_at "cg ne"
            have fl : H l = none := by
              refine K7.free hl fun b hb => ?_
              rw [List.mem_singleton] at hb
              subst hb
              exact T7.it
            have K4 : Kp [t] H H4 := Kp.tr1 kd (Kp.tr0 kl K7)
            have E4 : H4 l = some (.lst []) := Kp.get1 kd nlt el
            have S4 : SqT K H4 p3 (ws.map V.int) := kd.tup (kl.tup S7')
            clear K7 T7 kl el kd S7'
            refine r_forR (fun i σ' H' => ∃ (rows : List (List Int)) (refs : List V) (x5 x6 x9 x10 x11 : Option V), σ' = [some (.ref t), some (.int m), some (.int dk), some (.str r.s), x5, x6, x9, some (.ref p3), some (.ref l), x10, x11] ∧ Tp t c H' ∧ Kp [t] H H' ∧ SqT K H' p3 (ws.map V.int) ∧ H' l = some (.lst refs) ∧ ImAll K H' refs (rows.map intsD) ∧
              (∀ x ∈ rows, x.length = ws.length ∧ entFit x) ∧ rows.length = i) ⟨[], [], _, _, _, _, _, rfl, T4, K4, S4, E4, .nil, (fun z hz => by cases hz), rfl⟩ ?_ ?_
            · clear T4 K4 E4 S4
              rintro i σ' H5 hi ⟨rows, refs, x5, x6, x9, x10, x11, rfl, T5, k5, S5, e5, A5, ok, hn⟩
              have hrl := mapLenP A5
              walk_at "cg"
              refine lcT_d S5 (imInts ws) PyData.int (fun _ z => -1000 ≤ z ∧ z ≤ 1000) T5 (by omega) (fun j b x H' R R' hb hx T' k' q' => ?_) (fun D H6 acc as hD eD hl2 hP hA T6 k6 => ?_)
              · walk_at "cg"
                exact q' _ _ _ (by omega) (.int _) (by walk_at "cg h") (by walk_at "cg kp")
              · have e6 := Kp.get1 k6 nlt e5
                have A6 := k6.imAll A5
                rw [hA.ints] at eD
                walk_at "cg"
                rename_i p9 H9 hp9 s9 k9 H10 e10 k10
                refine ⟨rows ++ [as], refs ++ [.ref p9], _, _, _, _, _, rfl, by walk_at "cg h", by walk_at "cg kp", by walk_at "cg h", e10, ?_, fun z hz => ?_, by simp [hn]⟩
                · rw [List.map_append]
                  exact (k10.imAll (k9.imAll A6)).snoc (k10.im (intsT_im s9))
                · rcases List.mem_append.mp hz with h | h
                  · exact ok z h
                  · rw [List.mem_singleton] at h
                    subst h
                    refine ⟨hl2, fun e he => ?_⟩
                    obtain ⟨j, hj⟩ := List.getElem?_of_mem he
                    obtain ⟨_, _, g⟩ := hP j e hj
                    exact g
            · clear T4 K4 E4 S4
              rintro σ' H5 ⟨rows, refs, x5, x6, x9, x10, x11, rfl, T5, k5, S5, e5, A5, ok, hn⟩
              walk_at "cg"
              exact q _ (.table ws rows) _ (.tup (by assumption) (.cons (.str _) (.cons (intsT_im (by walk_at "cg h")) (.cons (.tup (by walk_at "cg h") (by walk_at "cg h")) .nil)))) ⟨⟨⟨l7.1, by omega⟩, f7⟩, ⟨by omega, by omega⟩, ok⟩ (by walk_at "cg h") (by walk_at "cg kp")
          · walk_at "cg"
            refine if_S (fun c6 => ?_) (fun c6 => ?_)
            · -- element
              walk_at "cg"
              rename_i d H4 d0 d1 T4 kd
              refine lcR_d (K := K) PyData.int (fun _ z => -1000 ≤ z ∧ z ≤ 1000) T4 (by omega) (fun j H' R R' hj T' k' q' => ?_) (fun D H6 acc as hD eD hl2 hP hA T6 k6 => ?_)
              · walk_at "cg"
                exact q' _ _ _ (by omega) (.int _) (by walk_at "cg h") (by walk_at "cg kp")
              · rw [hA.ints] at eD
                walk_at "cg"
                refine q _ (.elem _ as _) _ (.tup (by assumption) (.cons (.str _) (.cons (.int _) (.cons (intsT_im (by walk_at "cg h")) (.cons (.int _) .nil))))) ⟨⟨⟨by assumption, by assumption⟩, by assumption, by assumption⟩, ⟨by omega, by omega⟩, fun e he => ?_⟩ (by walk_at "cg h") (by walk_at "cg kp")
                obtain ⟨j, hj⟩ := List.getElem?_of_mem he
                exact hP j e hj
            · walk_at "cg"
              refine if_S (fun c7 => ?_) (fun c7 => ?_)
              · -- times
                walk_at "cg"
                exact q _ (.times _ _ _) _ (.tup (by assumption) (.cons (.str _) (.cons (.int _) (.cons (.int _) (.cons (.int _) .nil))))) ⟨⟨by assumption, by assumption⟩, ⟨by assumption, by assumption⟩, by assumption, by assumption⟩ (by walk_at "cg h") (by walk_at "cg kp")
              · -- row
                walk_at "cg"
                refine ⟨t, c, m, rfl, by walk_at "cg h", by omega, by omega, fun p2 ts H7 I7 f7 T7 k7 => ?_⟩
                walk_at "cg"
                exact q _ (.row ts r _) _ (.tup (by assumption) (.cons (.str _) (.cons (by walk_at "cg h") (.cons (.str _) (.cons (.int _) .nil))))) ⟨f7.fit (by omega), hr3, by omega, by omega⟩ (by walk_at "cg h") (by walk_at "cg kp")

end
section
variable {P : Program} {w : World} {K : PySem.W.Frag} {mg : Str → Option Value} {base : Heap} {C_Model : Addr}
theorem ok_law_rel {f : Addr} {fd : FuncData} (F : Fun K "_law_rel" "_law_rel" s_law_rel f fd) (B : Bi K mg)  : FnOk P w K mg base CX0 1 f fd ["_law_relation", "_law_left", "_law_right"] spRel := by
  have nd := sc_law_rel.nd
  refine F.ok sc_law_rel ?len (fun cdv A outer s H vs Q E hr h => ?body)
  case len =>
    rintro vs H Q E ⟨r, a, b, rfl, _⟩
    rfl
  case body =>
    obtain ⟨r, a, b, rfl, q⟩ := h
    refine ⟨_, (pss_cons (ps_if (pt_cmpR op_eq (pv 0) pe_str (nomark _))
      (pss_one (ps_ret (pe_cmpR op_le (pv 1) (pv 2) (nomark _))))
      pss_nil)
      (pss_cons (ps_if (pt_cmpR op_eq (pv 0) pe_str (nomark _))
      (pss_one (ps_ret (pe_cmpR op_ge (pv 1) (pv 2) (nomark _))))
      pss_nil)
      (pss_one (ps_ret (pe_cmpR op_eq (pe_cmpR op_eq (pv 1) (pv 2) (nomark _)) (pe_cmpR op_eq (pv 0) pe_str (nomark _)) (nomark _)))))), ?_⟩
    try dsimp only [L2.cxOf, L2.Cx.nox, L2.Cx.wish]
    rw [st_law_rel]
    have e : Rel.h r a b = (match r with | .le => decide (a ≤ b) | .ge => decide (b ≤ a) | .eq => decide (decide (a = b) = true) | .ne => decide (decide (a = b) = false)) := by
      cases r <;> simp only [Rel.h] <;> rw [Bool.eq_iff_iff] <;> simp
    rw [e] at q
    cases r
    all_goals
      walk_at "cg"
      exact q
theorem ok_law_sum {f : Addr} {fd : FuncData} (F : Fun K "_law_sum" "_law_sum" s_law_sum f fd) (B : Bi K mg)  : FnOk P w K mg base CX0 1 f fd ["_law_terms_here", "_law_point"] (spSumF K) := by
  have nd := sc_law_sum.nd
  refine F.ok sc_law_sum ?len (fun cdv A outer s H vs Q E hr h => ?body)
  case len =>
    rintro vs H Q E ⟨p, q, ts, f, dom, rfl, _⟩
    rfl
  case body =>
    obtain ⟨p, q, ts, f, dom, rfl, hI, hP, hD, hT, k⟩ := h
    refine ⟨_, (pss_cons (ps_set (i := 2) nd rfl (Or.inl rfl) pe_int)
      (pss_cons (ps_for PassesOwn.never rfl (pi_tup (pv 0)) (pg_tup (n := 2) rfl (pgs_cons (pg_name (i := 3) nd rfl (Or.inl rfl)) (pgs_cons (pg_name (i := 4) nd rfl (Or.inl rfl)) pgs_nil)))
      (pss_one (ps_set (i := 2) nd rfl (Or.inl rfl) (pe_op op_add (pv 2) (pe_op op_mul (pv 4) (pe_ix (ixP K) (pv 1) (pv 3) (fun _ _ => rfl)))))))
      (pss_one (ps_ret (pv 2))))), ?_⟩
    try dsimp only [L2.cxOf, L2.Cx.nox, L2.Cx.wish]
    rw [st_law_sum]
    obtain ⟨xs, h1, h2⟩ := hI.open
    walk_at "cg"
    refine r_forTI [] h1 h2 (fun i σ' H' => ∃ x3 x4 : Option V, σ' = [some (.ref p), some (.ref q), some (.int (sumF (ts.take i) f)), x3, x4] ∧ H = H') ⟨_, _, rfl, rfl⟩ (fun i σ' H' ⟨_, _, _, e⟩ => e ▸ .refl) ?_ ?_
    · rintro i z x σ' H' hz hxd _ ⟨x3, x4, rfl, rfl⟩
      obtain ⟨px, rfl, hs⟩ := term_at hxd
      have hzt := hT z (List.mem_of_getElem? hz)
      walk_at "cg"
      refine r_pt hP (hD z (List.mem_of_getElem? hz)) ?_
      walk_at "cg"
      exact ⟨_, _, by rw [sumF_take f hz], rfl⟩
    · rintro σ' H' _ ⟨x3, x4, rfl, rfl⟩
      walk_at "cg"
      rw [List.take_length]
      exact k
theorem ok_law_lit {f : Addr} {fd : FuncData} (F : Fun K "_law_lit" "_law_lit" s_law_lit f fd) (B : Bi K mg) (D_law_rel : Is P w K mg base CX0 1 "_law_rel" ["_law_relation", "_law_left", "_law_right"] spRel) : FnOk P w K mg base CX0 2 f fd ["_law_literal_here", "_law_point"] (spLawLit K) := by
  have nd := sc_law_lit.nd
  refine F.ok sc_law_lit ?len (fun cdv A outer s H vs Q E hr h => ?body)
  case len =>
    rintro vs H Q E ⟨p, q, l, f, dom, rfl, _⟩
    rfl
  case body =>
    obtain ⟨p, q, l, f, dom, rfl, hL, hP, hD, k⟩ := h
    refine ⟨_, (pss_one (ps_ret (pe_is D_law_rel (hr.mono (by decide)) rfl pass0 (pa_cons (pe_ix (ixT K) (pv 0) pe_int (fun _ _ => rfl)) (pa_cons (pe_ix (ixP K) (pv 1) (pe_ix (ixT K) (pv 0) pe_int (fun _ _ => rfl)) (fun _ _ => rfl)) (pa_cons (pe_ix (ixT K) (pv 0) pe_int (fun _ _ => rfl)) pa_nil)))))), ?_⟩
    try dsimp only [L2.cxOf, L2.Cx.nox, L2.Cx.wish]
    rw [st_law_lit]
    walk_at "cg"
    refine r_pt hP hD ?_
    walk_at "cg"
    exact k
theorem ok_law_holds {f : Addr} {fd : FuncData} (F : Fun K "_law_holds" "_law_holds" s_law_holds f fd) (B : Bi K mg) (D_law_rel : Is P w K mg base CX0 1 "_law_rel" ["_law_relation", "_law_left", "_law_right"] spRel) (D_law_sum : Is P w K mg base CX0 1 "_law_sum" ["_law_terms_here", "_law_point"] (spSumF K)) (D_law_lit : Is P w K mg base CX0 2 "_law_lit" ["_law_literal_here", "_law_point"] (spLawLit K)) : FnOk P w K mg base CX0 3 f fd ["_law_body_here", "_law_point"] (spHolds K) := by
  have nd := sc_law_holds.nd
  refine F.ok sc_law_holds ?len (fun cdv A outer s H vs Q E hr h => ?body)
  case len =>
    rintro vs H Q E ⟨p, q, b, f, dom, rfl, _⟩
    rfl
  case body =>
    obtain ⟨p, q, b, f, dom, rfl, hb, bd, hP, hF, hD, k⟩ := h
    refine ⟨_, (pss_cons (ps_if (pt_cmpR op_eq (pe_ix (ixT K) (pv 0) pe_int (fun _ _ => rfl)) pe_str (nomark _))
      (pss_one (ps_ret (pe_is D_law_rel (hr.mono (by decide)) rfl pass0 (pa_cons (pe_ix (ixT K) (pv 0) pe_int (fun _ _ => rfl)) (pa_cons (pe_is D_law_sum (hr.mono (by decide)) rfl pass0 (pa_cons (pe_ix (ixT K) (pv 0) pe_int (fun _ _ => rfl)) (pa_cons (pv 1) pa_nil))) (pa_cons (pe_ix (ixT K) (pv 0) pe_int (fun _ _ => rfl)) pa_nil))))))
      pss_nil)
      (pss_cons (ps_if (pt_cmpR op_eq (pe_ix (ixT K) (pv 0) pe_int (fun _ _ => rfl)) pe_str (nomark _))
      (pss_one (ps_ret (pe_cmpR (inS K) pe_bl (by exact pe_lc (own := [("_law_literal_here", 5)]) (g := (gName 5)) (tt := tYes) rfl nd (pi_tup (pe_ix (ixT K) (pv 0) pe_int (fun _ _ => rfl))) (blkOk_by (N := ["_law_body_here", "_law_point", "_law_seen", "_law_v", "_law_at", "_law_literal_here"]) (sc := defScope s_law_holds) (by decide +kernel)) (fun _ _ _ _ _ => (pg_name (i := 5) nd rfl (Or.inl rfl))) (fun _ _ _ _ _ => pts_nil) (fun _ _ _ _ _ => (pe_is D_law_lit (hr.mono (by decide)) rfl pass0 (pa_cons (pv 5) (pa_cons (pv 1) pa_nil))))) rfl)))
      pss_nil)
      (pss_cons (ps_if (pt_cmpR op_eq (pe_ix (ixT K) (pv 0) pe_int (fun _ _ => rfl)) pe_str (nomark _))
      (pss_one (ps_ret (pe_or (pe_not (pe_is D_law_lit (hr.mono (by decide)) rfl pass0 (pa_cons (pe_ix (ixT K) (pv 0) pe_int (fun _ _ => rfl)) (pa_cons (pv 1) pa_nil)))) (pe_one (pe_is D_law_rel (hr.mono (by decide)) rfl pass0 (pa_cons (pe_ix (ixT K) (pv 0) pe_int (fun _ _ => rfl)) (pa_cons (pe_is D_law_sum (hr.mono (by decide)) rfl pass0 (pa_cons (pe_ix (ixT K) (pv 0) pe_int (fun _ _ => rfl)) (pa_cons (pv 1) pa_nil))) (pa_cons (pe_ix (ixT K) (pv 0) pe_int (fun _ _ => rfl)) pa_nil))))))))
      pss_nil)
      (pss_cons (ps_if (pt_cmpR op_eq (pe_ix (ixT K) (pv 0) pe_int (fun _ _ => rfl)) pe_str (nomark _))
      (pss_cons (ps_set (i := 2) nd rfl (Or.inl rfl) (pe_lst pa_nil))
      (pss_cons (ps_for PassesOwn.never rfl (pi_tup (pe_ix (ixT K) (pv 0) pe_int (fun _ _ => rfl))) (pg_name (i := 3) nd rfl (Or.inl rfl))
      (pss_cons (ps_if (pt_cmpR (inS K) (pe_ix (ixP K) (pv 1) (pv 3) (fun _ _ => rfl)) (pv 2) rfl)
      (pss_one (ps_ret pe_bl))
      pss_nil)
      (pss_one (ps_expr (pe_bm PySem.F.plainAttrs_list PySem.F.slot_list_append PySem.F.type_list_append mt_append (pv 2) (pa_cons (pe_ix (ixP K) (pv 1) (pv 3) (fun _ _ => rfl)) pa_nil))))))
      (pss_one (ps_ret pe_bl))))
      pss_nil)
      (pss_cons (ps_if (pt_cmpR op_eq (pe_ix (ixT K) (pv 0) pe_int (fun _ _ => rfl)) pe_str (nomark _))
      (pss_one (ps_ret (pe_cmpR (inDT K hr) (pe_callTy (cgTuple K) (by rfl) B.n_tuple (by decide +kernel) (pa_cons (by exact pe_lc (own := [("_law_v", 3)]) (g := (gName 3)) (tt := tYes) rfl nd (pi_tup (pe_ix (ixT K) (pv 0) pe_int (fun _ _ => rfl))) (blkOk_by (N := ["_law_body_here", "_law_point", "_law_seen", "_law_v", "_law_at", "_law_literal_here"]) (sc := defScope s_law_holds) (by decide +kernel)) (fun _ _ _ _ _ => (pg_name (i := 3) nd rfl (Or.inl rfl))) (fun _ _ _ _ _ => pts_nil) (fun _ _ _ _ _ => (pe_ix (ixP K) (pv 1) (pv 3) (fun _ _ => rfl)))) pa_nil)) (pe_ix (ixT K) (pv 0) pe_int (fun _ _ => rfl)) rfl)))
      pss_nil)
      (pss_cons (ps_if (pt_cmpR op_eq (pe_ix (ixT K) (pv 0) pe_int (fun _ _ => rfl)) pe_str (nomark _))
      (pss_cons (ps_set (i := 4) nd rfl (Or.inl rfl) (pe_ix (ixP K) (pv 1) (pe_ix (ixT K) (pv 0) pe_int (fun _ _ => rfl)) (fun _ _ => rfl)))
      (pss_one (ps_ret (pe_and (pe_cmpR op_ge (pv 4) pe_int (nomark _)) (pe_and (pe_cmpR op_lt (pv 4) (pe_callB (cgLen K) (by rfl) B.n_len PySem.boot_len (pa_cons (pe_ix (ixT K) (pv 0) pe_int (fun _ _ => rfl)) pa_nil)) (nomark _)) (pe_one (pe_cmpR op_eq (pe_ix (ixT K) (pe_ix (ixT K) (pv 0) pe_int (fun _ _ => rfl)) (pv 4) (fun _ _ => rfl)) (pe_ix (ixP K) (pv 1) (pe_ix (ixT K) (pv 0) pe_int (fun _ _ => rfl)) (fun _ _ => rfl)) (nomark _))))))))
      pss_nil)
      (pss_one (ps_ret (pe_cmpR op_eq (pe_op op_mul (pe_ix (ixP K) (pv 1) (pe_ix (ixT K) (pv 0) pe_int (fun _ _ => rfl)) (fun _ _ => rfl)) (pe_ix (ixP K) (pv 1) (pe_ix (ixT K) (pv 0) pe_int (fun _ _ => rfl)) (fun _ _ => rfl))) (pe_ix (ixP K) (pv 1) (pe_ix (ixT K) (pv 0) pe_int (fun _ _ => rfl)) (fun _ _ => rfl)) (nomark _)))))))))), ?_⟩
    try dsimp only [L2.cxOf, L2.Cx.nox, L2.Cx.wish]
    rw [st_law_holds]
    cases b with
    | row ts r n =>
      obtain ⟨q1, s1, i1⟩ := b_row hb
      walk_at "cg"
      refine spSumF_i i1 hP (fun z hz => hD _ (List.mem_map.mpr ⟨z, hz, rfl⟩)) bd.1 ?_
      walk_at "cg"
      exact k _ .refl
    | any ls =>
      obtain ⟨q1, s1, i1⟩ := b_any hb
      obtain ⟨xs, s2, i2⟩ := Im.open i1
      walk_at "cg"
      refine lcT_b (xs := xs) (as := ls) (d := Lit.d) (by walk_at "cg h") (by walk_at "cg h") (fun l => l.h f) (by have : ls.length ≤ 62 := bd; omega) (fun i l x H' R R' hl k2 hx q2 => ?_) (fun D H' hD' eD k2 => ?_)
      · obtain ⟨px, rfl, hs⟩ := lit_at hx
        walk_at "cg"
        refine ⟨px, q, l, f, dom, rfl, hs, hP.kp0 k2, hD _ (List.mem_map.mpr ⟨l, List.mem_of_getElem? hl, rfl⟩), ?_⟩
        walk_at "cg"
        exact q2 _ .refl
      · refine r_inL (b := ls.any fun l => l.h f) eD rfl (flat_bls _) ?_ ?_
        · show inV _ _ = _
          rw [inV_true, List.any_map]
          rfl
        · exact k _ (by walk_at "cg kp")
    | when l ts r n =>
      obtain ⟨q1, q2, s1, L, i1⟩ := b_when hb
      walk_at "cg"
      refine ⟨q1, q, l, f, dom, rfl, L, hP, hD _ List.mem_cons_self, ?_⟩
      walk_at "cg"
      cases e2 : l.h f
      · walk_at "cg"
        have q := k H .refl
        simp only [Body.h, e2, Bool.not_false, Bool.true_or] at q
        exact q
      · walk_at "cg"
        refine spSumF_i i1 hP (fun z hz => hD _ (List.mem_cons_of_mem _ (List.mem_map.mpr ⟨z, hz, rfl⟩))) bd.1 ?_
        walk_at "cg"
        have q := k H .refl
        simp only [Body.h, e2, Bool.not_true, Bool.false_or] at q
        exact q
    | diff us =>
      obtain ⟨q1, s1, s2⟩ := b_diff hb
      have few : us.length ≤ 62 := bd
      walk_at "cg"
      rename_i l H1 hl el kl
      refine r_forT (us.map V.int) (fun i σ' H' => ∃ x4 : Option V, σ' = [some (.ref p), some (.ref q), some (.ref l), x4, none, none] ∧ Kp [] H H' ∧ H' l = some (.lst (((us.take i).map f).map V.int)) ∧ ((us.take i).map f).Nodup)
        ⟨none, rfl, kl, el, List.nodup_nil⟩ (fun i σ' H' ⟨_, _, k2, _⟩ => k2.tup s2) ?_ ?_
      · rintro i x σ' H' hx ⟨x4, rfl, k2, e2, nd⟩
        rw [List.getElem?_map] at hx
        cases hv : us[i]? with
        | none =>
          rw [hv] at hx
          cases hx
        | some v =>
          rw [hv] at hx
          cases hx
          have hi : i < us.length := (List.getElem?_eq_some_iff.mp hv).1
          have hp := hP.kp0 k2
          have hd := hD v (List.mem_of_getElem? hv)
          have hll : (((us.take i).map f).map V.int).length ≤ 62 := by simp; omega
          walk_at "cg"
          refine r_pt hp hd ?_
          walk_at "cg"
          refine r_inL e2 rfl (flat_ints _) (inV_ints_t _ _) ?_
          walk_at "cg"
          refine if_S (fun hm => ?_) (fun hm => ?_)
          · walk_at "cg"
            have q := k _ k2
            have e : Body.h f (.diff us) = false := by
              simp only [Body.h]
              refine decide_eq_false fun h => ?_
              have e2 : us = us.take i ++ v :: us.drop (i + 1) := by
                obtain ⟨hi, rfl⟩ := List.getElem?_eq_some_iff.mp hv
                rw [List.getElem_cons_drop, List.take_append_drop]
              rw [e2, List.map_append, List.nodup_append] at h
              exact h.2.2 (f v) hm (f v) (by simp) rfl
            rw [e] at q
            exact q
          · walk_at "cg"
            refine r_pt hp hd ?_
            walk_at "cg"
            rename_i H5 e5 k5
            refine ⟨_, rfl, Kp.trN k5 k2 hl, ?_, ?_⟩
            · rw [e5, map_take_snoc hv, List.map_append]
              rfl
            · rw [map_take_snoc hv, List.nodup_append]
              exact ⟨nd, by simp, fun a ha b hb => by rw [List.mem_singleton] at hb; subst hb; exact fun e => hm (e ▸ ha)⟩
      · rintro σ' H' ⟨x4, rfl, k2, e2, nd⟩
        rw [List.length_map, List.take_length] at nd
        walk_at "cg"
        have q := k _ k2
        have e : Body.h f (.diff us) = true := by
          simp only [Body.h]
          exact decide_eq_true nd
        rw [e] at q
        exact q
    | table us rows =>
      obtain ⟨q1, q2, s1, s2, i2⟩ := b_table hb
      have few : us.length ≤ 62 := bd.1
      walk_at "cg"
      refine lcT_i (xs := us.map V.int) (as := us) (d := PyData.int) (by walk_at "cg h") (imInts us) f (by omega) (fun i v x H' R R' hv k2 hx q2 => ?_) (fun D H' hD' eD k2 => ?_)
      · obtain rfl := hx.flat (y := .int v) rfl
        walk_at "cg"
        refine r_pt (hP.kp0 k2) (hD _ (List.mem_of_getElem? hv)) ?_
        walk_at "cg"
        exact q2 _ .refl
      · walk_at "cg"
        refine ⟨intsD (us.map f), rows.map intsD, Im.dp (intsT_im (by assumption)), Im.dp (by walk_at "cg h"), (intsD_shp _).ok, (rowsD_shp _).ok, ?_⟩
        have e : ((rows.map intsD).any fun z => PyData.eqv z (intsD (us.map f))) = Body.h f (.table us rows) := by
          rw [any_in intsD_eqv, Bool.eq_iff_iff]
          simp [Body.h]
        rw [e]
        exact k _ (by walk_at "cg kp")
    | elem x es y =>
      obtain ⟨q1, s1, s2⟩ := b_elem hb
      have few : es.length ≤ 1000 := bd
      walk_at "cg"
      refine r_pt hP (hD x (by simp [Body.vars])) ?_
      walk_at "cg"
      refine if_S (fun h0 => ?_) (fun h0 => ?_)
      · walk_at "cg"
        refine if_S (fun h1 => ?_) (fun h1 => ?_)
        · rw [List.length_map] at h1
          walk_at "cg"
          refine r_ixT s2 (atI_ints h0 h1) ?_
          walk_at "cg"
          refine r_pt hP (hD y (by simp [Body.vars])) ?_
          walk_at "cg"
          have q := k H .refl
          simp only [Body.h, decide_eq_true (show 0 ≤ f x from h0), decide_eq_true h1, Bool.true_and] at q
          exact q
        · rw [List.length_map] at h1
          walk_at "cg"
          have q := k H .refl
          simp only [Body.h, decide_eq_true (show 0 ≤ f x from h0), decide_eq_false h1, Bool.true_and, Bool.false_and] at q
          exact q
      · walk_at "cg"
        have q := k H .refl
        simp only [Body.h, decide_eq_false (show ¬ 0 ≤ f x from h0), Bool.false_and] at q
        exact q
    | times x y z =>
      have s1 := b_times hb
      have b1 := hF x (hD x (by simp [Body.vars]))
      walk_at "cg"
      refine r_pt hP (hD x (by simp [Body.vars])) ?_
      walk_at "cg"
      refine r_pt hP (hD y (by simp [Body.vars])) ?_
      walk_at "cg"
      refine r_pt hP (hD z (by simp [Body.vars])) ?_
      walk_at "cg"
      exact k _ .refl

theorem ok_law_world {f : Addr} {fd : FuncData} (F : Fun K "_law_world" "_law_world" s_law_world f fd) (B : Bi K mg) (D_law_terms : Is P w K mg base CX0 2 "_law_terms" ["_law_tape_here", "_law_many"] (spLawTerms K)) (D_law_draw : Is P w K mg base CX0 1 "_law_draw" ["_law_tape_here", "_law_many"] spDraw) (D_law_body : Is P w K mg base CX0 3 "_law_body" ["_law_tape_here", "_law_many"] (spLawBody K)) : FnOk P w K mg base CX0 4 f fd ["_law_tape_here", "_law_most", "_law_width", "_law_bodies"] (spWorld K) := by
  have nd := sc_law_world.nd
  refine F.ok sc_law_world ?len (fun cdv A outer s H vs Q E hr h => ?body)
  case len =>
    rintro vs H Q E ⟨t, c, most, width, bodies, rfl, _⟩
    rfl
  case body =>
    obtain ⟨t, c, most, width, bodies, rfl, T, m0, m1, w0, w1, b0, b1, q⟩ := h
    refine ⟨_, (pss_cons (ps_set (i := 4) nd rfl (Or.inl rfl) (pe_lst pa_nil))
      (pss_cons (ps_for PassesOwn.never rfl (pi_range1 rfl B.n_range (pa_cons (pe_op op_add pe_int (pe_is D_law_draw (hr.mono (by decide)) rfl pass0 (pa_cons (pv 0) (pa_cons (pv 1) pa_nil)))) pa_nil)) (pg_name (i := 5) nd rfl (Or.inl rfl))
      (pss_cons (ps_set (i := 6) nd rfl (Or.inl rfl) (pe_op op_sub (pe_is D_law_draw (hr.mono (by decide)) rfl pass0 (pa_cons (pv 0) (pa_cons pe_int pa_nil))) pe_int))
      (pss_one (ps_expr (pe_bm PySem.F.plainAttrs_list PySem.F.slot_list_append PySem.F.type_list_append mt_append (pv 4) (pa_cons (pe_tup (pa_cons (pe_ix (ixL K) (pe_lst (pa_cons pe_str (pa_cons pe_str (pa_cons pe_str (pa_cons pe_str (pa_cons pe_str pa_nil)))))) (pv 5) (fun _ _ => rfl)) (pa_cons (pv 6) (pa_cons (pe_op op_add (pv 6) (pe_is D_law_draw (hr.mono (by decide)) rfl pass0 (pa_cons (pv 0) (pa_cons (pv 2) pa_nil)))) pa_nil)))) pa_nil))))))
      (pss_cons (ps_set (i := 7) nd rfl (Or.inr rfl) (pe_callB (cgLen K) (by rfl) B.n_len PySem.boot_len (pa_cons (pv 4) pa_nil)))
      (pss_cons (ps_setLc (i := 8) (own := [("_law_k", 10)]) (g := (gName 10)) (tt := tYes) rfl nd rfl rfl (sw_true rfl rfl rfl (by decide +kernel)) (pi_range1 rfl B.n_range (pa_cons (pe_is D_law_draw (hr.mono (by decide)) rfl pass0 (pa_cons (pv 0) (pa_cons (pe_op op_add (pv 3) pe_int) pa_nil))) pa_nil)) (blkOk_by (N := ["_law_tape_here", "_law_most", "_law_width", "_law_bodies", "_law_unknowns", "_law_v", "_law_low", "_law_many", "_law_found", "_law_goal", "_law_k"]) (sc := defScope s_law_world) (by decide +kernel)) (fun _ _ _ _ _ => (pg_name (i := 10) nd rfl (Or.inl rfl))) (fun _ _ _ _ _ => pts_nil) (fun _ _ _ _ _ => (pe_tup (pa_cons (pe_op cg_addS pe_str (pe_callTy cg_strI (by rfl) B.n_str (by decide +kernel) (pa_cons (pv 10) pa_nil))) (pa_cons (pe_is D_law_body (hr.mono (by decide)) rfl pass0 (pa_cons (pv 0) (pa_cons (pv 7) pa_nil))) pa_nil)))))
      (pss_cons (ps_set (i := 9) nd rfl (Or.inl rfl) (pe_tup (pa_cons (pe_ix (ixL K) (pe_lst (pa_cons pe_str (pa_cons pe_str pa_nil))) (pe_is D_law_draw (hr.mono (by decide)) rfl pass0 (pa_cons (pv 0) (pa_cons pe_int pa_nil))) (fun _ _ => rfl)) (pa_cons (pe_is D_law_terms (hr.mono (by decide)) rfl pass0 (pa_cons (pv 0) (pa_cons (pv 7) pa_nil))) (pa_cons (pe_op op_sub (pe_is D_law_draw (hr.mono (by decide)) rfl pass0 (pa_cons (pv 0) (pa_cons pe_int pa_nil))) pe_int) pa_nil)))))
      (pss_cons (ps_if (pt_cmpR op_eq (pe_is D_law_draw (hr.mono (by decide)) rfl pass0 (pa_cons (pv 0) (pa_cons pe_int pa_nil))) pe_int (nomark _))
      (pss_one (ps_set (i := 9) nd rfl (Or.inl rfl) (pe_tup (pa_cons pe_str (pa_cons (pe_tup pa_nil) (pa_cons pe_int pa_nil))))))
      pss_nil)
      (pss_one (ps_ret (pe_lst (pa_cons (pv 4) (pa_cons (pv 8) (pa_cons (pv 9) pa_nil)))))))))))), ?_⟩
    try dsimp only [L2.cxOf, L2.Cx.nox, L2.Cx.wish]
    rw [st_law_world]
    have bm : most < bigB := by
      have e : (1000 : Int) < bigB := by decide
      omega
    have bw : width < bigB := by
      have e : (1000 : Int) < bigB := by decide
      omega
    have bb : bodies + 1 < bigB := by
      have e : (1000 : Int) < bigB := by decide
      omega
    walk_at "cg"
    rename_i l H1 hl el kl d H2 d0 d1 T2 k2
    have nlt : l ≠ t := by walk_at "cg ne"
    have nlc : l ≠ c := by walk_at "cg ne"
    have e2 := Kp.get1 k2 nlt el
    have K2 : Kp [t] H H2 := by walk_at "cg kp"
    clear kl k2 el T
    refine r_forR (fun i σ' H' => ∃ (us : List (Str × Int × Int)) (refs : List V) (x5 x6 x7 x8 x9 x10 : Option V), σ' = [some (.ref t), some (.int most), some (.int width), some (.int bodies), some (.ref l), x5, x6, none, none, none, none] ∧ Tp t c H' ∧ Kp [t] H H' ∧ H' l = some (.lst refs) ∧ ImAll K H' refs (us.map unD) ∧
      us.length = i ∧ us.map (·.1) = (List.range i).map nmS ∧ ∀ u ∈ us, -2 ≤ u.2.1 ∧ u.2.1 ≤ 2 ∧ u.2.1 ≤ u.2.2 ∧ u.2.2 < u.2.1 + width) ⟨[], [], none, none, none, none, none, none, rfl, T2, K2, e2, .nil, rfl, rfl, fun u h => by cases h⟩ ?_ ?_
    · clear T2 K2 e2
      rintro i σ' H3 hi ⟨us, refs, x5, x6, x7, x8, x9, x10, rfl, T3, k3, e3, A3, hn, nm, ok⟩
      have hrl := mapLenP A3
      walk_at "cg"
      rename_i dl Hl dl0 dl1 Tl kl2 pl Hp hpl epl kpl
      refine ix_nm (i := i) (by walk_at "cg h") (by omega) ?_
      walk_at "cg"
      rename_i dw Hw dw0 dw1 Tw kw pt Ht hpt spt kpt Hf ef kf
      refine ⟨us ++ [(nmS i, dl - 2, dl - 2 + dw)], _, _, _, none, none, none, none, rfl, by walk_at "cg h", by walk_at "cg kp", by assumption, ?_, by simp [hn], ?_, fun u hu => ?_⟩
      · rw [List.map_append]
        exact ImAll.snoc (by walk_at "cg h") (.tup (by walk_at "cg h") (.cons (.str _) (.cons (.int _) (.cons (.int _) .nil))))
      · rw [List.map_append, nm, List.range_succ, List.map_append]
        rfl
      · rcases List.mem_append.mp hu with h | h
        · exact ok u h
        · rw [List.mem_singleton] at h
          subst h
          simp only
          omega
    · clear T2 K2 e2
      rintro σ' H3 ⟨us, refs, x5, x6, x7, x8, x9, x10, rfl, T3, k3, e3, A3, hn, nm, ok⟩
      have hrl := mapLenP A3
      have hl5 : 1 ≤ us.length ∧ (us.length : Int) ≤ most := by omega
      walk_at "cg"
      rename_i dn H4 dn0 dn1 T4 k4
      refine lcR_d (K := K) labD (fun i (a : Str × Body) => a.1 = labC (i : Int) ∧ a.2.fit us.length) T4 (by omega) (fun j H' R R' hj T' k' q' => ?_) (fun D H5 acc fs hD eD hfl hP hA T5 k5 => ?_)
      · have hj10 : (0 : Int) ≤ 0 + (j : Int) ∧ (0 : Int) + (j : Int) < 10 := by omega
        have lo := labC_ok hj10.1 hj10.2
        walk_at "cg"
        refine r_strI hj10.1 (by omega) ?_
        walk_at "cg"
        refine r_addS (by omega) ?_
        walk_at "cg"
        refine ⟨t, c, _, rfl, T', by omega, by omega, fun pb b H6 I6 fb T6 k6 => ?_⟩
        walk_at "cg"
        refine q' _ _ (labC (j : Int), b) ⟨rfl, by rw [← hrl]; exact fb⟩ ?_ (by walk_at "cg h") (by walk_at "cg kp")
        refine .tup (ds := [.str (labC (j : Int)), b.d]) (xs := [.str (labC (0 + (j : Int))), .ref pb]) (by assumption) ?_
        rw [Int.zero_add]
        exact .cons (.str _) (.cons (by walk_at "cg h") .nil)
      · have nDt : D ≠ t := by walk_at "cg ne"
        have nDc : D ≠ c := by walk_at "cg ne"
        have e5 := Kp.get1 k5 nlt (Kp.get1 k4 nlt e3)
        have A5 := k5.imAll (k4.imAll A3)
        have K5 : Kp [t] H H5 := Kp.tr1 k5 (Kp.tr1 k4 k3)
        have fl : H l = none := by assumption
        have fD : H D = none := (Kp.tr1 k4 k3).free hD fun b hb => by
          rw [List.mem_singleton] at hb
          subst hb
          exact T4.it
        clear k3 k4 k5 T3 T4 e3 A3
        have fin : ∀ (w pg : Addr) (g : Goal) (H9 : Hp), H w = none → w ≠ l ∧ w ≠ D → H9 w = some (.lst [.ref l, .ref D, .ref pg]) → Im K H9 (.ref pg) g.d → tmLaw us.length g.ts → -2 ≤ g.c → g.c ≤ 2 → Kp [t] H5 H9 → Tp t c H9 → Q (.ref w) H9 := fun w pg g H9 fw dw ew ig g1 g2 g3 k9 T9 => by
          refine q ⟨w, l, D⟩ ⟨us, fs, g⟩ H9 ⟨⟨pg, ew, ig⟩, ⟨_, Kp.get1 k9 nlt e5, k9.imAll A5⟩, ⟨_, Kp.get1 k9 nDt eD, k9.imAll hA⟩, dw⟩ ⟨hl5.1, by show us.length ≤ 60; omega, fun u hu => ?_, ?_, fun b hb => ?_, ?_, fun b hb => ?_, by show fs.length ≤ 200; omega, ⟨g1.fit (by omega), by show -1000000000 ≤ g.c; omega, by show g.c ≤ 1000000000; omega⟩⟩ ⟨hl5.2, fun u hu => ?_, by show (fs.length : Int) ≤ bodies; omega, ⟨g1, g2, g3⟩, fun b hb => ?_, fun u hu => ?_⟩ (fun x hx => ?_) T9 (Kp.tr1 k9 K5)
          · have o := ok u hu
            have hm : u.1 ∈ (List.range us.length).map nmS := by
              rw [hn, ← nm]
              exact List.mem_map.mpr ⟨u, hu, rfl⟩
            obtain ⟨i, hi, e⟩ := List.mem_map.mp hm
            rw [List.mem_range] at hi
            have n := nmS_ok i (by omega)
            rw [e] at n
            exact ⟨n.1, by omega, by omega, by omega, by omega⟩
          · show (us.map (·.1)).Nodup
            rw [nm, ← hn]
            exact nodup_map_range fun i hi j hj => nmS_inj i (by omega) j (by omega)
          · have hb : b ∈ fs := hb
            obtain ⟨j, hj⟩ := List.getElem?_of_mem hb
            have hjl := (List.getElem?_eq_some_iff.mp hj).1
            obtain ⟨e, _⟩ := hP j b hj
            have lo := labC_ok (k := (j : Int)) (by omega) (by omega)
            rw [e]
            exact ⟨lo.1, by omega⟩
          · show (fs.map (·.1)).Nodup
            refine List.pairwise_iff_getElem.mpr fun i j hi hj hij e => ?_
            rw [List.length_map] at hi hj
            rw [List.getElem_map, List.getElem_map] at e
            have a := (hP i _ (List.getElem?_eq_getElem hi)).1
            have b := (hP j _ (List.getElem?_eq_getElem hj)).1
            rw [a, b] at e
            have := labC_inj (by omega) (by omega) (by omega) (by omega) e
            omega
          · have hb : b ∈ fs := hb
            obtain ⟨j, hj⟩ := List.getElem?_of_mem hb
            exact (hP j b hj).2
          · have o := ok u hu
            exact ⟨o.1, o.2.1, o.2.2.2⟩
          · have hb : b ∈ fs := hb
            obtain ⟨j, hj⟩ := List.getElem?_of_mem hb
            have hjl := (List.getElem?_eq_some_iff.mp hj).1
            exact ⟨j, by omega, by omega, (hP j b hj).1⟩
          · have hm : u.1 ∈ (List.range us.length).map nmS := by
              rw [hn, ← nm]
              exact List.mem_map.mpr ⟨u, hu, rfl⟩
            obtain ⟨i, hi, e⟩ := List.mem_map.mp hm
            rw [List.mem_range] at hi
            exact ⟨i, by omega, e.symm⟩
          · simp only [WA.all, List.mem_cons, List.not_mem_nil, or_false] at hx
            rcases hx with rfl | rfl | rfl
            · exact fw
            · exact fl
            · exact fD
        walk_at "cg"
        refine ix_mm (by walk_at "cg h") (by assumption) (by assumption) fun mx => ?_
        walk_at "cg"
        refine ⟨t, c, _, rfl, by walk_at "cg h", by omega, by omega, fun pt ts H7 I7 f7 T7 k7 => ?_⟩
        rw [hrl] at f7
        walk_at "cg"
        rename_i d8 H8 d80 d81 T8 k8 pg H9 hpg sg k9 d10 H10 d100 d101 T10 k10
        refine if_S (fun c0 => ?_) (fun c0 => ?_)
        · walk_at "cg"
          rename_i w H13 hw ew k13
          exact fin w _ goal0 H13 (by walk_at "cg fr") ⟨by walk_at "cg ne", by walk_at "cg ne"⟩ ew (.tup (by walk_at "cg h") (.cons (.str _) (.cons (.tup (by walk_at "cg h") .nil) (.cons (.int _) .nil)))) ⟨(fun z hz => by cases hz), List.Pairwise.nil, by show ((0 : Nat) : Int) ≤ _; omega⟩ (by decide) (by decide) (by walk_at "cg kp") (by walk_at "cg h")
        · walk_at "cg"
          rename_i w H13 hw ew k13
          exact fin w _ ⟨mx, ts, d8 - 2⟩ H13 (by walk_at "cg fr") ⟨by walk_at "cg ne", by walk_at "cg ne"⟩ ew (.tup (by walk_at "cg h") (.cons (.str _) (.cons (by walk_at "cg h") (.cons (.int _) .nil)))) f7 (by show -2 ≤ d8 - 2; omega) (by show d8 - 2 ≤ 2; omega) (by walk_at "cg kp") (by walk_at "cg h")
end
/-! ### comprehensions over a range: ints, truth values -/
theorem at_map_range (L : List Int) : (List.range L.length).map (fun i : Nat => at_ L (i : Int)) = L := by
  refine List.ext_getElem (by simp) fun i h1 h2 => ?_
  rw [List.getElem_map, List.getElem_range]
  unfold at_
  rw [Int.toNat_natCast, List.getD_eq_getElem?_getD, List.getElem?_eq_getElem h2]
  rfl
section
variable {σ σ0 : St} {H : Hp} {K : PySem.W.Frag} {g : TG} {tt : TT} {te : TE} {vs : List Nat} {Q : VK} {n : Nat} {lo : Int}
theorem lcR_L (L : List Int) (hn : n = L.length) [hw : Wip σ vs σ0] (small : n ≤ 10000)
    (hs : ∀ (i : Nat) (H' : Hp) (R : V → Hp → Prop) (R' : Hp → Prop), i < L.length → Kp [] H H' → (∀ H4, Kp [] H' H4 → R (.int (at_ L i)) H4) → lcTurn g tt te vs σ σ0 (.int (lo + (i : Int))) H' R R')
    (hd : ∀ D H', H D = none → H' D = some (.lst (L.map V.int)) → Kp [] H H' → Q (.ref D) H') : lcS (Itr lo n) g tt te vs σ H Q :=
  lcR_m (K := default) (fun i => PyData.int (at_ L (i : Int))) small (fun i H' R R' hi k h => hs i H' R R' (hn ▸ hi) k fun H4 k4 => h _ H4 (.int _) k4) fun D H' acc hD eD hA k => hd D H' hD (by
    have e : (List.range n).map (fun i : Nat => PyData.int (at_ L (i : Int))) = L.map PyData.int := by
      have := congrArg (fun l => l.map PyData.int) (at_map_range L)
      rw [List.map_map] at this
      rw [hn]
      exact this
    rw [e] at hA
    rw [eD, hA.ints]) k
theorem lcR_B (f : Nat → Bool) [hw : Wip σ vs σ0] (small : n ≤ 10000)
    (hs : ∀ (i : Nat) (H' : Hp) (R : V → Hp → Prop) (R' : Hp → Prop), i < n → Kp [] H H' → (∀ H4, Kp [] H' H4 → R (.bl (f i)) H4) → lcTurn g tt te vs σ σ0 (.int (lo + (i : Int))) H' R R')
    (hd : ∀ D H', H D = none → H' D = some (.lst (((List.range n).map f).map V.bl)) → Kp [] H H' → Q (.ref D) H') : lcS (Itr lo n) g tt te vs σ H Q :=
  lcR_m (K := default) (fun i => PyData.bool (f i)) small (fun i H' R R' hi k h => hs i H' R R' hi k fun H4 k4 => h _ H4 (.bl _) k4) fun D H' acc hD eD hA k => hd D H' hD (by
    have e : (List.range n).map (fun i : Nat => PyData.bool (f i)) = ((List.range n).map f).map PyData.bool := by rw [List.map_map]; rfl
    rw [e] at hA
    rw [eD, hA.bls]) k
end
theorem mapGetJ {K : PySem.W.Frag} {H : Hp} {α : Type} {f : α → PyData} {xs : List V} {as : List α} {i : Nat} {a : α} (h : ImAll K H xs (as.map f)) (e : as[i]? = some a) : ∃ x, atI xs (0 + (i : Int)) = some x ∧ Im K H x (f a) := by
  have hl := mapLenP h
  have hi := (List.getElem?_eq_some_iff.mp e).1
  obtain ⟨x, hx⟩ : ∃ x, xs[i]? = some x := ⟨_, List.getElem?_eq_getElem (by omega)⟩
  obtain ⟨b, hb, hI⟩ := mapGetP h hx
  rw [e] at hb
  cases hb
  refine ⟨x, ?_, hI⟩
  rw [Int.zero_add, atI_nat (by omega) (by omega), Int.toNat_natCast, hx]

/-! ### facts, points as functions -/
inductive Fact where
  | row (ts : Tms) (n : Int)
  | any (ls : List Lit)
  deriving DecidableEq
def Fact.d : Fact → PyData
  | .row ts n => .tuple [.str (Str.ofString "row"), tmD ts, .int n]
  | .any ls => .tuple [.str (Str.ofString "any"), litsD ls]
theorem Fact.shp (f : Fact) : Shp 3 f.d := by
  cases f with
  | row ts n => exact .tup (shp_cons (.str (by decide +kernel)) (shp_cons (tmD_shp ts) (shp_cons (.int _) shp_nil)))
  | any ls => exact .tup (shp_cons (.str (by decide +kernel)) (shp_cons (litsD_shp ls) shp_nil))
def Fact.h (f : Pt) : Fact → Bool
  | .row ts n => decide (sumF ts f ≤ n)
  | .any ls => ls.any fun l => l.h f
def Fact.vars : Fact → List Int
  | .row ts _ => ts.map (·.1)
  | .any ls => ls.map (·.v)
abbrev FactAt (K : PySem.W.Frag) (H : Hp) (p : Addr) (f : Fact) : Prop := Im K H (.ref p) f.d
section
variable {K : PySem.W.Frag} {H : Hp} {p : Addr} {ts : Tms} {n : Int} {ls : List Lit} {l : Lit} {x : V}
theorem row_open (h : FactAt K H p (.row ts n)) : ∃ q, SqT K H p [.str (Str.ofString "row"), .ref q, .int n] ∧ Im K H (.ref q) (tmD ts) := by
  obtain ⟨_, h1, h2⟩ := Im.open h
  obtain ⟨_, _, rfl, a1, h2⟩ := h2.c
  obtain ⟨_, _, rfl, a2, h2⟩ := h2.c
  obtain ⟨_, _, rfl, a3, h2⟩ := h2.c
  obtain rfl := h2.n
  obtain ⟨q, rfl⟩ := a2.isRef
  cases a1; cases a3
  exact ⟨q, h1, a2⟩
theorem any_open (h : FactAt K H p (.any ls)) : ∃ q, SqT K H p [.str (Str.ofString "any"), .ref q] ∧ Im K H (.ref q) (litsD ls) := by
  obtain ⟨_, h1, h2⟩ := Im.open h
  obtain ⟨_, _, rfl, a1, h2⟩ := h2.c
  obtain ⟨_, _, rfl, a2, h2⟩ := h2.c
  obtain rfl := h2.n
  obtain ⟨q, rfl⟩ := a2.isRef
  cases a1
  exact ⟨q, h1, a2⟩
theorem row_mk (h1 : SqT K H p [.str (Str.ofString "row"), x, .int n]) (h2 : Im K H x (tmD ts)) : FactAt K H p (.row ts n) := .tup h1 (.cons (.str _) (.cons h2 (.cons (.int _) .nil)))
theorem any_mk (h1 : SqT K H p [.str (Str.ofString "any"), x]) (h2 : Im K H x (litsD ls)) : FactAt K H p (.any ls) := .tup h1 (.cons (.str _) (.cons h2 .nil))
theorem fact_at {f : Fact} (h : Im K H x f.d) : ∃ q, x = .ref q ∧ FactAt K H q f := by
  cases f with
  | row ts n =>
    obtain ⟨q, rfl⟩ := Im.isRef h
    exact ⟨q, rfl, h⟩
  | any ls =>
    obtain ⟨q, rfl⟩ := Im.isRef h
    exact ⟨q, rfl, h⟩
end
def Fact.asLit : Fact → Option Lit
  | .row [(v, c)] n => if 0 < c then some ⟨v, .le, n / c⟩ else some ⟨v, .ge, -(n / -c)⟩
  | .any [l] => some l
  | _ => none
theorem asLit_two (l l' : Lit) (ls : List Lit) : (Fact.any (l :: l' :: ls)).asLit = none := by
  obtain ⟨v, r, a⟩ := l
  rfl
theorem asLit_row2 (z z' : Int × Int) (ts : Tms) (n : Int) : (Fact.row (z :: z' :: ts) n).asLit = none := by
  obtain ⟨v, c⟩ := z
  rfl
/-- coefficients that are not 0 and small -/
def Fact.ok (m : Int) : Fact → Prop
  | .row ts n => (∀ z ∈ ts, 0 ≤ z.1 ∧ z.1 < m ∧ z.2 ≠ 0 ∧ -1000000000000000000 ≤ z.2 ∧ z.2 ≤ 1000000000000000000) ∧ ts.length ≤ 60 ∧ n ≤ n ∧ n ≤ n
  | .any ls => (∀ l ∈ ls, 0 ≤ l.v ∧ l.v < m ∧ -1000000000000000000 ≤ l.a ∧ l.a ≤ 1000000000000000000) ∧ ls.length ≤ 60
theorem Fact.ok_vars {m : Int} {f : Fact} (h : f.ok m) : ∀ v ∈ f.vars, 0 ≤ v ∧ v < m := by
  cases f with
  | row ts n =>
    intro v hv
    obtain ⟨z, hz, rfl⟩ := List.mem_map.mp hv
    have q := h.1 z hz
    exact ⟨q.1, q.2.1⟩
  | any ls =>
    intro v hv
    obtain ⟨l, hl, rfl⟩ := List.mem_map.mp hv
    have q := h.1 l hl
    exact ⟨q.1, q.2.1⟩
theorem Fact.asLit_v {f : Fact} {m : Int} {l : Lit} (ok : f.ok m) (h : f.asLit = some l) : 0 ≤ l.v ∧ l.v < m := by
  cases f with
  | row ts n =>
    match ts, h, ok with
    | [], h, _ => cases h
    | z :: z' :: ts, h, _ => rw [asLit_row2] at h; cases h
    | [(v, c)], h, ok =>
      have q := ok.1 (v, c) List.mem_cons_self
      simp only [Fact.asLit] at h
      by_cases hc : 0 < c
      · rw [if_pos hc] at h
        cases h
        exact ⟨q.1, q.2.1⟩
      · rw [if_neg hc] at h
        cases h
        exact ⟨q.1, q.2.1⟩
  | any ls =>
    match ls, h, ok with
    | [], h, _ => cases h
    | l1 :: l2 :: ls, h, _ => rw [asLit_two] at h; cases h
    | [l1], h, ok =>
      have q := ok.1 l1 List.mem_cons_self
      cases h
      exact ⟨q.1, q.2.1⟩
inductive LitO (K : PySem.W.Frag) (H : Hp) : V → Option Lit → Prop
  | none : LitO K H .non Option.none
  | some {p : Addr} {l : Lit} (h : LitAt K H p l.v l.r l.a) : LitO K H (.ref p) (Option.some l)
def spAsLit (K : PySem.W.Frag) : Sp := fun vs H Q _ => ∃ (p : Addr) (f : Fact) (m : Int), vs = [.ref p] ∧ FactAt K H p f ∧ f.ok m ∧ ∀ (x : V) (H' : Hp), LitO K H' x f.asLit → Kp [] H H' → Q x H'
def spTrue (K : PySem.W.Frag) : Sp := fun vs H Q _ => ∃ (p q : Addr) (f : Fact) (g : Pt) (dom : Int → Prop) (m : Int), vs = [.ref p, .ref q] ∧ FactAt K H p f ∧ PtAt K H q g dom ∧ f.ok m ∧ (∀ v ∈ f.vars, dom v) ∧ ∀ H', Kp [] H H' → Q (.bl (f.h g)) H'
/-- a drawn fact -/
def Fact.le (B : Int) : Fact → Prop
  | .row ts _ => ∀ z ∈ ts, -B ≤ z.2 ∧ z.2 ≤ B
  | .any ls => ∀ l ∈ ls, -B ≤ l.a ∧ l.a ≤ B
def spLawFact (K : PySem.W.Frag) : Sp := fun vs H Q _ => ∃ (t c : Addr) (m : Int), vs = [.ref t, .int m] ∧ Tp t c H ∧ 1 ≤ m ∧ m ≤ 60 ∧ ∀ (p : Addr) (f : Fact) (H' : Hp), FactAt K H' p f → f.ok m → f.le 1001 → (f.vars.length : Int) ≤ m + 3 → Tp t c H' → Kp [t] H H' → Q (.ref p) H'
theorem wdiv {i j : Int} (h : 0 < j) (h1 : j ≤ 1000000000000000000) : CDivW i j := wide_div (b := 60) h (show j.natAbs < 1152921504606846976 by omega) (by decide) (by decide)

section
variable {P : Program} {w : World} {K : PySem.W.Frag} {mg : Str → Option Value} {base : Heap} {C_Model : Addr}
end
abbrev Un := Str × Int × Int
/-! ### steps -/



inductive Rule where
  | bound (v : Int)
  | given (s : Str)
  | suppose
  | sum (ps : List (Int × Int))
  | divide (i d : Int)
  | look (s : Str) (is : List Int)
  | apart (s : Str)
  | thn (s : Str) (i : Int)
  | unit (is : List Int)
  | cases (i j s t : Int)
  | absurd (i : Int)
  | weaken (i : Int)
def Rule.name : Rule → Str
  | .bound _ => Str.ofString "bound"
  | .given _ => Str.ofString "given"
  | .suppose => Str.ofString "suppose"
  | .sum _ => Str.ofString "sum"
  | .divide _ _ => Str.ofString "divide"
  | .look _ _ => Str.ofString "look"
  | .apart _ => Str.ofString "apart"
  | .thn _ _ => Str.ofString "then"
  | .unit _ => Str.ofString "unit"
  | .cases _ _ _ _ => Str.ofString "cases"
  | .absurd _ => Str.ofString "absurd"
  | .weaken _ => Str.ofString "weaken"
def Rule.args : Rule → List PyData
  | .bound v => [.int v]
  | .given s => [.str s]
  | .suppose => []
  | .sum ps => [tmD ps]
  | .divide i d => [.int i, .int d]
  | .look s is => [.str s, intsD is]
  | .apart s => [.str s]
  | .thn s i => [.str s, .int i]
  | .unit is => [intsD is]
  | .cases i j s t => [.int i, .int j, .int s, .int t]
  | .absurd i => [.int i]
  | .weaken i => [.int i]
def Rule.prem : Rule → List Int
  | .sum ps => ps.map (·.1)
  | .divide i _ => [i]
  | .look _ is => is
  | .thn _ i => [i]
  | .unit is => is
  | .cases i j s t => [i, j, s, t]
  | .absurd i => [i]
  | .weaken i => [i]
  | _ => []
def Rule.label : Rule → Option Str
  | .given s => some s
  | .look s _ => some s
  | .apart s => some s
  | .thn s _ => some s
  | _ => none
/-- sizes for the walk -/
def Rule.bd : Rule → Prop
  | .sum ps => ps.length ≤ 60
  | .look _ is => is.length ≤ 60
  | .unit is => is.length ≤ 60
  | _ => True
structure Step where
  f : Fact
  r : Rule
def Step.d (s : Step) : PyData := .tuple (s.f.d :: .str s.r.name :: s.r.args)
theorem step_open {K : PySem.W.Frag} {H : Hp} {p : Addr} {s : Step} (h : Im K H (.ref p) s.d) : ∃ q xs, SqT K H p (.ref q :: .str s.r.name :: xs) ∧ FactAt K H q s.f ∧ ImAll K H xs s.r.args := by
  obtain ⟨_, h1, h2⟩ := Im.open h
  obtain ⟨_, _, rfl, a1, h3⟩ := h2.c
  obtain ⟨_, ys, rfl, a2, h4⟩ := h3.c
  obtain ⟨q, rfl, a3⟩ := fact_at a1
  cases a2
  exact ⟨q, ys, h1, a3, h4⟩
theorem step_mk {K : PySem.W.Frag} {H : Hp} {p q : Addr} {s : Step} {xs : List V} (h : SqT K H p (.ref q :: .str s.r.name :: xs)) (hf : FactAt K H q s.f) (ha : ImAll K H xs s.r.args) : Im K H (.ref p) s.d := .tup h (.cons hf (.cons (.str _) ha))
/-- an entry: a step, or None where it sleeps -/
def entD : Option Step → PyData
  | none => .none
  | some s => s.d
def awake (es : List (Option Step)) (i : Int) : Bool := decide (0 ≤ i) && (decide (i < es.length) && (match es[i.toNat]? with | some (some _) => true | _ => false))
structure EntAt (K : PySem.W.Frag) (H : Hp) (l : Addr) (es : List (Option Step)) : Prop where
  ex : ∃ refs, H l = some (.lst refs) ∧ ImAll K H refs (es.map entD)
theorem EntAt.kp {K : PySem.W.Frag} {H H' : Hp} {l : Addr} {es : List (Option Step)} {S : List Addr} (k : Kp S H H') (h : EntAt K H l es) (n : ¬ l ∈ S) : EntAt K H' l es := by
  obtain ⟨refs, a, b⟩ := h.ex
  exact ⟨refs, k.get n a, k.imAll b⟩
theorem EntAt.kp0 {K : PySem.W.Frag} {H H' : Hp} {l : Addr} {es : List (Option Step)} (k : Kp [] H H') (h : EntAt K H l es) : EntAt K H' l es := h.kp k fun z => nomatch z
def knownB (M : Mdl) (es : List (Option Step)) (s : Step) : Bool :=
  (s.r.prem.all (awake es)) && ((match s.r.label with | some x => decide (x ∈ M.bs.map (·.1)) | none => true) && s.f.vars.all fun v => decide (0 ≤ v) && decide (v < M.us.length))
theorem ok_few {f : Fact} {m : Int} (h : f.ok m) : f.vars.length ≤ 60 := by
  cases f with
  | row ts n => simpa [Fact.vars] using h.2.1
  | any ls => simpa [Fact.vars] using h.2
theorem ok_tms {f : Fact} {m : Int} (h : f.ok m) : ∀ ts n, f = .row ts n → ts.length ≤ 1000 := fun ts n e => by
  subst e
  have := h.2.1
  omega
def spPrem (K : PySem.W.Frag) : Sp := fun vs H Q _ => ∃ (p : Addr) (s : Step), vs = [.ref p] ∧ Im K H (.ref p) s.d ∧ s.r.bd ∧ ∀ (l : Addr) H', H' l = some (.lst (s.r.prem.map V.int)) → Kp [] H H' → Q (.ref l) H'
def spUnkIn (K : PySem.W.Frag) : Sp := fun vs H Q _ => ∃ (p : Addr) (f : Fact), vs = [.ref p] ∧ FactAt K H p f ∧ f.vars.length ≤ 60 ∧ ∀ (l : Addr) (ns : List Int) (H' : Hp), H l = none → H' l = some (.lst (ns.map V.int)) → ns.Pairwise (· < ·) → (∀ k, k ∈ ns ↔ k ∈ f.vars) → Kp [] H H' → Q (.ref l) H'
def spHas (K : PySem.W.Frag) (C : Addr) : Sp := fun vs H Q _ => ∃ (a : MA) (M : Mdl) (x : Str), vs = [.ref a.p, .str x] ∧ MdlAt K C H a M ∧ Q (.bl (decide (x ∈ M.bs.map (·.1)))) H
def spKnown (K : PySem.W.Frag) (C : Addr) : Sp := fun vs H Q _ => ∃ (a : MA) (M : Mdl) (l p : Addr) (es : List (Option Step)) (s : Step), vs = [.ref a.p, .ref l, .ref p] ∧ MdlAt K C H a M ∧ M.us.length ≤ 60 ∧ EntAt K H l es ∧ es.length ≤ 1000 ∧ Im K H (.ref p) s.d ∧ s.r.bd ∧ s.f.vars.length ≤ 60 ∧ ∀ H', Kp [] H H' → Q (.bl (knownB M es s)) H'
theorem kvs_has {kvs : List (Key × V)} {bs : List (Str × Body)} {x : Str} (h : kvs.map (fun z => z.1) = bs.map (fun b => Sum.inr b.1)) : (valV kvs (Sum.inr x)).isSome = decide (x ∈ bs.map (·.1)) := by
  have e : (Sum.inr x : Key) ∈ kvs.map (fun z => z.1) ↔ x ∈ bs.map (·.1) := by
    rw [h]
    simp only [List.mem_map, Sum.inr.injEq]
  rw [← valV_any, Bool.eq_iff_iff, decide_eq_true_eq, ← e, List.any_eq_true]
  simp only [decide_eq_true_eq, List.mem_map]
theorem r_slA2 {K : PySem.W.Frag} {H : Hp} {Q : VK} {p : Addr} {x y : V} {xs : List V} (h : SqT K H p (x :: y :: xs)) (q : ∀ l H2, SqT K H2 l xs → Kp [] H H2 → Q (.ref l) H2) : rSlA K (.ref p) (some 2) none H Q := by
  refine ⟨p, _, rfl, h, fun e => ?_, fun _ l hl => ?_⟩
  · exfalso
    have e1 := e.1
    have : HT.sIx (x :: y :: xs).length 0 (some ((2 : Nat) : Int)) = min 2 (x :: y :: xs).length := HT.sIx_nat _ _ _
    simp at this e1
    omega
  · have e : cutV (x :: y :: xs) (some 2) none = xs := cut_from (by decide)
    rw [e]
    exact q l _ (SqT.of upd_same) (Kp.new hl)
theorem lab_in (r : Rule) : inV (.str r.name) [.str (Str.ofString "given"), .str (Str.ofString "look"), .str (Str.ofString "apart"), .str (Str.ofString "then")] = r.label.isSome := by
  cases r <;> (simp only [Rule.name, Rule.label, Option.isSome_some, Option.isSome_none]; decide +kernel)
theorem lab_args {r : Rule} {x : Str} (h : r.label = some x) : ∃ ds, r.args = .str x :: ds := by
  cases r <;> first | (cases h; exact ⟨_, rfl⟩) | cases h
theorem atI_2 {α : Type} {x y z : α} {xs : List α} : atI (x :: y :: z :: xs) 2 = some z := by
  rw [atI_nat (by decide) (by simp <;> omega)]
  rfl
theorem nodup_le : ∀ {ns us : List Int}, ns.Nodup → (∀ k ∈ ns, k ∈ us) → ns.length ≤ us.length
  | [], _, _, _ => Nat.zero_le _
  | n :: ns, us, h, s => by
    rw [List.nodup_cons] at h
    have m := s n List.mem_cons_self
    have q := nodup_le (ns := ns) (us := us.erase n) h.2 fun k hk => (List.mem_erase_of_ne fun e => h.1 (by rw [← e]; exact hk)).mpr (s k (List.mem_cons_of_mem _ hk))
    rw [List.length_erase_of_mem m] at q
    have := List.length_pos_of_mem m
    rw [List.length_cons]
    omega
theorem asc_le {ns us : List Int} (h : ns.Pairwise (· < ·)) (s : ∀ k, k ∈ ns ↔ k ∈ us) : ns.length ≤ us.length := nodup_le (h.imp fun {a b} q => by omega) fun k hk => (s k).mp hk

/-! ### the points of a box that a body can tell apart -/
theorem at_set (os : List Int) (i : Nat) (x : Int) (v : Int) : at_ (os.set i x) v = if v.toNat = i ∧ i < os.length then x else at_ os v := by
  unfold at_
  rw [List.getD_eq_getElem?_getD, List.getD_eq_getElem?_getD, List.getElem?_set]
  by_cases h1 : i = v.toNat
  · subst h1
    by_cases h2 : v.toNat < os.length
    · simp [h2]
    · simp [h2]
  · rw [if_neg h1, if_neg (fun e => h1 e.1.symm)]
theorem ixN_ok {n : Nat} {i : Int} (h0 : 0 ≤ i) (h1 : i < n) : ixN n i = some i.toNat := by simp [ixN, h0, h1]
def prF (f : Int → Int) : List Int → Int
  | [] => 1
  | n :: ns => f n * prF f ns
theorem prF_snoc (f : Int → Int) : ∀ (ns : List Int) (n : Int), prF f (ns ++ [n]) = prF f ns * f n
  | [], n => by simp [prF]
  | m :: ns, n => by
    show f m * prF f (ns ++ [n]) = f m * prF f ns * f n
    rw [prF_snoc f ns n, Int.mul_assoc]
theorem prF_take {f : Int → Int} {ns : List Int} {i : Nat} {n : Int} (h : ns[i]? = some n) : prF f (ns.take (i + 1)) = prF f (ns.take i) * f n := by
  rw [List.take_add_one, h]
  exact prF_snoc _ _ _
theorem prF_pos {f : Int → Int} : ∀ {ns : List Int}, (∀ n ∈ ns, 1 ≤ f n) → 1 ≤ prF f ns
  | [], _ => Int.le_refl _
  | n :: ns, h => by
    have h1 := h n List.mem_cons_self
    have h2 := prF_pos (ns := ns) fun m hm => h m (List.mem_cons_of_mem _ hm)
    show 1 ≤ f n * prF f ns
    have := Int.mul_le_mul h1 h2 (by omega) (by omega)
    omega
theorem prF_le4 {f : Int → Int} : ∀ {ns : List Int}, (∀ n ∈ ns, 1 ≤ f n ∧ f n ≤ 4) → 1 ≤ prF f ns ∧ prF f ns ≤ 4 ^ ns.length
  | [], _ => ⟨Int.le_refl _, Int.le_refl _⟩
  | n :: ns, h => by
    have h1 := h n List.mem_cons_self
    have h2 := prF_le4 (ns := ns) fun m hm => h m (List.mem_cons_of_mem _ hm)
    refine ⟨prF_pos fun m hm => (h m hm).1, ?_⟩
    show f n * prF f ns ≤ 4 ^ (ns.length + 1)
    rw [Int.pow_succ, Int.mul_comm (4 ^ ns.length) 4]
    exact Int.mul_le_mul h1.2 h2.2 (by omega) (by omega)
/-- the size of a side -/
def szV (los his : List Int) (v : Int) : Int := at_ his v - at_ los v + 1
/-- the values of a place, put into a point -/
def decP (los his : List Int) : List Int → Int → List Int → List Int
  | [], _, pt => pt
  | v :: ns, r, pt => decP los his ns (r / szV los his v) (pt.set v.toNat (at_ los v + r % szV los his v))
def codP (los his : List Int) (f : Pt) : List Int → Int
  | [] => 0
  | v :: ns => (f v - at_ los v) + szV los his v * codP los his f ns
theorem decP_len (los his : List Int) : ∀ (ns : List Int) (r : Int) (pt : List Int), (decP los his ns r pt).length = pt.length
  | [], _, _ => rfl
  | v :: ns, r, pt => by
    show (decP los his ns _ _).length = _
    rw [decP_len los his ns, List.length_set]
theorem decP_off (los his : List Int) : ∀ (ns : List Int) (r : Int) (pt : List Int) (u : Int), (∀ v ∈ ns, v.toNat ≠ u.toNat) → at_ (decP los his ns r pt) u = at_ pt u
  | [], _, _, _, _ => rfl
  | v :: ns, r, pt, u, h => by
    show at_ (decP los his ns _ _) u = _
    rw [decP_off los his ns _ _ u fun w hw => h w (List.mem_cons_of_mem _ hw), at_set, if_neg fun e => h v List.mem_cons_self e.1.symm]
theorem decP_on (los his : List Int) (f : Pt) : ∀ (ns : List Int) (pt : List Int), ns.Nodup → (∀ v ∈ ns, 0 ≤ v ∧ v < pt.length) → (∀ v ∈ ns, at_ los v ≤ f v ∧ f v ≤ at_ his v) → ∀ u ∈ ns, at_ (decP los his ns (codP los his f ns) pt) u = f u
  | [], _, _, _, _, u, hu => by cases hu
  | v :: ns, pt, nd, rg, bx, u, hu => by
    rw [List.nodup_cons] at nd
    have hv := rg v List.mem_cons_self
    have hb := bx v List.mem_cons_self
    have hs : 1 ≤ szV los his v := by unfold szV; omega
    have e1 : codP los his f (v :: ns) % szV los his v = f v - at_ los v := by
      show (f v - at_ los v + szV los his v * _) % szV los his v = _
      rw [Int.add_mul_emod_self_left]
      exact Int.emod_eq_of_lt (by omega) (by unfold szV; omega)
    have e2 : codP los his f (v :: ns) / szV los his v = codP los his f ns := by
      show (f v - at_ los v + szV los his v * _) / szV los his v = _
      rw [Int.add_mul_ediv_left _ _ (by omega), Int.ediv_eq_zero_of_lt (by omega) (by unfold szV; omega), Int.zero_add]
    show at_ (decP los his ns (codP los his f (v :: ns) / szV los his v) (pt.set v.toNat (at_ los v + codP los his f (v :: ns) % szV los his v))) u = _
    rw [e1, e2]
    rcases List.mem_cons.mp hu with rfl | hu
    · rw [decP_off _ _ _ _ _ _ fun w hw e => nd.1 (by have := rg w (List.mem_cons_of_mem _ hw); rw [show u = w by omega]; exact hw), at_set, if_pos ⟨rfl, by omega⟩]
      omega
    · exact decP_on los his f ns _ nd.2 (fun w hw => by rw [List.length_set]; exact rg w (List.mem_cons_of_mem _ hw)) (fun w hw => bx w (List.mem_cons_of_mem _ hw)) u hu
theorem codP_lt (los his : List Int) (f : Pt) : ∀ (ns : List Int), (∀ v ∈ ns, at_ los v ≤ f v ∧ f v ≤ at_ his v) → 0 ≤ codP los his f ns ∧ codP los his f ns < prF (szV los his) ns
  | [], _ => ⟨Int.le_refl _, by show (0 : Int) < 1; decide⟩
  | v :: ns, bx => by
    have hb := bx v List.mem_cons_self
    have ih := codP_lt los his f ns fun w hw => bx w (List.mem_cons_of_mem _ hw)
    have hs : 1 ≤ szV los his v := by unfold szV; omega
    have hd : f v - at_ los v ≤ szV los his v - 1 := by unfold szV; omega
    show 0 ≤ f v - at_ los v + szV los his v * codP los his f ns ∧ f v - at_ los v + szV los his v * codP los his f ns < szV los his v * prF (szV los his) ns
    have a := Int.mul_nonneg (show 0 ≤ szV los his v by omega) ih.1
    have b := Int.mul_le_mul_of_nonneg_left (show codP los his f ns + 1 ≤ prF (szV los his) ns by omega) (show 0 ≤ szV los his v by omega)
    rw [Int.mul_add, Int.mul_one] at b
    omega
/-- a point of the box -/
def inLH (los his pt : List Int) : Prop := pt.length = los.length ∧ ∀ v : Int, 0 ≤ v → v < los.length → at_ los v ≤ at_ pt v ∧ at_ pt v ≤ at_ his v
theorem decP_in {los his : List Int} : ∀ (ns : List Int) (r : Int) (pt : List Int), (∀ v ∈ ns, (0 ≤ v ∧ v < los.length) ∧ at_ los v ≤ at_ his v) → inLH los his pt → inLH los his (decP los his ns r pt)
  | [], _, _, _, h => h
  | v :: ns, r, pt, g, h => by
    have g0 := g v List.mem_cons_self
    have hs : 0 < szV los his v := by unfold szV; omega
    have m0 := Int.emod_nonneg r (show szV los his v ≠ 0 by omega)
    have m1 := Int.emod_lt_of_pos r hs
    refine decP_in ns _ _ (fun w hw => g w (List.mem_cons_of_mem _ hw)) ⟨by rw [List.length_set]; exact h.1, fun u h0 h1 => ?_⟩
    rw [at_set]
    by_cases e : u.toNat = v.toNat ∧ v.toNat < pt.length
    · rw [if_pos e]
      have e2 : u = v := by omega
      subst e2
      unfold szV at m1 m0 ⊢
      omega
    · rw [if_neg e]
      exact h.2 u h0 h1
/-- the box of the model's kind: whole sides -/
def bxOk (los his : List Int) : Prop := his.length = los.length ∧ ∀ v : Int, 0 ≤ v → v < los.length → at_ los v ≤ at_ his v
def bxBd (los his : List Int) : Prop := ∀ v : Int, -1000000 ≤ at_ los v ∧ at_ los v ≤ 1000000 ∧ -1000000 ≤ at_ his v ∧ at_ his v ≤ 1000000
theorem inLH_bd {los his pt : List Int} (h : inLH los his pt) (b : bxBd los his) (v : Int) (h0 : 0 ≤ v) (h1 : v < los.length) : -1000000 ≤ at_ pt v ∧ at_ pt v ≤ 1000000 := by
  have q := h.2 v h0 h1
  have r := b v
  omega
structure BoxAt (K : PySem.W.Frag) (H : Hp) (p : Addr) (los his : List Int) : Prop where
  ex : ∃ q1 q2 : Addr, SqT K H p [.ref q1, .ref q2] ∧ SqT K H q1 (los.map V.int) ∧ SqT K H q2 (his.map V.int)
theorem BoxAt.kp {K : PySem.W.Frag} {H H' : Hp} {p : Addr} {S : List Addr} {los his : List Int} (k : Kp S H H') (h : BoxAt K H p los his) : BoxAt K H' p los his := by
  obtain ⟨q1, q2, a, b, c⟩ := h.ex
  exact ⟨q1, q2, k.tup a, k.tup b, k.tup c⟩
local macro_rules | `(tactic| walk_at "cg h") => `(tactic| (first
  | ((with_reducible show BoxAt _ _ _ _ _); exact BoxAt.kp (by assumption) (by walk_at "cg h"))
  | fail))
local macro_rules | `(tactic| walk_at "cg h") => `(tactic| assumption)
def spCost (K : PySem.W.Frag) : Sp := fun vs H Q _ => ∃ (p q : Addr) (b : Body) (los his : List Int), vs = [.ref p, .ref q] ∧ BodyAt K H p b ∧ b.bd ∧ BoxAt K H q los his ∧ bxOk los his ∧ bxBd los his ∧ (∀ v ∈ b.vars, 0 ≤ v ∧ v < los.length) ∧ ∀ H', Kp [] H H' → Q (.int (prF (szV los his) (numsOf b.vars los.length))) H'
/-- some point of the box does -/
def suppP (b : Body) (los his : List Int) : Prop := ∃ pt, inLH los his pt ∧ b.h (at_ pt) = true
def spSupp (K : PySem.W.Frag) : Sp := fun vs H Q _ => ∃ (p q : Addr) (b : Body) (los his : List Int), vs = [.ref p, .ref q] ∧ BodyAt K H p b ∧ b.bd ∧ BoxAt K H q los his ∧ bxOk los his ∧ bxBd los his ∧ (∀ v ∈ b.vars, 0 ≤ v ∧ v < los.length) ∧ prF (szV los his) (numsOf b.vars los.length) ≤ 1000000 ∧ ∀ (r : Bool) H', (r = true ↔ suppP b los his) → Kp [] H H' → Q (.bl r) H'
theorem supp_some {b : Body} {los his : List Int} {r : Int} (ok : bxOk los his) (hv : ∀ v ∈ b.vars, 0 ≤ v ∧ v < los.length) (h : b.h (at_ (decP los his (numsOf b.vars los.length) r los)) = true) : suppP b los his :=
  ⟨_, decP_in _ _ _ (fun v hm => by have q := numsOf_mem.mp hm; exact ⟨q.1, ok.2 v q.1.1 q.1.2⟩) ⟨rfl, fun v h0 h1 => ⟨Int.le_refl _, ok.2 v h0 h1⟩⟩, h⟩
theorem supp_none {b : Body} {los his : List Int} (hv : ∀ v ∈ b.vars, 0 ≤ v ∧ v < los.length) (h : ∀ j : Nat, (j : Int) < prF (szV los his) (numsOf b.vars los.length) → b.h (at_ (decP los his (numsOf b.vars los.length) j los)) = false) : ¬ suppP b los his := by
  rintro ⟨pt, hin, hb⟩
  have bx : ∀ v ∈ numsOf b.vars los.length, at_ los v ≤ at_ pt v ∧ at_ pt v ≤ at_ his v := fun v hm => hin.2 v (numsOf_mem.mp hm).1.1 (numsOf_mem.mp hm).1.2
  have c := codP_lt los his (at_ pt) _ bx
  have q := h (codP los his (at_ pt) (numsOf b.vars los.length)).toNat (by omega)
  rw [Int.toNat_of_nonneg c.1] at q
  have e : b.h (at_ (decP los his (numsOf b.vars los.length) (codP los his (at_ pt) (numsOf b.vars los.length)) los)) = b.h (at_ pt) := Body.h_congr fun v hm =>
    decP_on los his (at_ pt) _ los ((numsOf_asc _ _).imp fun {a b} h => by omega) (fun u hu => (numsOf_mem.mp hu).1) bx v (numsOf_mem.mpr ⟨hv v hm, hm⟩)
  rw [q, hb] at e
  cases e

/-! ### range(a, b); lists of lists of ints -/
def isR2 (vs : List V) (H : Hp) (R : It → Hp → Prop) : Prop := ∃ i j : Int, vs = [.int i, .int j] ∧ (-(2 ^ 62) ≤ i ∧ i < 2 ^ 62 ∧ -(2 ^ 62) ≤ j ∧ j < 2 ^ 62) ∧ R (Itr i (j - i).toNat) H
instance s_iR2 {ta : TA} {σ : St} {H : Hp} {R : It → Hp → Prop} : Stp (iRng2 ta σ H R) (ta σ H fun vs H1 => isR2 vs H1 R) := ⟨id⟩
theorem r_isR2 {i j : Int} {H : Hp} {R : It → Hp → Prop} (h1 : -1000000000 ≤ i ∧ i ≤ 1000000000) (h2 : -1000000000 ≤ j ∧ j ≤ 1000000000) (q : R (Itr i (j - i).toNat) H) : isR2 [.int i, .int j] H R := ⟨i, j, rfl, by omega, q⟩
local macro_rules | `(tactic| walk_at "cg s") => `(tactic| ((with_reducible apply r_isR2); (focus (first | omega | (constructor <;> decide))); (focus (first | omega | (constructor <;> decide)))))
inductive Els (H : Hp) : List V → List (List Int) → Prop
  | nil : Els H [] []
  | cons {p : Addr} {pt : List Int} {xs : List V} {L : List (List Int)} : H p = some (.lst (pt.map V.int)) → Els H xs L → Els H (.ref p :: xs) (pt :: L)
theorem Els.length {H : Hp} : ∀ {xs : List V} {L : List (List Int)}, Els H xs L → xs.length = L.length
  | _, _, .nil => rfl
  | _, _, .cons _ a => by rw [List.length_cons, List.length_cons, a.length]
theorem Els.kp {S : List Addr} {H H' : Hp} (k : Kp S H H') : ∀ {xs : List V} {L : List (List Int)}, Els H xs L → (∀ p, p ∈ S → V.ref p ∉ xs) → Els H' xs L
  | _, _, .nil, _ => .nil
  | _, _, .cons (p := p) h a, n => .cons (k.k p _ (fun hp => n p hp List.mem_cons_self) h) (a.kp k fun q hq hm => n q hq (List.mem_cons_of_mem _ hm))
theorem Els.kp0 {H H' : Hp} {xs : List V} {L : List (List Int)} (k : Kp [] H H') (h : Els H xs L) : Els H' xs L := h.kp k fun _ hp => nomatch hp
theorem Els.off {H : Hp} {D : Addr} (hD : H D = none) : ∀ {xs : List V} {L : List (List Int)}, Els H xs L → V.ref D ∉ xs
  | _, _, .nil, h => by cases h
  | _, _, .cons h a, m => by
    rcases List.mem_cons.mp m with e | m
    · cases e
      rw [hD] at h
      cases h
    · exact a.off hD m
theorem Els.snoc {H : Hp} {p : Addr} {pt : List Int} (h' : H p = some (.lst (pt.map V.int))) : ∀ {xs : List V} {L : List (List Int)}, Els H xs L → Els H (xs ++ [.ref p]) (L ++ [pt])
  | _, _, .nil => .cons h' .nil
  | _, _, .cons h a => .cons h (a.snoc h')
theorem Els.get {H : Hp} : ∀ {xs : List V} {L : List (List Int)} {i : Nat} {x : V}, Els H xs L → xs[i]? = some x → ∃ p pt, x = .ref p ∧ L[i]? = some pt ∧ H p = some (.lst (pt.map V.int))
  | _, _, _, _, .nil, e => by simp at e
  | _, _, 0, _, .cons (p := p) (pt := pt) h _, e => by simp at e; subst e; exact ⟨p, pt, rfl, rfl, h⟩
  | _, _, i + 1, _, .cons _ a, e => by
    obtain ⟨p, pt, h1, h2, h3⟩ := a.get (i := i) (by simpa using e)
    exact ⟨p, pt, h1, by simpa using h2, h3⟩
/-- all points of the first i sides -/
def extP (a b : Int) (pt : List Int) : List (List Int) := (rgI a b).map fun x => pt ++ [x]
def ptsL (los his : List Int) : Nat → List (List Int)
  | 0 => [[]]
  | i + 1 => (ptsL los his i).flatMap (extP (at_ los i) (at_ his i + 1))
theorem rgI_succ (a : Int) (k : Nat) (n : Nat) (h : k < n) : ((List.range (k + 1)).map fun i => a + ((i : Nat) : Int)) = ((List.range k).map fun i => a + ((i : Nat) : Int)) ++ [a + (k : Int)] := by
  rw [List.range_succ, List.map_append]
  rfl
theorem at_snoc_lt {pt : List Int} {x v : Int} (h0 : 0 ≤ v) (h : v < pt.length) : at_ (pt ++ [x]) v = at_ pt v := by
  unfold at_
  rw [List.getD_eq_getElem?_getD, List.getD_eq_getElem?_getD, List.getElem?_append_left (by omega)]
theorem at_snoc_eq {pt : List Int} {x v : Int} (h : v = pt.length) : at_ (pt ++ [x]) v = x := by
  subst h
  unfold at_
  rw [Int.toNat_natCast, List.getD_eq_getElem?_getD, List.getElem?_append_right (Nat.le_refl _), Nat.sub_self]
  rfl
theorem ptsL_mem (los his : List Int) : ∀ (i : Nat) (pt : List Int), pt ∈ ptsL los his i ↔ pt.length = i ∧ ∀ v : Int, 0 ≤ v → v < i → at_ los v ≤ at_ pt v ∧ at_ pt v ≤ at_ his v
  | 0, pt => by
    show pt ∈ [[]] ↔ _
    rw [List.mem_singleton]
    constructor
    · rintro rfl
      exact ⟨rfl, fun v h0 h1 => by omega⟩
    · exact fun h => List.length_eq_zero_iff.mp h.1
  | i + 1, pt => by
    show pt ∈ (ptsL los his i).flatMap (extP (at_ los i) (at_ his i + 1)) ↔ _
    rw [List.mem_flatMap]
    constructor
    · rintro ⟨z, hz, hp⟩
      obtain ⟨x, hx, rfl⟩ := List.mem_map.mp hp
      have q := (ptsL_mem los his i z).mp hz
      have r := rgI_mem.mp hx
      refine ⟨by rw [List.length_append, q.1]; rfl, fun v h0 h1 => ?_⟩
      by_cases e : v < i
      · rw [at_snoc_lt h0 (by omega)]
        exact q.2 v h0 e
      · have e2 : v = i := by omega
        subst e2
        rw [at_snoc_eq (by omega)]
        omega
    · rintro ⟨hl, hb⟩
      rcases List.eq_nil_or_concat pt with rfl | ⟨z, x, rfl⟩
      · simp at hl
      rw [List.concat_eq_append] at hl hb ⊢
      rw [List.length_append] at hl
      have hzl : z.length = i := by simpa using hl
      have hx := hb i (by omega) (by omega)
      rw [at_snoc_eq (by omega)] at hx
      refine ⟨z, (ptsL_mem los his i z).mpr ⟨hzl, fun v h0 h1 => ?_⟩, List.mem_map.mpr ⟨x, rgI_mem.mpr (by omega), rfl⟩⟩
      have q := hb v h0 (by omega)
      rw [at_snoc_lt h0 (by omega)] at q
      exact q
theorem ptsL_suppP {los his : List Int} {b : Body} : ((ptsL los his los.length).any fun pt => b.h (at_ pt)) = true ↔ suppP b los his := by
  rw [List.any_eq_true]
  constructor
  · rintro ⟨pt, hm, hb⟩
    exact ⟨pt, (ptsL_mem _ _ _ _).mp hm, hb⟩
  · rintro ⟨pt, hm, hb⟩
    exact ⟨pt, (ptsL_mem _ _ _ _).mpr hm, hb⟩
theorem flat_take {α β : Type} {l : List α} {f : α → List β} {i : Nat} {x : α} (h : l[i]? = some x) : (l.take (i + 1)).flatMap f = (l.take i).flatMap f ++ f x := by
  rw [List.take_add_one, h, List.flatMap_append]
  simp
theorem ptsL_le {los his : List Int} : ∀ i : Nat, i ≤ los.length → bxOk los his → (∀ v : Int, 0 ≤ v → v < los.length → szV los his v ≤ 4) → (ptsL los his i).length ≤ 4 ^ i
  | 0, _, _, _ => Nat.le_refl _
  | i + 1, hi, ok, h => by
    have ih := ptsL_le i (by omega) ok h
    have hs := h i (by omega) (by omega)
    have e : ∀ L : List (List Int), (L.flatMap (extP (at_ los i) (at_ his i + 1))).length ≤ L.length * 4 := fun L => by
      induction L with
      | nil => exact Nat.le_refl _
      | cons z L ih =>
        rw [List.flatMap_cons, List.length_append, List.length_cons]
        have : (extP (at_ los i) (at_ his i + 1) z).length ≤ 4 := by
          unfold extP
          rw [List.length_map, rgI_len]
          unfold szV at hs
          omega
        omega
    show ((ptsL los his i).flatMap _).length ≤ _
    rw [Nat.pow_succ]
    exact Nat.le_trans (e _) (Nat.mul_le_mul_right 4 ih)
/-- the sides that are drawn for these bounds -/
def sidesOk (us : List Un) (ls hs : List Int) : Prop := ls.length = hs.length ∧ ∀ (j : Nat) u a b, us[j]? = some u → ls[j]? = some a → hs[j]? = some b → u.2.1 ≤ a ∧ a ≤ b ∧ b ≤ u.2.2
theorem sidesOk.snoc {us : List Un} {ls hs : List Int} {u : Un} {a b : Int} (h : sidesOk us ls hs) (hu : us[ls.length]? = some u) (hb : u.2.1 ≤ a ∧ a ≤ b ∧ b ≤ u.2.2) : sidesOk us (ls ++ [a]) (hs ++ [b]) := by
  refine ⟨by simp [h.1], fun j v x y hv hx hy => ?_⟩
  rcases Nat.lt_trichotomy j ls.length with e | e | e
  · rw [List.getElem?_append_left e] at hx
    rw [List.getElem?_append_left (by rw [← h.1]; exact e)] at hy
    exact h.2 j v x y hv hx hy
  · subst e
    rw [hu] at hv
    rw [List.getElem?_append_right (Nat.le_refl _), Nat.sub_self] at hx
    rw [h.1, List.getElem?_append_right (Nat.le_refl _), Nat.sub_self] at hy
    simp at hv hx hy
    subst hv hx hy
    exact hb
  · rw [List.getElem?_eq_none (by simp; omega)] at hx
    cases hx
theorem sidesOk.at {us : List Un} {ls hs : List Int} (h : sidesOk us ls hs) (hl : ls.length = us.length) {i : Nat} {u : Un} (hu : us[i]? = some u) : u.2.1 ≤ at_ ls i ∧ at_ ls i ≤ at_ hs i ∧ at_ hs i ≤ u.2.2 := by
  have hi := (List.getElem?_eq_some_iff.mp hu).1
  have h1 : ls[i]? = some (at_ ls i) := by
    unfold at_
    rw [Int.toNat_natCast, List.getD_eq_getElem?_getD, List.getElem?_eq_getElem (by omega)]
    rfl
  have h2 : hs[i]? = some (at_ hs i) := by
    unfold at_
    rw [Int.toNat_natCast, List.getD_eq_getElem?_getD, List.getElem?_eq_getElem (by have := h.1; omega)]
    rfl
  exact h.2 i u _ _ hu h1 h2
theorem lst_snoc {H : Hp} {D : Addr} {ls : List Int} {x : Int} (h : H D = some (.lst (ls.map V.int ++ [.int x]))) : H D = some (.lst ((ls ++ [x]).map V.int)) := by
  rw [h, List.map_append]
  rfl
structure LtB (m : Int) : Prop where
  h : m < bigB
theorem LtB.of {m : Int} (h : m ≤ 1000000) : LtB m := ⟨by
  have e : (1000000 : Int) < bigB := by decide
  exact Int.lt_of_le_of_lt h e⟩
local macro_rules | `(tactic| walk_at "cg dr") => `(tactic| ((with_reducible refine spDraw_i (c := ?c) ?h ?h1 ?h2 ?_); (case h => walk_at "cg h"); (case h1 => first | omega | decide); (case h2 => first | (exact LtB.h (by with_reducible assumption)) | (with_reducible assumption) | decide)))
def spLawBox (K : PySem.W.Frag) : Sp := fun vs H Q _ => ∃ (t c l : Addr) (refs : List V) (us : List Un), vs = [.ref t, .ref l] ∧ Tp t c H ∧ H l = some (.lst refs) ∧ l ≠ t ∧ ImAll K H refs (us.map unD) ∧ us.length ≤ 1000 ∧ (∀ u ∈ us, -10000 ≤ u.2.1 ∧ u.2.1 ≤ u.2.2 ∧ u.2.2 ≤ 10000) ∧
  ∀ (p : Addr) (los his : List Int) H', BoxAt K H' p los his → los.length = us.length → sidesOk us los his → Tp t c H' → Kp [t] H H' → Q (.ref p) H'
def spLawPoints (K : PySem.W.Frag) : Sp := fun vs H Q _ => ∃ (p : Addr) (los his : List Int), vs = [.ref p] ∧ BoxAt K H p los his ∧ bxOk los his ∧ bxBd los his ∧ los.length ≤ 5 ∧ (∀ v : Int, 0 ≤ v → v < los.length → szV los his v ≤ 4) ∧
  ∀ (P : Addr) (refs : List V) H', H' P = some (.lst refs) → Els H' refs (ptsL los his los.length) → Kp [] H H' → Q (.ref P) H'

/-! ### boxes of a model -/
def lowQ (us : List Un) : List Int := us.map (·.2.1)
def highQ (us : List Un) : List Int := us.map (·.2.2)
abbrev LH := List Int × List Int
def restS (b : LH) : Option Lit → LH
  | some ⟨v, .le, a⟩ => (b.1, b.2.set v.toNat (if a < at_ b.2 v then a else at_ b.2 v))
  | some ⟨v, .ge, a⟩ => (b.1.set v.toNat (if a > at_ b.1 v then a else at_ b.1 v), b.2)
  | _ => b
def restF (b : LH) (fs : List Fact) : LH := fs.foldl (fun b f => restS b f.asLit) b
theorem restF_take {b : LH} {fs : List Fact} {i : Nat} {f : Fact} (h : fs[i]? = some f) : restF b (fs.take (i + 1)) = restS (restF b (fs.take i)) f.asLit := by
  unfold restF
  rw [List.take_add_one, h, List.foldl_append]
  rfl
theorem restS_len (b : LH) (o : Option Lit) : (restS b o).1.length = b.1.length ∧ (restS b o).2.length = b.2.length := by
  match o with
  | none => exact ⟨rfl, rfl⟩
  | some ⟨v, .le, a⟩ => exact ⟨rfl, List.length_set⟩
  | some ⟨v, .ge, a⟩ => exact ⟨List.length_set, rfl⟩
  | some ⟨v, .eq, a⟩ => exact ⟨rfl, rfl⟩
  | some ⟨v, .ne, a⟩ => exact ⟨rfl, rfl⟩
theorem restF_len (b : LH) : ∀ fs : List Fact, (restF b fs).1.length = b.1.length ∧ (restF b fs).2.length = b.2.length := fun fs => by
  unfold restF
  induction fs generalizing b with
  | nil => exact ⟨rfl, rfl⟩
  | cons f fs ih =>
    rw [List.foldl_cons]
    have a := ih (restS b f.asLit)
    have c := restS_len b f.asLit
    omega
def badLH (b : LH) : Bool := (List.range b.1.length).any fun i => decide (at_ b.1 (i : Int) > at_ b.2 (i : Int))
def restR (us : List Un) (fs : List Fact) : Option LH := if badLH (restF (lowQ us, highQ us) fs) = true then none else some (restF (lowQ us, highQ us) fs)
def lhD : Option LH → PyData
  | none => .none
  | some b => .tuple [intsD b.1, intsD b.2]
theorem lhD_shp (o : Option LH) : Shp 2 (lhD o) := by
  cases o with
  | none => exact .none
  | some b => exact .tup (shp_cons (intsD_shp _) (shp_cons (intsD_shp _) shp_nil))
theorem lh_im {K : PySem.W.Frag} {H : Hp} {p : Addr} {los his : List Int} (h : BoxAt K H p los his) : Im K H (.ref p) (lhD (some (los, his))) := by
  obtain ⟨q1, q2, a, b, c⟩ := h.ex
  exact .tup a (.cons (intsT_im b) (.cons (intsT_im c) .nil))
def spWholeBox (K : PySem.W.Frag) (C : Addr) : Sp := fun vs H Q _ => ∃ (a : MA) (M : Mdl), vs = [.ref a.p] ∧ MdlAt K C H a M ∧ M.us.length ≤ 60 ∧ ∀ x H', BoxAt K H' x (lowQ M.us) (highQ M.us) → Kp [] H H' → Q (.ref x) H'
def inLHb (los his : List Int) (f : Pt) : Bool := (List.range los.length).all fun i => decide (at_ los (i : Int) ≤ f (i : Int)) && decide (f (i : Int) ≤ at_ his (i : Int))
def spInBox (K : PySem.W.Frag) : Sp := fun vs H Q _ => ∃ (p q : Addr) (los his : List Int) (f : Pt), vs = [.ref p, .ref q] ∧ BoxAt K H p los his ∧ his.length = los.length ∧ los.length ≤ 60 ∧ PtAt K H q f (fun v => 0 ≤ v ∧ v < los.length) ∧ ∀ H', Kp [] H H' → Q (.bl (inLHb los his f)) H'
def spRestA (K : PySem.W.Frag) (C : Addr) : Sp := fun vs H Q _ => ∃ (a : MA) (M : Mdl) (l : Addr) (refs : List V) (fs : List Fact), vs = [.ref a.p, .ref l] ∧ MdlAt K C H a M ∧ M.us.length ≤ 60 ∧ H l = some (.lst refs) ∧ ImAll K H refs (fs.map Fact.d) ∧ (∀ f ∈ fs, f.ok M.us.length) ∧
  ∀ x H', Im K H' x (lhD (restR M.us fs)) → Kp [] H H' → Q x H'
def clsL (us : List Un) (los his : List Int) (v : Int) : List Lit := (if at_ los v > at_ (lowQ us) v then [⟨v, .le, at_ los v - 1⟩] else []) ++ (if at_ his v < at_ (highQ us) v then [⟨v, .ge, at_ his v + 1⟩] else [])
def spClause (K : PySem.W.Frag) (C : Addr) : Sp := fun vs H Q _ => ∃ (a : MA) (M : Mdl) (p l : Addr) (los his ks : List Int), vs = [.ref a.p, .ref p, .ref l] ∧ MdlAt K C H a M ∧ M.us.length ≤ 60 ∧ BoxAt K H p los his ∧ los.length = M.us.length ∧ his.length = M.us.length ∧ H l = some (.lst (ks.map V.int)) ∧ ks.length ≤ 60 ∧ (∀ v ∈ ks, 0 ≤ v ∧ v < M.us.length) ∧
  ∀ x H', FactAt K H' x (.any (ks.flatMap (clsL M.us los his))) → Kp [] H H' → Q (.ref x) H'
theorem lhAt_lo {us : List Un} {v : Int} {u : Un} (h : us[v.toNat]? = some u) : at_ (lowQ us) v = u.2.1 := by
  unfold at_ lowQ
  rw [List.getD_eq_getElem?_getD, List.getElem?_map, h]
  rfl
theorem lhAt_hi {us : List Un} {v : Int} {u : Un} (h : us[v.toNat]? = some u) : at_ (highQ us) v = u.2.2 := by
  unfold at_ highQ
  rw [List.getD_eq_getElem?_getD, List.getElem?_map, h]
  rfl

/-! ### facts: when equal -/
theorem litsD_inj (a b : List Lit) (h : litsD a = litsD b) : a = b := by
  simp only [litsD, PyData.tuple.injEq] at h
  exact map_inj Lit.d_inj h
theorem litsD_nb (a : List Lit) : nb (litsD a) = true := by
  simp only [litsD, nb]
  exact nbAll_of fun d hd => by
    obtain ⟨z, _, rfl⟩ := List.mem_map.mp hd
    rfl
theorem litsD_eqv (a b : List Lit) : PyData.eqv (litsD a) (litsD b) = decide (a = b) := eqv_dec litsD_inj litsD_nb (fun a => (litsD_shp a).lay) a b
theorem Fact.d_inj (a b : Fact) (h : a.d = b.d) : a = b := by
  cases a with
  | row ts n =>
    cases b with
    | row us m =>
      simp only [Fact.d, PyData.tuple.injEq, List.cons.injEq, PyData.int.injEq, and_true, true_and] at h
      rw [tmD_inj _ _ h.1, h.2]
    | any ls => simp [Fact.d] at h
  | any ls =>
    cases b with
    | row us m => simp [Fact.d] at h
    | any ms =>
      simp only [Fact.d, PyData.tuple.injEq, List.cons.injEq, and_true, true_and] at h
      rw [litsD_inj _ _ h]
theorem Fact.d_nb (a : Fact) : nb a.d = true := by
  cases a with
  | row ts n => simp only [Fact.d, nb, nbAll, tmD_nb, Bool.and_self]
  | any ls => simp only [Fact.d, nb, nbAll, litsD_nb, Bool.and_self]
theorem Fact.eqv (a b : Fact) : PyData.eqv a.d b.d = decide (a = b) := eqv_dec Fact.d_inj Fact.d_nb (fun a => (Fact.shp a).lay) a b
theorem r_eqF {K : PySem.W.Frag} {H : Hp} {Q : VK} {x y : V} {a b : Fact} (h1 : Im K H x a.d) (h2 : Im K H y b.d) (q : Q (.bl (decide (a = b))) H) : rEqD K x y H Q := by
  refine ⟨_, _, Im.dp h1, Im.dp h2, (Fact.shp _).ok, (Fact.shp _).ok, ?_⟩
  rw [Fact.eqv]
  exact q
theorem factsL_shp (fs : List Fact) : Shp 4 (.list (fs.map Fact.d)) := .list fun d hd => by
  obtain ⟨z, _, rfl⟩ := List.mem_map.mp hd
  exact Fact.shp z
/-- f in a list of facts -/
theorem r_inF {K : PySem.W.Frag} {H : Hp} {Q : VK} {x : V} {l : Addr} {refs : List V} {f : Fact} {fs : List Fact} (hx : Im K H x f.d) (h : H l = some (.lst refs)) (hA : ImAll K H refs (fs.map Fact.d)) (q : Q (.bl (decide (f ∈ fs))) H) : rInD K x (.ref l) H Q := by
  refine ⟨f.d, fs.map Fact.d, Im.dp hx, .lst (SqL.of h) hA.dp, (Fact.shp _).ok, (factsL_shp fs).ok, ?_⟩
  rw [any_in Fact.eqv]
  exact q
/-- the rows of a linear condition -/
def rowsOf (ts : Tms) (r : Rel) (n : Int) : List Fact := (if r = .ge then [] else [.row ts n]) ++ (if r = .le then [] else [.row (negT ts) (-n)])
def spRowsOf (K : PySem.W.Frag) : Sp := fun vs H Q _ => ∃ (p : Addr) (ts : Tms) (r : Rel) (n : Int), vs = [.ref p, .str r.s, .int n] ∧ Im K H (.ref p) (tmD ts) ∧ ts.length ≤ 1000 ∧ ∀ (l : Addr) (refs : List V) (H' : Hp), H l = none → H' l = some (.lst refs) → ImAll K H' refs ((rowsOf ts r n).map Fact.d) → Kp [] H H' → Q (.ref l) H'

theorem tms1 {K : PySem.W.Frag} {H : Hp} {p q : Addr} {v c : Int} (h : SqT K H p [.ref q]) (h2 : SqT K H q [.int v, .int c]) : Im K H (.ref p) (tmD [(v, c)]) := .tup h (.cons (.tup h2 (.cons (.int _) (.cons (.int _) .nil))) .nil)
theorem r_eqTm {K : PySem.W.Frag} {H : Hp} {Q : VK} {x y : V} {a b : Tms} (h1 : Im K H x (tmD a)) (h2 : Im K H y (tmD b)) (q : Q (.bl (decide (a = b))) H) : rEqD K x y H Q := by
  refine ⟨_, _, Im.dp h1, Im.dp h2, (tmD_shp _).ok, (tmD_shp _).ok, ?_⟩
  rw [tmD_eqv]
  exact q

/-! ### facts as rows -/
def Fact.asRow : Fact → Option (Tms × Int)
  | .row ts n => some (ts, n)
  | .any [⟨v, .le, a⟩] => some ([(v, 1)], a)
  | .any [⟨v, .ge, a⟩] => some ([(v, -1)], -a)
  | _ => none
theorem asRow_two (l l' : Lit) (ls : List Lit) : (Fact.any (l :: l' :: ls)).asRow = none := by
  obtain ⟨v, r, a⟩ := l
  cases r <;> rfl
inductive RowO (K : PySem.W.Frag) (H : Hp) : V → Option (Tms × Int) → Prop
  | none : RowO K H .non Option.none
  | some {p : Addr} {ts : Tms} {n : Int} (h : FactAt K H p (.row ts n)) : RowO K H (.ref p) (Option.some (ts, n))
theorem RowO.kp0 {K : PySem.W.Frag} {H H' : Hp} {x : V} {o : Option (Tms × Int)} (k : Kp [] H H') (h : RowO K H x o) : RowO K H' x o := by
  cases h with
  | none => exact .none
  | some h => exact .some (k.im h)
theorem RowO.kp {K : PySem.W.Frag} {H H' : Hp} {x : V} {o : Option (Tms × Int)} {S : List Addr} (k : Kp S H H') (h : RowO K H x o) : RowO K H' x o := by
  cases h with
  | none => exact .none
  | some h => exact .some (k.im h)
def spAsRow (K : PySem.W.Frag) : Sp := fun vs H Q _ => ∃ (p : Addr) (f : Fact), vs = [.ref p] ∧ FactAt K H p f ∧ ∀ (x : V) (H' : Hp), RowO K H' x f.asRow → Kp [] H H' → Q x H'
theorem asRow_ok {m : Int} {f : Fact} {ts : Tms} {n : Int} (ok : f.ok m) (h : f.asRow = some (ts, n)) : Fact.ok m (.row ts n) := by
  cases f with
  | row us k =>
    simp only [Fact.asRow, Option.some.injEq, Prod.mk.injEq] at h
    rw [← h.1, ← h.2]
    exact ok
  | any ls =>
    match ls, h, ok with
    | [], h, _ => cases h
    | l :: l' :: ls, h, _ => rw [asRow_two] at h; cases h
    | [⟨v, r, a⟩], h, ok =>
      have q := ok.1 ⟨v, r, a⟩ List.mem_cons_self
      simp only at q
      cases r with
      | le =>
        simp only [Fact.asRow, Option.some.injEq, Prod.mk.injEq] at h
        rw [← h.1, ← h.2]
        refine ⟨fun z hz => ?_, by simp, by omega, by omega⟩
        rw [List.mem_singleton] at hz
        subst hz
        simp only
        omega
      | ge =>
        simp only [Fact.asRow, Option.some.injEq, Prod.mk.injEq] at h
        rw [← h.1, ← h.2]
        refine ⟨fun z hz => ?_, by simp, by omega, by omega⟩
        rw [List.mem_singleton] at hz
        subst hz
        simp only
        omega
      | eq => cases h
      | ne => cases h
theorem asRow_h {f : Fact} {ts : Tms} {n : Int} {g : Pt} (h : f.asRow = some (ts, n)) : f.h g = decide (sumF ts g ≤ n) := by
  cases f with
  | row us k =>
    simp only [Fact.asRow, Option.some.injEq, Prod.mk.injEq] at h
    rw [← h.1, ← h.2]
    rfl
  | any ls =>
    match ls, h with
    | [], h => cases h
    | l :: l' :: ls, h => rw [asRow_two] at h; cases h
    | [⟨v, r, a⟩], h =>
      cases r with
      | le =>
        simp only [Fact.asRow, Option.some.injEq, Prod.mk.injEq] at h
        rw [← h.1, ← h.2]
        simp [Fact.h, Lit.h, Rel.h, sumF]
      | ge =>
        simp only [Fact.asRow, Option.some.injEq, Prod.mk.injEq] at h
        rw [← h.1, ← h.2]
        simp only [Fact.h, Lit.h, Rel.h, sumF, List.any_cons, List.any_nil, Bool.or_false, List.map_cons, List.map_nil, List.sum_cons, List.sum_nil]
        rw [Bool.eq_iff_iff, decide_eq_true_eq, decide_eq_true_eq]
        omega
      | eq => cases h
      | ne => cases h

/-! ### implications between facts (points as functions) -/
def impB (v1 : Int) (r1 : Rel) (n1 v2 : Int) (r2 : Rel) (n2 : Int) : Bool :=
  if v1 = v2 then (match r1 with | .eq => r2.h n1 n2 | .ne => decide (r2 = .ne) && decide (n1 = n2) | .le => (match r2 with | .le => decide (n1 ≤ n2) | .ne => !decide (n2 ≤ n1) | _ => false) | .ge => (match r2 with | .ge => decide (n2 ≤ n1) | .ne => !decide (n1 ≤ n2) | _ => false)) else false
theorem impB_sound {v1 : Int} {r1 : Rel} {n1 v2 : Int} {r2 : Rel} {n2 : Int} (h : impB v1 r1 n1 v2 r2 n2 = true) : v1 = v2 ∧ ∀ x, r1.h x n1 = true → r2.h x n2 = true := by
  unfold impB at h
  by_cases hv : v1 = v2
  · rw [if_pos hv] at h
    refine ⟨hv, fun x hx => ?_⟩
    cases r1 <;> cases r2 <;> simp [Rel.h] at h hx ⊢ <;> omega
  · rw [if_neg hv] at h
    cases h
def spImp (K : PySem.W.Frag) : Sp := fun vs H Q _ => ∃ (p q : Addr) (v1 : Int) (r1 : Rel) (n1 v2 : Int) (r2 : Rel) (n2 : Int), vs = [.ref p, .ref q] ∧ LitAt K H p v1 r1 n1 ∧ LitAt K H q v2 r2 n2 ∧ Q (.bl (impB v1 r1 n1 v2 r2 n2)) H
theorem spImp_i {K : PySem.W.Frag} {H : Hp} {Q : VK} {E : XK} {p q : Addr} {v1 : Int} {r1 : Rel} {n1 v2 : Int} {r2 : Rel} {n2 : Int} (h1 : LitAt K H p v1 r1 n1) (h2 : LitAt K H q v2 r2 n2) (k : Q (.bl (impB v1 r1 n1 v2 r2 n2)) H) : spImp K [.ref p, .ref q] H Q E :=
  ⟨p, q, v1, r1, n1, v2, r2, n2, rfl, h1, h2, k⟩
def Fact.isCon : Fact → Bool
  | .row ts n => ts.isEmpty && decide (n < 0)
  | .any ls => ls.isEmpty
def impL (l m : Lit) : Bool := impB l.v l.r l.a m.v m.r m.a
def litsImp (f g : Fact) : Bool := match f.asLit with
  | none => false
  | some l => match g with
    | .any ls => ls.any fun m => impL l m
    | g => match g.asLit with
      | none => false
      | some m => impL l m
def midF (f g : Fact) : Bool := match g with
  | .row ts n => (match f.asRow with | some (us, k) => decide (us = ts) && decide (k ≤ n) | none => false)
  | .any ms => (match f with | .any ls => ls.all fun l => decide (l ∈ ms) | _ => false)
def implF (f g : Fact) : Bool := f.isCon || (midF f g || litsImp f g)
def spCon (K : PySem.W.Frag) : Sp := fun vs H Q _ => ∃ (p : Addr) (f : Fact), vs = [.ref p] ∧ FactAt K H p f ∧ Q (.bl f.isCon) H
theorem litsImp_any {f : Fact} {l : Lit} {ms : List Lit} (h : f.asLit = some l) : litsImp f (.any ms) = (ms.map fun m => impL l m).any id := by
  unfold litsImp
  rw [h]
  simp only [List.any_map]
  rfl
theorem litsImp_row {f : Fact} {l : Lit} {ts : Tms} {n : Int} (h : f.asLit = some l) : litsImp f (.row ts n) = (match (Fact.row ts n).asLit with | none => false | some m => impL l m) := by
  unfold litsImp
  rw [h]
theorem litsImp_none {f g : Fact} (h : f.asLit = none) : litsImp f g = false := by
  unfold litsImp
  rw [h]
def spImpl (K : PySem.W.Frag) (b : Fact → Fact → Bool) : Sp := fun vs H Q _ => ∃ (p q : Addr) (f g : Fact) (m : Int), vs = [.ref p, .ref q] ∧ FactAt K H p f ∧ FactAt K H q g ∧ f.ok m ∧ g.ok m ∧ ∀ (H' : Hp), Kp [] H H' → Q (.bl (b f g)) H'
theorem asLit_sound {f : Fact} {l : Lit} {m : Int} {g : Pt} (ok : f.ok m) (e : f.asLit = some l) : f.h g = l.h g := by
  cases f with
  | row ts n =>
    match ts, e, ok with
    | [], e, _ => cases e
    | z :: z' :: ts, e, _ =>
      rw [asLit_row2] at e
      cases e
    | [(v, c)], e, ok =>
      have okz := ok.1 (v, c) List.mem_cons_self
      simp only [Fact.asLit] at e
      dsimp only at okz
      by_cases hc : 0 < c
      · rw [if_pos hc] at e
        cases e
        simp only [Fact.h, Lit.h, Rel.h, sumF, List.map_cons, List.map_nil, List.sum_cons, List.sum_nil]
        rw [Bool.eq_iff_iff]
        simp only [decide_eq_true_eq]
        rw [Int.le_ediv_iff_mul_le hc, Int.mul_comm]
        omega
      · rw [if_neg hc] at e
        cases e
        simp only [Fact.h, Lit.h, Rel.h, sumF, List.map_cons, List.map_nil, List.sum_cons, List.sum_nil]
        rw [Bool.eq_iff_iff]
        simp only [decide_eq_true_eq]
        generalize g v = x
        have q : -x ≤ n / -c ↔ -x * -c ≤ n := Int.le_ediv_iff_mul_le (by omega)
        have e2 : -x * -c = c * x := by rw [Int.neg_mul_neg, Int.mul_comm]
        rw [e2] at q
        omega
  | any ls =>
    match ls, e with
    | [], e => cases e
    | l :: l' :: ls, e =>
      rw [asLit_two] at e
      cases e
    | [k], e =>
      cases e
      simp [Fact.h]
theorem impL_sound {l m : Lit} {g : Pt} (h : impL l m = true) (hl : l.h g = true) : m.h g = true := by
  obtain ⟨e, q⟩ := impB_sound h
  unfold Lit.h at *
  rw [← e]
  exact q _ hl
theorem implF_sound {f g : Fact} {m : Int} {pt : Pt} (okf : f.ok m) (okg : g.ok m) (h : implF f g = true) (hf : f.h pt = true) : g.h pt = true := by
  unfold implF at h
  rw [Bool.or_eq_true, Bool.or_eq_true] at h
  rcases h with h | h | h
  · cases f with
    | row ts n =>
      simp only [Fact.isCon, Bool.and_eq_true, decide_eq_true_eq, List.isEmpty_iff] at h
      obtain ⟨rfl, h⟩ := h
      simp [Fact.h, sumF] at hf
      omega
    | any ls =>
      simp only [Fact.isCon, List.isEmpty_iff] at h
      subst h
      simp [Fact.h] at hf
  · cases g with
    | row ts n =>
      cases e1 : f.asRow with
      | none => simp [midF, e1] at h
      | some z =>
        obtain ⟨us, k⟩ := z
        simp only [midF, e1, Bool.and_eq_true, decide_eq_true_eq] at h
        rw [asRow_h e1] at hf
        obtain ⟨rfl, h⟩ := h
        simp only [Fact.h, decide_eq_true_eq] at *
        omega
    | any ms =>
      cases f with
      | row us k => simp [midF] at h
      | any ls =>
        simp only [midF, List.all_eq_true, decide_eq_true_eq] at h
        simp only [Fact.h, List.any_eq_true] at *
        obtain ⟨l, hl, q⟩ := hf
        exact ⟨l, h l hl, q⟩
  · cases e1 : f.asLit with
    | none =>
      rw [litsImp_none e1] at h
      cases h
    | some l =>
      rw [asLit_sound okf e1] at hf
      cases g with
      | any ms =>
        rw [litsImp_any e1, List.any_map] at h
        obtain ⟨m', hm, q⟩ := List.any_eq_true.mp h
        exact List.any_eq_true.mpr ⟨m', hm, impL_sound q hf⟩
      | row ts n =>
        rw [litsImp_row e1] at h
        cases e2 : (Fact.row ts n).asLit with
        | none => simp [e2] at h
        | some l2 =>
          simp only [e2] at h
          rw [asLit_sound okg e2]
          exact impL_sound h hf

/-! ### negations of facts -/
def Lit.ngt (l : Lit) : Lit := ⟨l.v, l.r.neg, l.r.nnum l.a⟩
def Fact.ngt : Fact → Option Fact
  | .row ts n => some (.row (negT ts) (-n - 1))
  | .any [l] => some (.any [l.ngt])
  | _ => none
theorem ngt_two (l l' : Lit) (ls : List Lit) : (Fact.any (l :: l' :: ls)).ngt = none := rfl
inductive FactO (K : PySem.W.Frag) (H : Hp) : V → Option Fact → Prop
  | none : FactO K H .non Option.none
  | some {p : Addr} {f : Fact} (h : FactAt K H p f) : FactO K H (.ref p) (Option.some f)
theorem FactO.kp {K : PySem.W.Frag} {H H' : Hp} {x : V} {o : Option Fact} {S : List Addr} (k : Kp S H H') (h : FactO K H x o) : FactO K H' x o := by
  cases h with
  | none => exact .none
  | some h => exact .some (k.im h)
def factOD : Option Fact → PyData
  | none => .none
  | some f => f.d
theorem FactO.im {K : PySem.W.Frag} {H : Hp} {x : V} {o : Option Fact} (h : FactO K H x o) : Im K H x (factOD o) := by
  cases h with
  | none => exact .non
  | some h => exact h
theorem factOD_shp (o : Option Fact) : Shp 3 (factOD o) := by
  cases o with
  | none => exact .none
  | some f => exact Fact.shp f
theorem factOD_eqv (a b : Option Fact) : PyData.eqv (factOD a) (factOD b) = decide (a = b) := eqv_dec (fun a b h => by
  cases a with
  | none =>
    cases b with
    | none => rfl
    | some g => cases g <;> cases h
  | some f =>
    cases b with
    | none => cases f <;> cases h
    | some g => rw [Fact.d_inj f g h]) (fun a => by
  cases a with
  | none => rfl
  | some f => exact Fact.d_nb f) (fun a => (factOD_shp a).lay) a b
theorem r_eqFO {K : PySem.W.Frag} {H : Hp} {Q : VK} {x y : V} {a b : Option Fact} (h1 : Im K H x (factOD a)) (h2 : Im K H y (factOD b)) (q : Q (.bl (decide (a = b))) H) : rEqD K x y H Q := by
  refine ⟨_, _, Im.dp h1, Im.dp h2, (factOD_shp _).ok, (factOD_shp _).ok, ?_⟩
  rw [factOD_eqv]
  exact q
theorem r_neFO {K : PySem.W.Frag} {H : Hp} {Q : VK} {x y : V} {a b : Option Fact} (h1 : Im K H x (factOD a)) (h2 : Im K H y (factOD b)) (q : Q (.bl (!decide (a = b))) H) : rNeD K x y H Q := by
  refine ⟨_, _, Im.dp h1, Im.dp h2, (factOD_shp _).ok, (factOD_shp _).ok, ?_⟩
  rw [factOD_eqv]
  exact q
theorem ngt_h {f g : Fact} {p : Pt} (h : f.ngt = some g) : g.h p = !f.h p := by
  cases f with
  | row ts n =>
    cases h
    show decide (sumF (negT ts) p ≤ -n - 1) = !decide (sumF ts p ≤ n)
    have e : ∀ ts : Tms, sumF (negT ts) p = -sumF ts p := fun ts => by
      induction ts with
      | nil => rfl
      | cons z ts ih =>
        have e1 : sumF (negT (z :: ts)) p = (-z.2) * p z.1 + sumF (negT ts) p := by simp [sumF, negT]
        have e2 : sumF (z :: ts) p = z.2 * p z.1 + sumF ts p := by simp [sumF]
        rw [e1, e2, ih, Int.neg_mul]
        omega
    rw [e, Bool.eq_iff_iff]
    simp
    omega
  | any ls =>
    match ls, h with
    | [], h => cases h
    | l :: l' :: ls, h => cases h
    | [l], h =>
      cases h
      show ([l.ngt].any fun z => z.h p) = !([l].any fun z => z.h p)
      simp only [List.any_cons, List.any_nil, Bool.or_false, Lit.h, Lit.ngt]
      exact Rel.neg_h _ _ _
def spNegF (K : PySem.W.Frag) : Sp := fun vs H Q _ => ∃ (p : Addr) (f : Fact), vs = [.ref p] ∧ FactAt K H p f ∧ (∀ ts n, f = .row ts n → ts.length ≤ 1000) ∧ ∀ (x : V) (H' : Hp), FactO K H' x f.ngt → Kp [] H H' → Q x H'

section
variable {P : Program} {w : World} {K : PySem.W.Frag} {mg : Str → Option Value} {base : Heap} {C_Model : Addr}
theorem ok_negated_terms {f : Addr} {fd : FuncData} (F : Fun K "negated_terms" "negated_terms" s_negated_terms f fd) (B : Bi K mg)  : FnOk P w K mg base CX0 1 f fd ["terms"] (spNegT K) := by
  have nd := sc_negated_terms.nd
  refine F.ok sc_negated_terms ?len (fun cdv A outer s H vs Q E hr h => ?body)
  case len =>
    rintro vs H Q E ⟨p, ts, rfl, _⟩
    rfl
  case body =>
    obtain ⟨p, ts, rfl, hI, hl, k⟩ := h
    refine ⟨_, (pss_one (ps_ret (pe_callTy (cgTuple K) (by rfl) B.n_tuple (by decide +kernel) (pa_cons (by exact pe_lc (own := [("v", 1), ("c", 2)]) (g := (gTup K 2 (gCons (gName 1) (gCons (gName 2) gNil)))) (tt := tYes) rfl nd (pi_tup (pv 0)) (blkOk_by (N := ["terms", "v", "c"]) (sc := defScope s_negated_terms) (by decide +kernel)) (fun _ _ _ _ _ => (pg_tup (n := 2) rfl (pgs_cons (pg_name (i := 1) nd rfl (Or.inl rfl)) (pgs_cons (pg_name (i := 2) nd rfl (Or.inl rfl)) pgs_nil)))) (fun _ _ _ _ _ => pts_nil) (fun _ _ _ _ _ => (pe_tup (pa_cons (pv 1) (pa_cons (pe_un un_neg (pv 2)) pa_nil))))) pa_nil)))), ?_⟩
    try dsimp only [L2.cxOf, L2.Cx.nox, L2.Cx.wish]
    rw [st_negated_terms]
    obtain ⟨xs, h1, h2⟩ := hI.open
    walk_at "cg"
    refine lcT_m h1 h2 (fun z => tD (z.1, -z.2)) (by omega) (fun i z x H' R R' hz k2 hx q => ?_) (fun D H' acc hD eD hA k2 => ?_)
    · obtain ⟨px, rfl, hs⟩ := term_at hx
      walk_at "cg"
      exact q _ _ (.tup (by assumption) (.cons (.int _) (.cons (.int _) .nil))) (by walk_at "cg kp")
    · walk_at "cg"
      refine k _ _ (.tup (by assumption) ?_) (by walk_at "cg kp")
      rw [negT, List.map_map]
      exact Kp.imAll (by assumption) hA

theorem ok_rows_of {f : Addr} {fd : FuncData} (F : Fun K "rows_of" "rows_of" s_rows_of f fd) (B : Bi K mg) (D_negated_terms : Is P w K mg base CX0 1 "negated_terms" ["terms"] (spNegT K)) : FnOk P w K mg base CX0 2 f fd ["terms", "relation", "rhs"] (spRowsOf K) := by
  have nd := sc_rows_of.nd
  refine F.ok sc_rows_of ?len (fun cdv A outer s H vs Q E hr h => ?body)
  case len =>
    rintro vs H Q E ⟨p, ts, r, n, rfl, _⟩
    rfl
  case body =>
    obtain ⟨p, ts, r, n, rfl, hI, hl, k⟩ := h
    refine ⟨_, (pss_cons (ps_set (i := 3) nd rfl (Or.inl rfl) (pe_lst pa_nil))
      (pss_cons (ps_if (pt_cmpR op_ne (pv 1) pe_str (nomark _))
      (pss_one (ps_expr (pe_bm PySem.F.plainAttrs_list PySem.F.slot_list_append PySem.F.type_list_append mt_append (pv 3) (pa_cons (pe_tup (pa_cons pe_str (pa_cons (pv 0) (pa_cons (pv 2) pa_nil)))) pa_nil))))
      pss_nil)
      (pss_cons (ps_if (pt_cmpR op_ne (pv 1) pe_str (nomark _))
      (pss_one (ps_expr (pe_bm PySem.F.plainAttrs_list PySem.F.slot_list_append PySem.F.type_list_append mt_append (pv 3) (pa_cons (pe_tup (pa_cons pe_str (pa_cons (pe_is D_negated_terms (hr.mono (by decide)) rfl pass0 (pa_cons (pv 0) pa_nil)) (pa_cons (pe_un un_neg (pv 2)) pa_nil)))) pa_nil))))
      pss_nil)
      (pss_one (ps_ret (pv 3)))))), ?_⟩
    try dsimp only [L2.cxOf, L2.Cx.nox, L2.Cx.wish]
    rw [st_rows_of]
    cases r
    · walk_at "cg"
      exact k _ _ _ (by assumption) (by assumption) (.cons (.tup (by walk_at "cg h") (.cons (.str _) (.cons (by walk_at "cg h") (.cons (.int _) .nil)))) .nil) (by walk_at "cg kp")
    · walk_at "cg"
      refine ⟨p, ts, rfl, by walk_at "cg h", hl, fun p' H' I' k' => ?_⟩
      walk_at "cg"
      exact k _ _ _ (by assumption) (by assumption) (.cons (.tup (by walk_at "cg h") (.cons (.str _) (.cons (by walk_at "cg h") (.cons (.int _) .nil)))) .nil) (by walk_at "cg kp")
    all_goals
      walk_at "cg"
      refine ⟨p, ts, rfl, by walk_at "cg h", hl, fun p' H' I' k' => ?_⟩
      walk_at "cg"
      exact k _ _ _ (by assumption) (by assumption) (.cons (.tup (by walk_at "cg h") (.cons (.str _) (.cons (by walk_at "cg h") (.cons (.int _) .nil)))) (.cons (.tup (by walk_at "cg h") (.cons (.str _) (.cons (by walk_at "cg h") (.cons (.int _) .nil)))) .nil)) (by walk_at "cg kp")

theorem ok_negated {f : Addr} {fd : FuncData} (F : Fun K "negated" "negated" s_negated f fd) (B : Bi K mg)  : FnOk P w K mg base CX0 1 f fd ["literal"] (spNeg K) := by
  have nd := sc_negated.nd
  refine F.ok sc_negated ?len (fun cdv A outer s H vs Q E hr h => ?body)
  case len =>
    rintro vs H Q E ⟨p, v, r, a, rfl, _⟩
    rfl
  case body =>
    obtain ⟨p, v, r, a, rfl, hL, q⟩ := h
    refine ⟨_, (pss_cons (ps_asg (pv 0) (pg_tup (n := 3) rfl (pgs_cons (pg_name (i := 1) nd rfl (Or.inl rfl)) (pgs_cons (pg_name (i := 2) nd rfl (Or.inl rfl)) (pgs_cons (pg_name (i := 3) nd rfl (Or.inl rfl)) pgs_nil)))))
      (pss_cons (ps_if (pt_cmpR op_eq (pv 2) pe_str (nomark _))
      (pss_one (ps_ret (pe_tup (pa_cons (pv 1) (pa_cons pe_str (pa_cons (pe_op op_add (pv 3) pe_int) pa_nil))))))
      pss_nil)
      (pss_cons (ps_if (pt_cmpR op_eq (pv 2) pe_str (nomark _))
      (pss_one (ps_ret (pe_tup (pa_cons (pv 1) (pa_cons pe_str (pa_cons (pe_op op_sub (pv 3) pe_int) pa_nil))))))
      pss_nil)
      (pss_cons (ps_if (pt_cmpR op_eq (pv 2) pe_str (nomark _))
      (pss_one (ps_ret (pe_tup (pa_cons (pv 1) (pa_cons pe_str (pa_cons (pv 3) pa_nil))))))
      pss_nil)
      (pss_one (ps_ret (pe_tup (pa_cons (pv 1) (pa_cons pe_str (pa_cons (pv 3) pa_nil)))))))))), ?_⟩
    try dsimp only [L2.cxOf, L2.Cx.nox, L2.Cx.wish]
    rw [st_negated]
    cases r
    all_goals
      walk_at "cg"
      exact q _ _ (by assumption) (by walk_at "cg kp")

theorem ok_law_negation {f : Addr} {fd : FuncData} (F : Fun K "_law_negation" "_law_negation" s_law_negation f fd) (B : Bi K mg)  : FnOk P w K mg base CX0 1 f fd ["_law_fact"] (spNegF K) := by
  have nd := sc_law_negation.nd
  refine F.ok sc_law_negation ?len (fun cdv A outer s H vs Q E hr h => ?body)
  case len =>
    rintro vs H Q E ⟨p, f, rfl, _⟩
    rfl
  case body =>
    obtain ⟨p, f, rfl, hf, few, k⟩ := h
    refine ⟨_, (pss_cons (ps_if (pt_cmpR op_eq (pe_ix (ixT K) (pv 0) pe_int (fun _ _ => rfl)) pe_str (nomark _))
      (pss_one (ps_ret (pe_tup (pa_cons pe_str (pa_cons (pe_callTy (cgTuple K) (by rfl) B.n_tuple (by decide +kernel) (pa_cons (by exact pe_lc (own := [("_law_v", 1), ("_law_c", 4)]) (g := (gTup K 2 (gCons (gName 1) (gCons (gName 4) gNil)))) (tt := tYes) rfl nd (pi_tup (pe_ix (ixT K) (pv 0) pe_int (fun _ _ => rfl))) (blkOk_by (N := ["_law_fact", "_law_v", "_law_relation", "_law_a", "_law_c"]) (sc := defScope s_law_negation) (by decide +kernel)) (fun _ _ _ _ _ => (pg_tup (n := 2) rfl (pgs_cons (pg_name (i := 1) nd rfl (Or.inl rfl)) (pgs_cons (pg_name (i := 4) nd rfl (Or.inl rfl)) pgs_nil)))) (fun _ _ _ _ _ => pts_nil) (fun _ _ _ _ _ => (pe_tup (pa_cons (pv 1) (pa_cons (pe_op op_sub pe_int (pv 4)) pa_nil))))) pa_nil)) (pa_cons (pe_op op_sub (pe_op op_sub pe_int (pe_ix (ixT K) (pv 0) pe_int (fun _ _ => rfl))) pe_int) pa_nil))))))
      pss_nil)
      (pss_cons (ps_if (pt_cmpR op_ne (pe_callB (cgLen K) (by rfl) B.n_len PySem.boot_len (pa_cons (pe_ix (ixT K) (pv 0) pe_int (fun _ _ => rfl)) pa_nil)) pe_int (nomark _))
      (pss_one (ps_ret pe_non))
      pss_nil)
      (pss_cons (ps_asg (pe_ix (ixT K) (pe_ix (ixT K) (pv 0) pe_int (fun _ _ => rfl)) pe_int (fun _ _ => rfl)) (pg_tup (n := 3) rfl (pgs_cons (pg_name (i := 1) nd rfl (Or.inl rfl)) (pgs_cons (pg_name (i := 2) nd rfl (Or.inl rfl)) (pgs_cons (pg_name (i := 3) nd rfl (Or.inl rfl)) pgs_nil)))))
      (pss_cons (ps_if (pt_cmpR op_eq (pv 2) pe_str (nomark _))
      (pss_one (ps_ret (pe_tup (pa_cons pe_str (pa_cons (pe_tup (pa_cons (pe_tup (pa_cons (pv 1) (pa_cons pe_str (pa_cons (pe_op op_add (pv 3) pe_int) pa_nil)))) pa_nil)) pa_nil)))))
      pss_nil)
      (pss_cons (ps_if (pt_cmpR op_eq (pv 2) pe_str (nomark _))
      (pss_one (ps_ret (pe_tup (pa_cons pe_str (pa_cons (pe_tup (pa_cons (pe_tup (pa_cons (pv 1) (pa_cons pe_str (pa_cons (pe_op op_sub (pv 3) pe_int) pa_nil)))) pa_nil)) pa_nil)))))
      pss_nil)
      (pss_cons (ps_if (pt_cmpR op_eq (pv 2) pe_str (nomark _))
      (pss_one (ps_ret (pe_tup (pa_cons pe_str (pa_cons (pe_tup (pa_cons (pe_tup (pa_cons (pv 1) (pa_cons pe_str (pa_cons (pv 3) pa_nil)))) pa_nil)) pa_nil)))))
      pss_nil)
      (pss_one (ps_ret (pe_tup (pa_cons pe_str (pa_cons (pe_tup (pa_cons (pe_tup (pa_cons (pv 1) (pa_cons pe_str (pa_cons (pv 3) pa_nil)))) pa_nil)) pa_nil))))))))))), ?_⟩
    try dsimp only [L2.cxOf, L2.Cx.nox, L2.Cx.wish]
    rw [st_law_negation]
    cases f with
    | row ts n =>
      obtain ⟨q, s1, i1⟩ := row_open hf
      obtain ⟨xs, h1, h2⟩ := i1.open
      walk_at "cg"
      refine lcT_m (xs := xs) (as := ts) (d := tD) h1 h2 (fun z => tD (z.1, -z.2)) (by have := few ts n rfl; omega) (fun i z x H' R R' hz k2 hx q => ?_) (fun D H' acc hD eD hA k2 => ?_)
      · obtain ⟨px, rfl, hs⟩ := term_at hx
        have z8 : (0 : Int) - z.2 = -z.2 := by omega
        walk_at "cg"
        rename_i p3 H3 hp3 s3 k3
        rw [z8] at s3
        exact q _ _ (.tup s3 (.cons (.int _) (.cons (.int _) .nil))) (by walk_at "cg kp")
      · have hN : ImAll K H' acc ((negT ts).map tD) := by
          rw [negT, List.map_map]
          exact hA
        have z9 : (0 : Int) - n - 1 = -n - 1 := by omega
        walk_at "cg"
        rename_i p4 H4 hp4 s4 k4 p5 H5 hp5 s5 k5
        rw [z9] at s5
        exact k _ _ (.some (f := .row (negT ts) (-n - 1)) (row_mk s5 (.tup (k5.tup s4) (k5.imAll (k4.imAll hN))))) (by walk_at "cg kp")
    | any ls =>
      obtain ⟨q, s1, i1⟩ := any_open hf
      obtain ⟨xs, s2, i2⟩ := Im.open i1
      have hl := mapLenP i2
      match ls, i2, k, hl with
      | [], i2, k, hl =>
        simp only [List.length_nil] at hl
        walk_at "cg"
        exact k _ _ .none .refl
      | l :: l' :: ls, i2, k, hl =>
        simp only [List.length_cons] at hl
        rw [ngt_two] at k
        walk_at "cg"
        exact k _ _ .none .refl
      | [⟨v, r, a⟩], i2, k, hl =>
        cases i2 with
        | cons h1 h2 =>
        cases h2
        obtain ⟨ql, rfl, L⟩ := lit_at h1
        dsimp only at L
        cases r
        all_goals
          walk_at "cg"
          rename_i p3 H3 hp3 s3 k3 p4 H4 hp4 s4 k4 p5 H5 hp5 s5 k5
        · exact k _ _ (.some (f := .any [Lit.ngt ⟨v, .le, a⟩]) (any_mk s5 (.tup (k5.tup s4) (.cons (lit_mk (v := v) (r := .ge) (a := a + 1) (k5.tup (k4.tup s3))) .nil)))) (by walk_at "cg kp")
        · exact k _ _ (.some (f := .any [Lit.ngt ⟨v, .ge, a⟩]) (any_mk s5 (.tup (k5.tup s4) (.cons (lit_mk (v := v) (r := .le) (a := a - 1) (k5.tup (k4.tup s3))) .nil)))) (by walk_at "cg kp")
        · exact k _ _ (.some (f := .any [Lit.ngt ⟨v, .eq, a⟩]) (any_mk s5 (.tup (k5.tup s4) (.cons (lit_mk (v := v) (r := .ne) (a := a) (k5.tup (k4.tup s3))) .nil)))) (by walk_at "cg kp")
        · exact k _ _ (.some (f := .any [Lit.ngt ⟨v, .ne, a⟩]) (any_mk s5 (.tup (k5.tup s4) (.cons (lit_mk (v := v) (r := .eq) (a := a) (k5.tup (k4.tup s3))) .nil)))) (by walk_at "cg kp")

end
/-! ### dicts with numbers as keys -/
def ents (ks : List Int) (f : Int → V) : List (Key × V) := ks.map fun v => (Sum.inl v, f v)
theorem valV_ents {ks : List Int} {f : Int → V} {v : Int} : valV (ents ks f) (Sum.inl v) = if v ∈ ks then some (f v) else none := by
  unfold valV ents
  induction ks with
  | nil => rfl
  | cons u ks ih =>
    rw [List.map_cons, List.find?_cons]
    by_cases e : u = v
    · subst e
      simp
    · have e2 : decide ((Sum.inl u : Key) = Sum.inl v) = false := by
        rw [decide_eq_false_iff_not]
        intro z
        cases z
        exact e rfl
      simp only [e2]
      rw [ih]
      have e3 : (v ∈ u :: ks) ↔ v ∈ ks := by
        rw [List.mem_cons]
        exact ⟨fun h => h.resolve_left fun z => e z.symm, .inr⟩
      simp only [e3]
theorem any_ents {ks : List Int} {f : Int → V} {v : Int} : ((ents ks f).any fun kv => decide (kv.1 = Sum.inl v)) = decide (v ∈ ks) := by
  rw [valV_any, valV_ents]
  by_cases h : v ∈ ks
  · rw [if_pos h, decide_eq_true h]
    rfl
  · rw [if_neg h, decide_eq_false h]
    rfl
theorem putK_ents {ks : List Int} {f : Int → V} {v : Int} {x : V} : putK (ents ks f) (Sum.inl v) x = ents (if v ∈ ks then ks else ks ++ [v]) (fun u => if u = v then x else f u) := by
  unfold putK
  rw [any_ents]
  by_cases h : v ∈ ks
  · rw [decide_eq_true h, if_pos rfl, if_pos h]
    unfold ents
    rw [List.map_map]
    refine List.map_congr_left fun u _ => ?_
    show (if (Sum.inl u : Key) = Sum.inl v then (Sum.inl u, x) else (Sum.inl u, f u)) = _
    by_cases e : u = v
    · rw [if_pos (by rw [e])]
      show _ = (Sum.inl u, if u = v then x else f u)
      rw [if_pos e]
    · rw [if_neg (fun z => by cases z; exact e rfl)]
      show _ = (Sum.inl u, if u = v then x else f u)
      rw [if_neg e]
  · rw [decide_eq_false h, if_neg (by decide), if_neg h]
    unfold ents
    rw [List.map_append]
    have e1 : ks.map (fun u => ((Sum.inl u : Key), f u)) = ks.map (fun u => ((Sum.inl u : Key), if u = v then x else f u)) := List.map_congr_left fun u hu => by simp only [if_neg (show ¬ u = v from fun e => h (e ▸ hu))]
    rw [e1]
    simp
section
variable {td ty tx : TE} {σ : St} {H : Hp} {Q : VK} {a : Addr} {ks : List Int} {f : Int → V} {v : Int} {x y z : V} {kvs : List (Key × V)}
def isDk (x : V) (H : Hp) (R : Addr → Prop) : Prop := ∃ a, x = .ref a ∧ IsD H a ∧ R a
def dgD (a : Addr) (y z : V) (H : Hp) (Q : VK) : Prop := ∃ o, DGet H a y o ∧ Q (o.getD z) H
instance s_dg2 : Stp (tDGet2 td ty tx σ H Q) (td σ H fun x H1 => isDk x H1 fun a => ty σ H1 fun y H2 => tx σ H2 fun z H3 => dgD a y z H3 Q) := ⟨id⟩
theorem r_isDk {R : Addr → Prop} (h : H a = some (.dK kvs)) (q : R a) : isDk (.ref a) H R := ⟨a, rfl, .inl ⟨kvs, .inl h⟩, q⟩
theorem r_dgD (h : H a = some (.dK (ents ks f))) (q : Q (if v ∈ ks then f v else z) H) : dgD a (.int v) z H Q := by
  refine ⟨_, DGet.k (k := Sum.inl v) h, ?_⟩
  rw [valV_ents]
  by_cases e : v ∈ ks
  · rw [if_pos e] at q ⊢
    exact q
  · rw [if_neg e] at q ⊢
    exact q
theorem r_putE {R : Hp → Prop} (h : H a = some (.dK (ents ks f))) (few : ks.length ≤ 10000) (q : ∀ H2, H2 a = some (.dK (ents (if v ∈ ks then ks else ks ++ [v]) fun u => if u = v then x else f u)) → Kp [a] H H2 → R H2) : putD (.ref a) (.int v) x H R :=
  r_putD (k := Sum.inl v) h (by unfold ents; rw [List.length_map]; exact few) fun H2 e2 k2 => q H2 (by rw [e2, putK_ents]) k2
theorem r_ixDK {H : Hp} {Q : VK} {a : Addr} (h : H a = some (.dK (ents ks f))) (hv : v ∈ ks) (q : Q (f v) H) : rIxDK (.ref a) (.int v) H Q := ⟨a, _, v, f v, rfl, rfl, h, by rw [valV_ents, if_pos hv], q⟩
def rSortDI : List V → Hp → VK → Prop := fun xs H Q => ∃ (a : Addr) (kvs : List (Key × V)) (ks : List Int), xs = [.ref a] ∧ Rd H a (.dK kvs) ∧ kvs.map (·.1) = ks.map Sum.inl ∧ ks.length < 64 ∧ ∀ (ys : List Int) (p : Addr), ys.Perm ks → ys.Pairwise (· ≤ ·) → H p = none → Q (.ref p) (upd H p (.lst (ys.map V.int)))
theorem cg_sortDI {X : Cx} (hc : X.calm = true) : CallR X (.builtin "sorted") rSortDI := call_sortedDI hc
theorem r_sortDI (h : H a = some (.dK (ents ks f))) (nd : ks.Nodup) (h64 : ks.length < 64) (q : ∀ (ys : List Int) p H2, ys.Pairwise (· < ·) → (∀ k, k ∈ ys ↔ k ∈ ks) → H p = none → H2 p = some (.lst (ys.map V.int)) → Kp [] H H2 → Q (.ref p) H2) : rSortDI [.ref a] H Q := by
  refine ⟨a, _, ks, rfl, .inl h, ?_, h64, fun ys p hp hs hn => q ys p _ ?_ (fun k => hp.mem_iff) hn upd_same (Kp.new hn)⟩
  · unfold ents
    rw [List.map_map]
    rfl
  · have nd2 : ys.Nodup := hp.nodup_iff.mpr nd
    refine List.Pairwise.imp₂ (fun a b (h1 : a ≤ b) (h2 : a ≠ b) => (by omega : a < b)) hs nd2
end
theorem asc_ext : ∀ {xs ys : List Int}, xs.Pairwise (· < ·) → ys.Pairwise (· < ·) → (∀ k, k ∈ xs ↔ k ∈ ys) → xs = ys
  | [], [], _, _, _ => rfl
  | [], y :: ys, _, _, h => absurd ((h y).mpr List.mem_cons_self) (by simp)
  | x :: xs, [], _, _, h => absurd ((h x).mp List.mem_cons_self) (by simp)
  | x :: xs, y :: ys, hx, hy, h => by
    rw [List.pairwise_cons] at hx hy
    have e : x = y := by
      rcases List.mem_cons.mp ((h x).mp List.mem_cons_self) with e | e
      · exact e
      · rcases List.mem_cons.mp ((h y).mpr List.mem_cons_self) with e2 | e2
        · exact e2.symm
        · have a := hx.1 y e2
          have b := hy.1 x e
          omega
    subst e
    rw [asc_ext hx.2 hy.2 fun k => ?_]
    constructor
    · intro hk
      rcases List.mem_cons.mp ((h k).mp (List.mem_cons_of_mem _ hk)) with e | e
      · have := hx.1 k hk
        omega
      · exact e
    · intro hk
      rcases List.mem_cons.mp ((h k).mpr (List.mem_cons_of_mem _ hk)) with e | e
      · have := hy.1 k hk
        omega
      · exact e
/-- 0 .. n - 1 -/
def upTo (n : Nat) : List Int := (List.range n).map fun (k : Nat) => (k : Int)
theorem upTo_asc (n : Nat) : (upTo n).Pairwise (· < ·) := by
  unfold upTo
  rw [List.pairwise_map]
  exact (List.pairwise_lt_range (n := n)).imp fun h => by omega
theorem mem_upTo {n : Nat} {k : Int} : k ∈ upTo n ↔ 0 ≤ k ∧ k < n := by
  unfold upTo
  rw [List.mem_map]
  constructor
  · rintro ⟨j, hj, rfl⟩
    have := List.mem_range.mp hj
    omega
  · intro h
    exact ⟨k.toNat, List.mem_range.mpr (by omega), by omega⟩
theorem fm_asc {α : Type} {ys : List Int} {n : Nat} {f : Int → Option α} (h : ys.Pairwise (· < ·)) (hm : ∀ k ∈ ys, 0 ≤ k ∧ k < n) (hn : ∀ k, ¬ k ∈ ys → f k = none) : ys.filterMap f = (upTo n).filterMap f := by
  have e : ys = (upTo n).filter fun k => decide (k ∈ ys) := by
    refine asc_ext h ((upTo_asc n).filter _) fun k => ?_
    rw [List.mem_filter, mem_upTo, decide_eq_true_eq]
    exact ⟨fun q => ⟨hm k q, q⟩, fun q => q.2⟩
  conv => lhs; rw [e]
  rw [List.filterMap_filter]
  congr 1
  funext k
  by_cases q : k ∈ ys
  · rw [decide_eq_true q]; rfl
  · rw [decide_eq_false q, hn k q]; rfl
def coefF : Tms → Int → Int
  | [], _ => 0
  | z :: ts, v => (if z.1 = v then z.2 else 0) + coefF ts v
theorem coefF_app (ts us : Tms) (v : Int) : coefF (ts ++ us) v = coefF ts v + coefF us v := by
  induction ts with
  | nil => simp [coefF]
  | cons z ts ih => simp only [List.cons_append, coefF, ih]; omega
def scaleT (m : Int) (ts : Tms) : Tms := ts.map fun z => (z.1, m * z.2)
theorem coefF_zero {ts : Tms} {v : Int} (h : ¬ v ∈ ts.map (·.1)) : coefF ts v = 0 := by
  induction ts with
  | nil => rfl
  | cons z ts ih =>
    rw [List.map_cons, List.mem_cons, not_or] at h
    rw [coefF, if_neg (fun e => h.1 e.symm), ih h.2]
    rfl
def normT (n : Nat) (ts : Tms) : Tms := (upTo n).filterMap fun v => if coefF ts v = 0 then none else some (v, coefF ts v)
theorem sum_fm {l : List Int} {c g : Int → Int} : ((l.filterMap fun v => if c v = 0 then none else some (v, c v)).map fun z : Int × Int => z.2 * g z.1).sum = (l.map fun v => c v * g v).sum := by
  induction l with
  | nil => rfl
  | cons v l ih =>
    rw [List.filterMap_cons, List.map_cons, List.sum_cons]
    by_cases h : c v = 0
    · rw [if_pos h]
      simp only
      rw [ih, h, Int.zero_mul, Int.zero_add]
    · rw [if_neg h]
      simp only [List.map_cons, List.sum_cons]
      rw [ih]
theorem sum_add {l : List Int} {f g : Int → Int} : (l.map fun v => f v + g v).sum = (l.map f).sum + (l.map g).sum := by
  induction l with
  | nil => rfl
  | cons v l ih => simp only [List.map_cons, List.sum_cons, ih]; omega
theorem sum_one {l : List Int} (h : l.Nodup) {w : Int} (hw : w ∈ l) (a : Int) (g : Int → Int) : (l.map fun v => (if w = v then a else 0) * g v).sum = a * g w := by
  induction l with
  | nil => cases hw
  | cons v l ih =>
    rw [List.nodup_cons] at h
    rw [List.map_cons, List.sum_cons]
    by_cases e : w = v
    · subst e
      have z : (l.map fun v => (if w = v then a else 0) * g v).sum = 0 := by
        have : ∀ l : List Int, ¬ w ∈ l → (l.map fun v => (if w = v then a else 0) * g v).sum = 0 := by
          intro l hl
          induction l with
          | nil => rfl
          | cons u l ih =>
            rw [List.mem_cons, not_or] at hl
            rw [List.map_cons, List.sum_cons, ih hl.2, if_neg hl.1, Int.zero_mul]
            rfl
        exact this l h.1
      rw [z, if_pos rfl, Int.add_zero]
    · rw [if_neg e, Int.zero_mul, Int.zero_add]
      exact ih h.2 ((List.mem_cons.mp hw).resolve_left e)
theorem sumF_norm {n : Nat} {ts : Tms} (h : ∀ z ∈ ts, 0 ≤ z.1 ∧ z.1 < n) (g : Pt) : sumF (normT n ts) g = sumF ts g := by
  unfold sumF normT
  rw [sum_fm]
  induction ts with
  | nil =>
    simp only [coefF, Int.zero_mul, List.map_nil]
    have : ∀ l : List Int, (l.map fun _ => (0 : Int)).sum = 0 := by
      intro l
      induction l with
      | nil => rfl
      | cons _ l ih => simp only [List.map_cons, List.sum_cons, ih]; rfl
    exact this _
  | cons z ts ih =>
    simp only [coefF, Int.add_mul, List.map_cons, List.sum_cons]
    rw [sum_add, ih fun y hy => h y (List.mem_cons_of_mem _ hy), sum_one ((upTo_asc n).imp fun h => by omega) (mem_upTo.mpr (h z List.mem_cons_self))]
theorem sumF_scale (m : Int) (ts : Tms) (g : Pt) : sumF (scaleT m ts) g = m * sumF ts g := by
  unfold sumF scaleT
  induction ts with
  | nil => simp
  | cons z ts ih =>
    simp only [List.map_cons, List.sum_cons]
    rw [ih, Int.mul_add, Int.mul_assoc]
theorem sumF_app (ts us : Tms) (g : Pt) : sumF (ts ++ us) g = sumF ts g + sumF us g := by simp [sumF]
theorem r_dgC {H : Hp} {Q : VK} {a : Addr} {ks : List Int} {c : Int → Int} {v : Int} (h : H a = some (.dK (ents ks fun v => .int (c v)))) (hz : ¬ v ∈ ks → c v = 0) (q : Q (.int (c v)) H) : dgD a (.int v) (.int 0) H Q := by
  refine r_dgD h ?_
  by_cases e : v ∈ ks
  · rw [if_pos e]
    exact q
  · rw [if_neg e, ← hz e]
    exact q
theorem coefF_snoc (ts : Tms) (v c u : Int) : coefF (ts ++ [(v, c)]) u = if u = v then coefF ts v + c else coefF ts u := by
  rw [coefF_app]
  simp only [coefF]
  by_cases e : u = v
  · subst e
    rw [if_pos rfl, if_pos rfl]
    omega
  · rw [if_neg e, if_neg (fun z => e z.symm)]
    omega
theorem scale_take {us : Tms} {i : Nat} {z : Int × Int} {m : Int} (h : us[i]? = some z) : scaleT m (us.take (i + 1)) = scaleT m (us.take i) ++ [(z.1, m * z.2)] := by
  unfold scaleT
  rw [List.take_add_one, h, List.map_append]
  rfl
theorem atI_upTo {n : Nat} {g : Int → V} {v : Int} (h0 : 0 ≤ v) (h1 : v < n) : atI ((upTo n).map g) v = some (g v) := by
  have hl : ((upTo n).map g).length = n := by simp [upTo]
  rw [atI_nat h0 (by rw [hl]; exact h1), List.getElem?_map]
  unfold upTo
  rw [List.getElem?_map, List.getElem?_range (by omega)]
  show some (g ((v.toNat : Nat) : Int)) = _
  rw [Int.toNat_of_nonneg h0]
theorem set_upTo {n : Nat} {g : Int → V} {v : Int} {x : V} (h0 : 0 ≤ v) (h1 : v < n) : ((upTo n).map g).set v.toNat x = (upTo n).map fun u => if u = v then x else g u := by
  refine List.ext_getElem (by simp) fun i hi hi2 => ?_
  have hl : i < n := by simpa [upTo] using hi2
  rw [List.getElem_set]
  simp only [List.getElem_map, upTo, List.getElem_range]
  by_cases e : v.toNat = i
  · rw [if_pos e, if_pos (by omega)]
  · rw [if_neg e, if_neg (by omega)]
theorem upTo_len {g : Int → V} (n : Nat) : ((upTo n).map g).length = n := by simp [upTo]

/-! ### name = {..} on one line -/
section
open PySem PySem.W PySem.Calls PyProof.Rows PySem.Spec
variable {X : Cx}
theorem ps_setDc {i : Nat} {y : Str} {py : Pos} {kx vx tg iter : Expr} {ifs : List Expr} {scope : Scope} {own : List (Str × Nat)} {pos spos : Pos} {wi : TI} {g : TG} {tt : TT} {tk tv : TE} (hc : X.calm = true) (hN : X.N.Nodup) (hy : X.N[i]? = some y) (hyl : X.env.scope.names.lookup y = some .local)
    (hsw : swapsWith (.DictComp kx vx [⟨tg, iter, ifs, 0⟩] scope pos) (some (.Name y py)) spos.line X.env = pure true) (hi : PI X tg iter wi) (ok : BlkOk X.N X.env.scope scope own)
    (hg : ∀ (s : Shared) (H : Hp) (C : Addr) (cl : List (Str × Addr)) (fp : List Addr), PG (X.blk s H scope (compEnvC scope cl C X.env) fp) tg g) (ht : ∀ (s : Shared) (H : Hp) (C : Addr) (cl : List (Str × Addr)) (fp : List Addr), PTs (X.blk s H scope (compEnvC scope cl C X.env) fp) ifs tt)
    (hk : ∀ (s : Shared) (H : Hp) (C : Addr) (cl : List (Str × Addr)) (fp : List Addr), PE (X.blk s H scope (compEnvC scope cl C X.env) fp) kx tk)
    (he : ∀ (s : Shared) (H : Hp) (C : Addr) (cl : List (Str × Addr)) (fp : List Addr), PE (X.blk s H scope (compEnvC scope cl C X.env) fp) vx tv) (hs : ∀ x, foldedSetIterable iter X.env x = pure x := by intro _; rfl) :
    PS X (.Assign [.Name y py] (.DictComp kx vx [⟨tg, iter, ifs, 0⟩] scope pos) spos) (tAsg (tDc wi g tt tk tv (own.map (·.2))) (gName i)) := by
  refine ⟨fun pins s σ H D I h => ?_⟩
  rw [exec_Assign_Name_used _ _ _ _ hsw]
  refine wpAny_bind (wpAny_standAt (wpAny_bind ?_))
  show wpAny _ X.A (do let _ ← comprehension (.DictComp kx vx [⟨tg, iter, ifs, 0⟩] scope pos) scope X.env (firstIterPos [⟨tg, iter, ifs, 0⟩] pos) newDict false (eval iter X.env) (some (assign (.Name y py) X.env))) _ _ s
  have h : tDc wi g tt tk tv (own.map (·.2)) σ H (fun x H1 => gName i x σ H1 D.nx) := h
  refine wpAny_bind (thn (dc_core (Qf := fun _ s' => SP X pins D .next s') hc hN I hi ok hg ht hk he hs h fun L C s' m H' I' q hn f => ?_) fun _ s' hq => wpAny_pure (wpAny_pure hq))
  show wpAny _ _ (assign (.Name y py) X.env (.ref L)) _ _ _
  refine wpAny_assign_Name (store_ok2 (v := V.ref L) I' hN hy (.inl hyl) rfl (fun s2 I2 ⟨a, sb, ha⟩ => ?_) (.inr hyl))
  obtain ⟨f0, f1, f2, f3, f4, f5⟩ := f
  have haC : C ≠ a := by
    rcases ha with z | z
    · rw [z]; exact f1
    · exact fun e => f4 y a z e.symm
  refine ⟨m, hn.sameBut sb haC, fun h3 sb3 => ?_⟩
  exact ⟨_, H', I2.turned (t' := s2.toks) (fun b o hb e => (sb3.2 b hb).trans e) f0 f1 f3 f4 f5, q⟩
theorem sw_trueD {kx vx : Expr} {gs : List Comprehension} {scope : Scope} {pos py : Pos} {y : Str} {l : Nat} {env : Env} (hk : env.scope.kind = .function) (hy : env.scope.names.lookup y = some .local) (hl : (py.line == pos.line) = true)
    (ha : (scope.names.any fun (n, k) => n == y && (k == .local || k == .cell)) = false) : swapsWith (.DictComp kx vx gs scope pos) (some (.Name y py)) l env = pure true := by
  have ky : env.kindOf y = some .local := hy
  have hb : env.blockKind = .function := by unfold Env.blockKind; rw [hk]; rfl
  unfold swapsWith
  simp only [hb, ky, ha, Expr.pos, hl]
  rfl
end

/-! ### comprehensions of dicts; more on blocks within blocks -/
def AllP (sc : Scope) : List (Str × NameKind) → Prop
  | [] => True
  | p :: ps => sc.names.lookup p.1 = some p.2 ∧ AllP sc ps
theorem AllP.get {sc : Scope} : ∀ {L : List (Str × NameKind)} {x : Str} {k : NameKind}, AllP sc L → L.lookup x = some k → sc.names.lookup x = some k
  | [], _, _, _, h => by cases h
  | (y, j) :: ps, x, k, a, h => by
    rw [List.lookup_cons] at h
    by_cases e : x = y
    · subst e
      simp at h
      subst h
      exact a.1
    · have e2 : (x == y) = false := by simpa using e
      rw [e2] at h
      exact AllP.get a.2 h
theorem blkOk_cap {N : List Str} {sc scope : Scope} {own : List (Str × Nat)} (L : List (Str × NameKind)) (h : blkC N { kind := .function, names := L, isGenerator := false, isCoroutine := false } scope own = true) (hL : AllP sc L) : BlkOk N sc scope own := by
  have q := blkOk_by h
  exact ⟨q.1, q.2, q.3, fun y hy e => (q.4 y hy e).imp hL.get hL.get, q.5⟩
theorem cgAny {X : Cx} (K : PySem.W.Frag) (hc : X.calm = true) (h : X.K = K := by rfl) : CallR X (.builtin "any") (rAny K) := h ▸ cr_any hc
theorem cgAll {X : Cx} (K : PySem.W.Frag) (hc : X.calm = true) (h : X.K = K := by rfl) : CallR X (.builtin "all") (rAll K) := h ▸ cr_all hc
def pkS (D : Addr) (y z : V) (H : Hp) (R : Hp → Prop) : Prop := ∃ kvs k, y = kV k ∧ H D = some (.dK kvs) ∧ kvs.length < sizeLine ∧ R (upd H D (.dK (putK kvs k z)))
def dcS (J : It) (g : TG) (tt : TT) (tk tv : TE) (vs : List Nat) (σ : St) (H1 : Hp) (Q : VK) : Prop := ∀ D, H1 D = none → ∃ W : Nat → Nat → Hp → Prop, (∃ m, W 0 m (upd H1 D (.dK []))) ∧ ∀ i m H, W i m H →
  (J.stop i H ∧ Q (.ref D) H) ∨ (J.go i H ∧ ∃ Nx : Hp → Prop, (∀ H', Nx H' → ∃ m', m' < m ∧ W (i + 1) m' H') ∧ ∀ x H', J.yld i H x H' → g x (wipe σ vs) H' fun σ2 H2 => wpS σ2 σ vs (tt σ2 H2 fun b H3 =>
    iteP b (tk σ2 H3 fun y H4 => tv σ2 H4 fun z H5 => pkS D y z H5 Nx) (Nx H3)))
section
variable {σ σ0 : St} {H : Hp} {K : PySem.W.Frag} {p : Addr} {xs : List V} {g : TG} {wi : TI} {tt : TT} {te tk tv : TE} {vs : List Nat} {Q : VK} {J : It} {n : Nat} {lo : Int}
instance s_dc : Stp (tDc wi g tt tk tv vs σ H Q) (wi σ H fun J H1 => dcS J g tt tk tv vs σ H1 Q) := ⟨id⟩
theorem dc_by {G : Hp → Prop} {Y : Nat → Hp → V → Hp → Prop} (w : Walk J n G Y) [hw : Wip σ vs σ0] (Pv : Addr → Nat → Hp → Prop) (h0 : ∀ D H2, H D = none → H2 D = some (.dK []) → Kp [] H H2 → Pv D 0 H2) (hG : ∀ D i H', Pv D i H' → G H')
    (hs : ∀ D i x H' H'', i < n → Pv D i H' → Y i H' x H'' → g x σ0 H'' fun σ2 H2 => wpS σ2 σ vs (tt σ2 H2 fun b H3 => iteP b (tk σ2 H3 fun y H4 => tv σ2 H4 fun z H5 => pkS D y z H5 (Pv D (i + 1))) (Pv D (i + 1) H3)))
    (hd : ∀ D H', Pv D n H' → Q (.ref D) H') : dcS J g tt tk tv vs σ H Q := by
  intro D hD
  refine ⟨fun i m H => m = n - i ∧ i ≤ n ∧ Pv D i H, ⟨n, by simp, Nat.zero_le _, h0 D _ hD upd_same (Kp.new hD)⟩, ?_⟩
  rintro i m H ⟨rfl, hi, p⟩
  have q := hG D i H p
  by_cases hlt : i < n
  · refine .inr ⟨w.goes i H hlt q, Pv D (i + 1), fun H' p' => ⟨n - (i + 1), by omega, rfl, hlt, p'⟩, fun x H' y => ?_⟩
    rw [hw.e]
    exact hs D i x H H' hlt p (w.yields i H x H' hlt q y)
  · have e : i = n := by omega
    subst e
    exact .inl ⟨w.stops H q, hd D H p⟩
theorem r_pkE {D : Addr} {ks : List Int} {f : Int → V} {v : Int} {z : V} {R : Hp → Prop} (h : H D = some (.dK (ents ks f))) (few : ks.length ≤ 10000) (q : ∀ H2, H2 D = some (.dK (ents (if v ∈ ks then ks else ks ++ [v]) fun u => if u = v then z else f u)) → Kp [D] H H2 → R H2) : pkS D (.int v) z H R :=
  ⟨_, Sum.inl v, rfl, h, small1e4 (by unfold ents; rw [List.length_map]; exact few), q _ (by rw [← putK_ents]; exact upd_same) (Kp.put h trivial)⟩
theorem fm_filter (f : Int → Bool) (as : List Int) : as.filterMap (fun a => if f a = true then some (PyData.int a) else none) = (as.filter f).map PyData.int := by
  induction as with
  | nil => rfl
  | cons a as ih =>
    rw [List.filterMap_cons, List.filter_cons]
    cases h : f a
    · simp [ih]
    · simp [ih]
/-- ints, those that pass -/
theorem lcL_fi {as : List Int} [hw : Wip σ vs σ0] (s : H p = some (.lst (as.map V.int))) (f : Int → Bool) (small : as.length ≤ 10000)
    (hs : ∀ (i : Nat) (a : Int) (H' : Hp) (R : V → Hp → Prop) (R' : Hp → Prop), as[i]? = some a → Kp [] H H' → (∀ H4, f a = true → Kp [] H' H4 → R (.int a) H4) → (∀ H4, f a = false → Kp [] H' H4 → R' H4) →
      lcTurn g tt te vs σ σ0 (.int a) H' R R')
    (hd : ∀ D H', H D = none → H' D = some (.lst ((as.filter f).map V.int)) → Kp [] H H' → Q (.ref D) H') : lcS (Itl K p) g tt te vs σ H Q :=
  lcL_f (as := as) (d := PyData.int) s (imInts as) (fun a => if f a = true then some (.int a) else none) small (fun i a x H' R R' ha k hx q1 q2 => by
    cases hx
    refine hs i a H' R R' ha k (fun H4 e k4 => q1 _ _ (.int a) (by rw [if_pos e]) (.int a) k4) fun H4 e k4 => q2 _ (by rw [e]; rfl) k4) fun D H' acc hD eD hA k => hd D H' hD (by
    rw [fm_filter] at hA
    rw [eD, hA.ints]) k
end
/-! ### remaining values -/
abbrev Dm := Int → List Int
def updD (D : Dm) (v : Int) (xs : List Int) : Dm := fun u => if u = v then xs else D u
/-- ascending, not empty, small -/
structure Dom1 (xs : List Int) : Prop where
  ne : xs ≠ []
  asc : xs.Pairwise (· < ·)
  len : xs.length ≤ 2001
  bd : ∀ a ∈ xs, -1000 ≤ a ∧ a ≤ 1000
def DomOk (ks : List Int) (D : Dm) : Prop := ∀ v ∈ ks, Dom1 (D v)
theorem Dom1.filter {xs : List Int} {p : Int → Bool} (h : Dom1 xs) (ne : xs.filter p ≠ []) : Dom1 (xs.filter p) :=
  ⟨ne, h.asc.filter _, Nat.le_trans (List.length_filter_le _ _) h.len, fun a ha => h.bd a (List.mem_filter.mp ha).1⟩
theorem DomOk.upd {ks : List Int} {D : Dm} {v : Int} {xs : List Int} (h : DomOk ks D) (hx : Dom1 xs) : DomOk ks (updD D v xs) := fun u hu => by
  unfold updD
  split
  · exact hx
  · exact h u hu
def Within (ks : List Int) (D : Dm) (g : Pt) : Prop := ∀ v ∈ ks, g v ∈ D v
theorem Within.upd {ks : List Int} {D : Dm} {g : Pt} {v : Int} {xs : List Int} (h : Within ks D g) (hx : g v ∈ xs) : Within ks (updD D v xs) g := fun u hu => by
  unfold updD
  split
  · rename_i e
    rw [e]
    exact hx
  · exact h u hu
structure DomAt (H : Hp) (d : Addr) (ks : List Int) (D : Dm) : Prop where
  ex : ∃ f : Int → Addr, H d = some (.dK (ents ks fun v => .ref (f v))) ∧ ∀ v ∈ ks, H (f v) = some (.lst ((D v).map V.int))
section
variable {K : PySem.W.Frag} {H H' H2 : Hp} {d p : Addr} {ks : List Int} {D : Dm} {v : Int} {xs : List Int} {Q : VK}
theorem DomAt.kp0 (k : Kp [] H H') (h : DomAt H d ks D) : DomAt H' d ks D := by
  obtain ⟨f, e, a⟩ := h.ex
  exact ⟨f, k.get0 e, fun v hv => k.get0 (a v hv)⟩
theorem DomAt.kp {S : List Addr} (k : Kp S H H') (h : DomAt H d ks D) (n : ∀ a ∈ S, H a = none) : DomAt H' d ks D := by
  obtain ⟨f, e, a⟩ := h.ex
  exact ⟨f, k.get (fun z => by rw [n _ z] at e; cases e) e, fun v hv => k.get (fun z => by have := a v hv; rw [n _ z] at this; cases this) (a v hv)⟩
theorem DomAt.isD (h : DomAt H d ks D) : ∃ f, H d = some (.dK (ents ks f)) := by
  obtain ⟨f, e, a⟩ := h.ex
  exact ⟨_, e⟩
theorem DomAt.mut (h : DomAt H d ks D) : Kp [d] H H := Kp.base fun b hb => by
  obtain ⟨f, e⟩ := h.isD
  rw [List.mem_singleton] at hb
  rw [hb, e]
  trivial
theorem DomAt.congr {D' : Dm} (h : DomAt H d ks D) (e : ∀ v ∈ ks, D v = D' v) : DomAt H d ks D' := by
  obtain ⟨f, e1, a⟩ := h.ex
  exact ⟨f, e1, fun v hv => by rw [← e v hv]; exact a v hv⟩
theorem r_getDom (h : DomAt H d ks D) (hv : v ∈ ks) (q : ∀ p, H p = some (.lst ((D v).map V.int)) → Q (.ref p) H) : rIxDK (.ref d) (.int v) H Q := by
  obtain ⟨f, e, a⟩ := h.ex
  exact r_ixDK e hv (q _ (a v hv))
theorem r_putDom {R : Hp → Prop} (h : DomAt H d ks D) (hv : v ∈ ks) (hp : H p = some (.lst (xs.map V.int))) (few : ks.length ≤ 10000) (q : ∀ H2, DomAt H2 d ks (updD D v xs) → Kp [d] H H2 → R H2) : putD (.ref d) (.int v) (.ref p) H R := by
  obtain ⟨f, e, a⟩ := h.ex
  refine r_putE e few fun H2 e2 k2 => q H2 ⟨fun u => if u = v then p else f u, ?_, fun u hu => ?_⟩ k2
  · rw [e2, if_pos hv]
    congr 2
    congr 1
    funext u
    show (if u = v then V.ref p else V.ref (f u)) = V.ref (if u = v then p else f u)
    split <;> rfl
  · have nl : ∀ {b : Addr} {ys : List V}, H b = some (.lst ys) → b ≠ d := fun hb z => by rw [z, e] at hb; cases hb
    unfold updD
    simp only
    split
    · exact k2.get1 (nl hp) hp
    · exact k2.get1 (nl (a u hu)) (a u hu)
end
/-- literals taken out -/
def dropL : Dm → List Lit → Option Dm
  | D, [] => some D
  | D, l :: ls => let xs := (D l.v).filter fun a => !l.r.h a l.a
    if xs = [] then none else dropL (updD D l.v xs) ls
def keepL (D : Dm) (l : Lit) : Dm := updD D l.v ((D l.v).filter fun a => l.r.h a l.a)
def leastOf (c : Int) (xs : List Int) : Int := if 0 < c then c * xs.headD 0 else c * xs.getLastD 0
def leastR (D : Dm) (ts : Tms) : Int := (ts.map fun z => leastOf z.2 (D z.1)).sum
def cutR (D : Dm) (m n : Int) (z : Int × Int) : List Int := (D z.1).filter fun a => decide (z.2 * a + (m - leastOf z.2 (D z.1)) ≤ n)
def putAll (D : Dm) : List (Int × List Int) → Dm
  | [] => D
  | z :: zs => putAll (updD D z.1 z.2) zs
def applyR (D : Dm) (ts : Tms) (n : Int) : Option Dm := if n < leastR D ts then none else some (putAll D (ts.map fun z => (z.1, cutR D (leastR D ts) n z)))
def liveL (D : Dm) (ls : List Lit) : List Lit := ls.filter fun l => (D l.v).any fun a => l.r.h a l.a
def supposeF (D : Dm) : Fact → Option Dm
  | .any ls => dropL D ls
  | .row ts n => applyR D (negT ts) (-n - 1)
def endsB : Dm → List Fact → Bool
  | _, [] => false
  | D, .row ts n :: fs => match applyR D ts n with
    | none => true
    | some D' => endsB D' fs
  | D, .any ls :: fs => match liveL D ls with
    | [] => true
    | [l] => endsB (keepL D l) fs
    | _ :: _ :: _ => false
theorem endsB_row (D : Dm) (ts : Tms) (n : Int) (fs : List Fact) : endsB D (.row ts n :: fs) = (applyR D ts n).elim true fun D' => endsB D' fs := by
  rw [endsB]
  cases applyR D ts n <;> rfl
theorem endsB_any0 {D : Dm} {ls : List Lit} {fs : List Fact} (h : liveL D ls = []) : endsB D (.any ls :: fs) = true := by rw [endsB, h]
theorem endsB_any1 {D : Dm} {ls : List Lit} {l : Lit} {fs : List Fact} (h : liveL D ls = [l]) : endsB D (.any ls :: fs) = endsB (keepL D l) fs := by rw [endsB, h]
theorem endsB_any2 {D : Dm} {ls : List Lit} {l m : Lit} {lr : List Lit} {fs : List Fact} (h : liveL D ls = l :: m :: lr) : endsB D (.any ls :: fs) = false := by rw [endsB, h]
def fullD (us : List Un) : Dm := fun v => match us[v.toNat]? with
  | some u => rgI u.2.1 (u.2.2 + 1)
  | none => []
def unitB (us : List Un) (f : Fact) (fs : List Fact) : Bool := match supposeF (fullD us) f with
  | none => true
  | some D => endsB D fs
theorem least_le {c : Int} {xs : List Int} (h : xs.Pairwise (· < ·)) {a : Int} (ha : a ∈ xs) : leastOf c xs ≤ c * a := by
  unfold leastOf
  split
  · rename_i hc
    cases xs with
    | nil => cases ha
    | cons x xs =>
      rw [List.headD_cons]
      rw [List.pairwise_cons] at h
      refine Int.mul_le_mul_of_nonneg_left ?_ (by omega)
      rcases List.mem_cons.mp ha with rfl | ha
      · exact Int.le_refl _
      · have := h.1 a ha
        omega
  · rename_i hc
    have hl : a ≤ xs.getLastD 0 := by
      induction xs generalizing a with
      | nil => cases ha
      | cons x xs ih =>
        rw [List.pairwise_cons] at h
        cases xs with
        | nil =>
          rw [List.mem_singleton] at ha
          subst ha
          exact Int.le_refl _
        | cons y ys =>
          have e : (x :: y :: ys).getLastD 0 = (y :: ys).getLastD 0 := rfl
          rw [e]
          rcases List.mem_cons.mp ha with rfl | ha
          · have h1 := h.1 y List.mem_cons_self
            have h2 := ih h.2 List.mem_cons_self
            omega
          · exact ih h.2 ha
    exact Int.mul_le_mul_of_nonpos_left (by omega) hl
theorem least_mem {c : Int} {xs : List Int} (h : xs ≠ []) : ∃ a ∈ xs, leastOf c xs = c * a := by
  unfold leastOf
  cases xs with
  | nil => exact absurd rfl h
  | cons x xs =>
    split
    · exact ⟨x, List.mem_cons_self, rfl⟩
    · refine ⟨(x :: xs).getLastD 0, ?_, rfl⟩
      rw [List.getLastD_cons]
      cases xs with
      | nil => simp
      | cons y ys =>
        rw [List.getLastD_cons]
        have : ∀ (ys : List Int) (y : Int), ys.getLastD y ∈ y :: ys := by
          intro ys
          induction ys with
          | nil => intro y; simp
          | cons z zs ih =>
            intro y
            rw [List.getLastD_cons]
            exact List.mem_cons_of_mem _ (ih z)
        exact List.mem_cons_of_mem _ (this ys y)
theorem leastR_le {ks : List Int} {D : Dm} {g : Pt} (ok : DomOk ks D) (hg : Within ks D g) : ∀ (ts : Tms), (∀ z ∈ ts, z.1 ∈ ks) → leastR D ts ≤ sumF ts g
  | [], _ => Int.le_refl _
  | z :: ts, h => by
    have h1 := leastR_le ok hg ts fun y hy => h y (List.mem_cons_of_mem _ hy)
    have hz := h z List.mem_cons_self
    have h2 := least_le (c := z.2) (ok z.1 hz).asc (hg z.1 hz)
    have e1 : leastR D (z :: ts) = leastOf z.2 (D z.1) + leastR D ts := by simp [leastR]
    have e2 : sumF (z :: ts) g = z.2 * g z.1 + sumF ts g := by simp [sumF]
    omega
/-- the others of a sum are not below their least -/
theorem least_one {ks : List Int} {D : Dm} {g : Pt} (ok : DomOk ks D) (hg : Within ks D g) : ∀ (ts : Tms), (∀ z ∈ ts, z.1 ∈ ks) → ∀ z ∈ ts, z.2 * g z.1 + (leastR D ts - leastOf z.2 (D z.1)) ≤ sumF ts g
  | [], _, _, hz => by cases hz
  | y :: ts, h, z, hz => by
    have ht : ∀ z ∈ ts, z.1 ∈ ks := fun y hy => h y (List.mem_cons_of_mem _ hy)
    have e1 : leastR D (y :: ts) = leastOf y.2 (D y.1) + leastR D ts := by simp [leastR]
    have e2 : sumF (y :: ts) g = y.2 * g y.1 + sumF ts g := by simp [sumF]
    rcases List.mem_cons.mp hz with rfl | hz
    · have := leastR_le ok hg ts ht
      omega
    · have h1 := least_one ok hg ts ht z hz
      have hy := h y List.mem_cons_self
      have h2 := least_le (c := y.2) (ok y.1 hy).asc (hg y.1 hy)
      omega
theorem putAll_within {ks : List Int} {g : Pt} : ∀ (zs : List (Int × List Int)) {D : Dm}, Within ks D g → (∀ z ∈ zs, g z.1 ∈ z.2) → Within ks (putAll D zs) g
  | [], _, h, _ => h
  | z :: zs, _, h, hz => putAll_within zs (h.upd (hz z List.mem_cons_self)) fun y hy => hz y (List.mem_cons_of_mem _ hy)
theorem putAll_ok {ks : List Int} : ∀ (zs : List (Int × List Int)) {D : Dm}, DomOk ks D → (∀ z ∈ zs, Dom1 z.2) → DomOk ks (putAll D zs)
  | [], _, h, _ => h
  | z :: zs, _, h, hz => putAll_ok zs (h.upd (hz z List.mem_cons_self)) fun y hy => hz y (List.mem_cons_of_mem _ hy)
theorem cutR_ok {ks : List Int} {D : Dm} {ts : Tms} {n : Int} (ok : DomOk ks D) (hk : ∀ z ∈ ts, z.1 ∈ ks) (hn : leastR D ts ≤ n) {z : Int × Int} (hz : z ∈ ts) : Dom1 (cutR D (leastR D ts) n z) := by
  have d := ok z.1 (hk z hz)
  refine d.filter fun e => ?_
  obtain ⟨a, ha, el⟩ := least_mem (c := z.2) d.ne
  have : a ∈ cutR D (leastR D ts) n z := List.mem_filter.mpr ⟨ha, by rw [decide_eq_true_eq]; omega⟩
  unfold cutR at this
  rw [e] at this
  cases this
theorem applyR_ok {ks : List Int} {D D' : Dm} {ts : Tms} {n : Int} (ok : DomOk ks D) (hk : ∀ z ∈ ts, z.1 ∈ ks) (h : applyR D ts n = some D') : DomOk ks D' := by
  unfold applyR at h
  split at h
  · cases h
  · cases h
    refine putAll_ok _ ok fun y hy => ?_
    obtain ⟨z, hz, rfl⟩ := List.mem_map.mp hy
    exact cutR_ok ok hk (by omega) hz
theorem applyR_within {ks : List Int} {D : Dm} {ts : Tms} {n : Int} {g : Pt} (ok : DomOk ks D) (hk : ∀ z ∈ ts, z.1 ∈ ks) (hg : Within ks D g) (hs : sumF ts g ≤ n) : ∃ D', applyR D ts n = some D' ∧ Within ks D' g := by
  have h1 := leastR_le ok hg ts hk
  refine ⟨_, by unfold applyR; rw [if_neg (by omega)], putAll_within _ hg fun y hy => ?_⟩
  obtain ⟨z, hz, rfl⟩ := List.mem_map.mp hy
  have := least_one ok hg ts hk z hz
  exact List.mem_filter.mpr ⟨hg z.1 (hk z hz), by rw [decide_eq_true_eq]; show z.2 * g z.1 + _ ≤ _; omega⟩
theorem dropL_ok {ks : List Int} : ∀ (ls : List Lit) {D D' : Dm}, DomOk ks D → (∀ l ∈ ls, l.v ∈ ks) → dropL D ls = some D' → DomOk ks D'
  | [], _, _, ok, _, h => by cases h; exact ok
  | l :: ls, D, D', ok, hk, h => by
    unfold dropL at h
    simp only at h
    split at h
    · cases h
    · rename_i ne
      exact dropL_ok ls (ok.upd ((ok l.v (hk l List.mem_cons_self)).filter ne)) (fun y hy => hk y (List.mem_cons_of_mem _ hy)) h
theorem dropL_within {ks : List Int} {g : Pt} : ∀ (ls : List Lit) {D : Dm}, Within ks D g → (∀ l ∈ ls, l.v ∈ ks) → (∀ l ∈ ls, l.h g = false) → ∃ D', dropL D ls = some D' ∧ Within ks D' g
  | [], D, h, _, _ => ⟨D, rfl, h⟩
  | l :: ls, D, h, hk, hf => by
    have m : g l.v ∈ (D l.v).filter fun a => !l.r.h a l.a := List.mem_filter.mpr ⟨h l.v (hk l List.mem_cons_self), by
      have := hf l List.mem_cons_self
      unfold Lit.h at this
      rw [this]
      rfl⟩
    unfold dropL
    simp only
    rw [if_neg (fun e => by rw [e] at m; cases m)]
    exact dropL_within ls (h.upd m) (fun y hy => hk y (List.mem_cons_of_mem _ hy)) fun y hy => hf y (List.mem_cons_of_mem _ hy)
theorem keepL_ok {ks : List Int} {D : Dm} {l : Lit} (ok : DomOk ks D) (hk : l.v ∈ ks) (h : (D l.v).any (fun a => l.r.h a l.a) = true) : DomOk ks (keepL D l) := by
  refine ok.upd ((ok l.v hk).filter fun e => ?_)
  obtain ⟨a, ha, hl⟩ := List.any_eq_true.mp h
  have : a ∈ (D l.v).filter fun a => l.r.h a l.a := List.mem_filter.mpr ⟨ha, hl⟩
  rw [e] at this
  cases this
theorem keepL_within {ks : List Int} {D : Dm} {l : Lit} {g : Pt} (hg : Within ks D g) (hk : l.v ∈ ks) (h : l.h g = true) : Within ks (keepL D l) g := hg.upd (List.mem_filter.mpr ⟨hg l.v hk, h⟩)
theorem live_any {D : Dm} {ls : List Lit} {l : Lit} (h : l ∈ liveL D ls) : l ∈ ls ∧ (D l.v).any (fun a => l.r.h a l.a) = true := List.mem_filter.mp h
theorem endsB_sound {ks : List Int} {g : Pt} : ∀ (fs : List Fact) {D : Dm}, DomOk ks D → Within ks D g → (∀ f ∈ fs, (∀ v ∈ f.vars, v ∈ ks) ∧ f.h g = true) → endsB D fs = false
  | [], _, _, _, _ => rfl
  | .row ts n :: fs, D, ok, hg, h => by
    have h1 := h _ List.mem_cons_self
    have hk : ∀ z ∈ ts, z.1 ∈ ks := fun z hz => h1.1 z.1 (List.mem_map.mpr ⟨z, hz, rfl⟩)
    obtain ⟨D', e, hg'⟩ := applyR_within ok hk hg (of_decide_eq_true h1.2)
    unfold endsB
    rw [e]
    exact endsB_sound fs (applyR_ok ok hk e) hg' fun f hf => h f (List.mem_cons_of_mem _ hf)
  | .any ls :: fs, D, ok, hg, h => by
    have h1 := h _ List.mem_cons_self
    obtain ⟨l, hl, hh⟩ := List.any_eq_true.mp h1.2
    have hlk : l.v ∈ ks := h1.1 l.v (List.mem_map.mpr ⟨l, hl, rfl⟩)
    have m : l ∈ liveL D ls := List.mem_filter.mpr ⟨hl, List.any_eq_true.mpr ⟨g l.v, hg l.v hlk, hh⟩⟩
    unfold endsB
    match e : liveL D ls with
    | [] => rw [e] at m; cases m
    | [l2] =>
      rw [e, List.mem_singleton] at m
      subst m
      have lv := live_any (D := D) (ls := ls) (l := l) (by rw [e]; exact List.mem_cons_self)
      exact endsB_sound fs (keepL_ok ok hlk lv.2) (keepL_within hg hlk hh) fun f hf => h f (List.mem_cons_of_mem _ hf)
    | _ :: _ :: _ => rfl
theorem supposeF_sound {ks : List Int} {D : Dm} {f : Fact} {g : Pt} (ok : DomOk ks D) (hg : Within ks D g) (hk : ∀ v ∈ f.vars, v ∈ ks) (hf : f.h g = false) : ∃ D', supposeF D f = some D' ∧ DomOk ks D' ∧ Within ks D' g := by
  cases f with
  | any ls =>
    have hl : ∀ l ∈ ls, l.v ∈ ks := fun l h => hk l.v (List.mem_map.mpr ⟨l, h, rfl⟩)
    obtain ⟨D', e, h⟩ := dropL_within ls hg hl fun l h => Bool.eq_false_iff.mpr fun e => by
      have : (ls.any fun l => l.h g) = true := List.any_eq_true.mpr ⟨l, h, e⟩
      rw [show (Fact.any ls).h g = ls.any fun l => l.h g from rfl, this] at hf
      cases hf
    exact ⟨D', e, dropL_ok ls ok hl e, h⟩
  | row ts n =>
    have hl : ∀ z ∈ negT ts, z.1 ∈ ks := fun z h => by
      obtain ⟨y, hy, rfl⟩ := List.mem_map.mp h
      exact hk y.1 (List.mem_map.mpr ⟨y, hy, rfl⟩)
    have hn : sumF (negT ts) g ≤ -n - 1 := by
      rw [sumF_neg]
      have : ¬ sumF ts g ≤ n := of_decide_eq_false hf
      omega
    obtain ⟨D', e, h⟩ := applyR_within ok hl hg hn
    exact ⟨D', e, applyR_ok ok hl e, h⟩
def usOk (us : List Un) : Prop := ∀ u ∈ us, -1000 ≤ u.2.1 ∧ u.2.1 ≤ u.2.2 ∧ u.2.2 ≤ 1000
theorem fullD_ok {us : List Un} {ks : List Int} (ok : usOk us) (hk : ∀ v ∈ ks, 0 ≤ v ∧ v < us.length) : DomOk ks (fullD us) := fun v hv => by
  have h := hk v hv
  obtain ⟨u, hu⟩ : ∃ u, us[v.toNat]? = some u := ⟨_, List.getElem?_eq_getElem (by omega)⟩
  have o := ok u (List.mem_of_getElem? hu)
  unfold fullD
  rw [hu]
  refine ⟨fun e => ?_, rgI_asc _ _, by simp [rgI]; omega, fun a ha => by have := rgI_mem.mp ha; omega⟩
  have : u.2.1 ∈ rgI u.2.1 (u.2.2 + 1) := rgI_mem.mpr (by omega)
  simp only at e
  rw [e] at this
  cases this
theorem fullD_within {us : List Un} {ks : List Int} {g : Pt} (hk : ∀ v ∈ ks, 0 ≤ v ∧ v < us.length) (hg : ∀ (i : Nat) u, us[i]? = some u → u.2.1 ≤ g i ∧ g i ≤ u.2.2) : Within ks (fullD us) g := fun v hv => by
  have h := hk v hv
  obtain ⟨u, hu⟩ : ∃ u, us[v.toNat]? = some u := ⟨_, List.getElem?_eq_getElem (by omega)⟩
  have o := hg _ u hu
  rw [Int.toNat_of_nonneg h.1] at o
  unfold fullD
  rw [hu]
  exact rgI_mem.mpr (by omega)
theorem unit_sound {us : List Un} {f : Fact} {fs : List Fact} {g : Pt} (ok : usOk us) (hf : ∀ v ∈ f.vars, 0 ≤ v ∧ v < us.length) (hfs : ∀ f ∈ fs, ∀ v ∈ f.vars, 0 ≤ v ∧ v < us.length) (hg : ∀ (i : Nat) u, us[i]? = some u → u.2.1 ≤ g i ∧ g i ≤ u.2.2) (hh : ∀ f ∈ fs, f.h g = true) (h : unitB us f fs = true) : f.h g = true := by
  cases e : f.h g with
  | true => rfl
  | false =>
    have hk : ∀ v ∈ f.vars ++ fs.flatMap Fact.vars, 0 ≤ v ∧ v < us.length := fun v hv => by
      rcases List.mem_append.mp hv with h | h
      · exact hf v h
      · obtain ⟨f', h1, h2⟩ := List.mem_flatMap.mp h
        exact hfs f' h1 v h2
    obtain ⟨D', e1, ok', hg'⟩ := supposeF_sound (fullD_ok ok hk) (fullD_within hk hg) (fun v hv => List.mem_append_left _ hv) e
    unfold unitB at h
    rw [e1] at h
    have := endsB_sound fs ok' hg' fun f' hf' => ⟨fun v hv => List.mem_append_right _ (List.mem_flatMap.mpr ⟨f', hf', hv⟩), hh f' hf'⟩
    simp only [this] at h
    cases h
def spFullD (K : PySem.W.Frag) (C : Addr) : Sp := fun vs H Q _ => ∃ (a : MA) (M : Mdl) (l : Addr) (ks : List Int), vs = [.ref a.p, .ref l] ∧ MdlAt K C H a M ∧ M.us.length ≤ 60 ∧ usOk M.us ∧ H l = some (.lst (ks.map V.int)) ∧ ks.Nodup ∧ (∀ v ∈ ks, 0 ≤ v ∧ v < M.us.length) ∧ ∀ (d : Addr) (H' : Hp), H d = none → DomAt H' d ks (fullD M.us) → Kp [] H H' → Q (.ref d) H'
def spDropL (K : PySem.W.Frag) : Sp := fun vs H Q _ => ∃ (d p : Addr) (ks : List Int) (D : Dm) (ls : List Lit), vs = [.ref d, .ref p] ∧ DomAt H d ks D ∧ DomOk ks D ∧ ks.length ≤ 60 ∧ Im K H (.ref p) (litsD ls) ∧ (∀ l ∈ ls, l.v ∈ ks) ∧ (∀ H', dropL D ls = none → Kp [d] H H' → Q (.bl false) H') ∧ ∀ D' H', dropL D ls = some D' → DomAt H' d ks D' → Kp [d] H H' → Q (.bl true) H'
def spKeepL (K : PySem.W.Frag) : Sp := fun vs H Q _ => ∃ (d p : Addr) (ks : List Int) (D : Dm) (l : Lit), vs = [.ref d, .ref p] ∧ DomAt H d ks D ∧ DomOk ks D ∧ ks.length ≤ 60 ∧ LitAt K H p l.v l.r l.a ∧ l.v ∈ ks ∧ ∀ H', DomAt H' d ks (keepL D l) → Kp [d] H H' → Q .non H'
def spLeast (K : PySem.W.Frag) : Sp := fun vs H Q _ => ∃ (c : Int) (p : Addr) (xs : List Int), vs = [.int c, .ref p] ∧ H p = some (.lst (xs.map V.int)) ∧ Dom1 xs ∧ Q (.int (leastOf c xs)) H
def spApplyR (K : PySem.W.Frag) : Sp := fun vs H Q _ => ∃ (d p : Addr) (ks : List Int) (D : Dm) (ts : Tms) (n : Int), vs = [.ref d, .ref p] ∧ DomAt H d ks D ∧ DomOk ks D ∧ ks.length ≤ 60 ∧ FactAt K H p (.row ts n) ∧ ts.length ≤ 60 ∧ (∀ z ∈ ts, z.1 ∈ ks) ∧ (∀ H', applyR D ts n = none → Kp [d] H H' → Q (.bl false) H') ∧ ∀ D' H', applyR D ts n = some D' → DomAt H' d ks D' → Kp [d] H H' → Q (.bl true) H'
def spLive (K : PySem.W.Frag) : Sp := fun vs H Q _ => ∃ (d p : Addr) (ks : List Int) (D : Dm) (ls : List Lit), vs = [.ref d, .ref p] ∧ DomAt H d ks D ∧ DomOk ks D ∧ ks.length ≤ 60 ∧ Im K H (.ref p) (litsD ls) ∧ ls.length ≤ 60 ∧ (∀ l ∈ ls, l.v ∈ ks) ∧ ∀ (l : Addr) (refs : List V) H', H l = none → H' l = some (.lst refs) → ImAll K H' refs ((liveL D ls).map Lit.d) → Kp [] H H' → Q (.ref l) H'
def spSuppose (K : PySem.W.Frag) : Sp := fun vs H Q _ => ∃ (d p : Addr) (ks : List Int) (D : Dm) (f : Fact) (m : Int), vs = [.ref d, .ref p] ∧ DomAt H d ks D ∧ DomOk ks D ∧ ks.length ≤ 60 ∧ FactAt K H p f ∧ f.ok m ∧ (∀ v ∈ f.vars, v ∈ ks) ∧ (∀ H', supposeF D f = none → Kp [d] H H' → Q (.bl false) H') ∧ ∀ D' H', supposeF D f = some D' → DomAt H' d ks D' → Kp [d] H H' → Q (.bl true) H'
def spEnds (K : PySem.W.Frag) : Sp := fun vs H Q _ => ∃ (d l : Addr) (ks : List Int) (D : Dm) (refs : List V) (fs : List Fact) (m : Int), vs = [.ref d, .ref l] ∧ DomAt H d ks D ∧ DomOk ks D ∧ ks.length ≤ 60 ∧ H l = some (.lst refs) ∧ ImAll K H refs (fs.map Fact.d) ∧ (∀ f ∈ fs, f.ok m ∧ ∀ v ∈ f.vars, v ∈ ks) ∧ ∀ H', Kp [d] H H' → Q (.bl (endsB D fs)) H'
def spUnit (K : PySem.W.Frag) (C : Addr) : Sp := fun vs H Q _ => ∃ (a : MA) (M : Mdl) (p l : Addr) (refs : List V) (f : Fact) (fs : List Fact), vs = [.ref a.p, .ref p, .ref l] ∧ MdlAt K C H a M ∧ M.us.length ≤ 60 ∧ usOk M.us ∧ FactAt K H p f ∧ f.ok M.us.length ∧ H l = some (.lst refs) ∧ ImAll K H refs (fs.map Fact.d) ∧ (∀ f ∈ fs, f.ok M.us.length) ∧ fs.length ≤ 60 ∧ ∀ H', Kp [] H H' → Q (.bl (unitB M.us f fs)) H'

/-! ### choices of values -/
theorem asLit_vars {f : Fact} {l : Lit} (e : f.asLit = some l) : f.vars = [l.v] := by
  cases f with
  | row ts n =>
    match ts, e with
    | [], e => cases e
    | z :: z' :: ts, e => rw [asLit_row2] at e; cases e
    | [(v, c)], e =>
      simp only [Fact.asLit] at e
      split at e <;> (cases e; rfl)
  | any ls =>
    match ls, e with
    | [], e => cases e
    | l1 :: l2 :: ls, e => rw [asLit_two] at e; cases e
    | [l1], e => cases e; rfl
theorem Fact.h_congr {f : Fact} {g g' : Pt} (h : ∀ v ∈ f.vars, g v = g' v) : f.h g = f.h g' := by
  cases f with
  | row ts n =>
    show decide (sumF ts g ≤ n) = decide (sumF ts g' ≤ n)
    rw [sumF_congr fun z hz => h z.1 (List.mem_map.mpr ⟨z, hz, rfl⟩)]
  | any ls =>
    show (ls.any fun l => l.h g) = ls.any fun l => l.h g'
    refine any_congr' fun l hl => ?_
    unfold Lit.h
    rw [h l.v (List.mem_map.mpr ⟨l, hl, rfl⟩)]
def updG (g : Pt) (v a : Int) : Pt := fun u => if u = v then a else g u
def chStep (D : Dm) (gs : List Pt) (v : Int) : List Pt := gs.flatMap fun g => (D v).map fun a => updG g v a
def chF (U : List Int) (D : Dm) : List Pt := U.foldl (chStep D) [fun _ => 0]
theorem chF_snoc (U : List Int) (v : Int) (D : Dm) : chF (U ++ [v]) D = chStep D (chF U D) v := by
  unfold chF
  rw [List.foldl_append]
  rfl
/-- all choices: within, and each one stands there -/
structure ChAll (U : List Int) (D : Dm) (gs : List Pt) : Prop where
  snd : ∀ g ∈ gs, Within U D g
  cmp : ∀ g, Within U D g → ∃ g' ∈ gs, ∀ v ∈ U, g' v = g v
theorem ChAll.step {U : List Int} {D : Dm} {gs : List Pt} {v : Int} (h : ChAll U D gs) (hv : ¬ v ∈ U) : ChAll (U ++ [v]) D (chStep D gs v) := by
  refine ⟨fun g hg => ?_, fun g hg => ?_⟩
  · unfold chStep at hg
    obtain ⟨g0, h0, h1⟩ := List.mem_flatMap.mp hg
    obtain ⟨a, ha, rfl⟩ := List.mem_map.mp h1
    intro u hu
    unfold updG
    rcases List.mem_append.mp hu with h2 | h2
    · rw [if_neg (show ¬ u = v from fun e => hv (e ▸ h2))]
      exact h.snd g0 h0 u h2
    · rw [List.mem_singleton] at h2
      subst h2
      rw [if_pos rfl]
      exact ha
  · obtain ⟨g', h1, h2⟩ := h.cmp g fun u hu => hg u (List.mem_append_left _ hu)
    refine ⟨updG g' v (g v), List.mem_flatMap.mpr ⟨g', h1, List.mem_map.mpr ⟨g v, hg v (List.mem_append_right _ (by simp)), rfl⟩⟩, fun u hu => ?_⟩
    unfold updG
    split
    · rename_i e
      rw [e]
    · rename_i e
      rcases List.mem_append.mp hu with h3 | h3
      · exact h2 u h3
      · rw [List.mem_singleton] at h3
        exact absurd h3 e
theorem chF_all {U : List Int} (nd : U.Nodup) (D : Dm) : ∀ i, ChAll (U.take i) D (chF (U.take i) D)
  | 0 => ⟨fun g _ v hv => (by simp at hv), fun g _ => ⟨fun _ => 0, by simp [chF], fun v hv => (by simp at hv)⟩⟩
  | i + 1 => by
    have ih := chF_all nd D i
    cases e : U[i]? with
    | none =>
      rw [List.take_add_one, e]
      simpa using ih
    | some v =>
      rw [List.take_add_one, e]
      show ChAll (U.take i ++ [v]) D _
      rw [show (some v).toList = [v] from rfl, chF_snoc]
      refine ih.step fun hm => ?_
      obtain ⟨hi, ei⟩ := List.getElem?_eq_some_iff.mp e
      obtain ⟨j, hj⟩ := List.getElem?_of_mem hm
      obtain ⟨hjl, ej⟩ := List.getElem?_eq_some_iff.mp hj
      rw [List.length_take] at hjl
      rw [List.getElem_take] at ej
      exact absurd (ej.trans ei.symm) (List.pairwise_iff_getElem.mp nd j i (by omega) hi (by omega))
def prodL (U : List Int) (D : Dm) : Int := U.foldl (fun c v => c * ((D v).length : Int)) 1
theorem prodL_snoc (U : List Int) (v : Int) (D : Dm) : prodL (U ++ [v]) D = prodL U D * ((D v).length : Int) := by
  unfold prodL
  rw [List.foldl_append]
  rfl
theorem chStep_len (D : Dm) (gs : List Pt) (v : Int) : (chStep D gs v).length = gs.length * (D v).length := by
  unfold chStep
  induction gs with
  | nil => simp
  | cons g gs ih => rw [List.flatMap_cons, List.length_append, ih, List.length_map, List.length_cons, Nat.succ_mul, Nat.add_comm]
theorem chF_len (U : List Int) (D : Dm) : ∀ i, ((chF (U.take i) D).length : Int) = prodL (U.take i) D
  | 0 => rfl
  | i + 1 => by
    have ih := chF_len U D i
    cases e : U[i]? with
    | none =>
      rw [List.take_add_one, e]
      simpa using ih
    | some v =>
      rw [List.take_add_one, e]
      show (((chF (U.take i ++ [v]) D).length : Nat) : Int) = prodL (U.take i ++ [v]) D
      rw [chF_snoc, prodL_snoc, chStep_len, ← ih, Int.natCast_mul]
theorem prodL_pos {U : List Int} {D : Dm} (ok : DomOk U D) : ∀ i, 1 ≤ prodL (U.take i) D
  | 0 => Int.le_refl _
  | i + 1 => by
    have ih := prodL_pos ok i
    cases e : U[i]? with
    | none =>
      rw [List.take_add_one, e]
      simpa using ih
    | some v =>
      rw [List.take_add_one, e]
      show 1 ≤ prodL (U.take i ++ [v]) D
      rw [prodL_snoc]
      have h1 : 1 ≤ ((D v).length : Int) := by
        have := List.length_pos_iff.mpr (ok v (List.mem_of_getElem? e)).ne
        omega
      have := Int.mul_le_mul ih h1 (by decide) (by omega)
      omega
/-- a beginning costs no more -/
theorem prodL_mono {U : List Int} {D : Dm} (ok : DomOk U D) (i : Nat) : prodL (U.take i) D ≤ prodL U D := by
  have step : ∀ j, prodL (U.take j) D ≤ prodL (U.take (j + 1)) D := fun j => by
    cases e : U[j]? with
    | none =>
      rw [List.take_add_one, e]
      simp
    | some v =>
      rw [List.take_add_one, e]
      show _ ≤ prodL (U.take j ++ [v]) D
      rw [prodL_snoc]
      have h1 : 1 ≤ ((D v).length : Int) := by
        have := List.length_pos_iff.mpr (ok v (List.mem_of_getElem? e)).ne
        omega
      have h0 := prodL_pos ok j
      have := Int.mul_le_mul (Int.le_refl (prodL (U.take j) D)) h1 (by decide) (by omega)
      omega
  have all : ∀ k j, prodL (U.take j) D ≤ prodL (U.take (j + k)) D := fun k => by
    induction k with
    | zero => intro j; exact Int.le_refl _
    | succ k ih => intro j; exact Int.le_trans (ih j) (by rw [← Nat.add_assoc]; exact step _)
  by_cases h : i ≤ U.length
  · have := all (U.length - i) i
    rw [show i + (U.length - i) = U.length by omega, List.take_length] at this
    exact this
  · rw [List.take_of_length_le (by omega)]
    exact Int.le_refl _
/-- the choices at which the body holds -/
structure ChOk (U : List Int) (D : Dm) (b : Body) (gs : List Pt) : Prop where
  snd : ∀ g ∈ gs, Within U D g ∧ b.h g = true
  cmp : ∀ g, Within U D g → b.h g = true → ∃ g' ∈ gs, ∀ v ∈ U, g' v = g v
theorem ChAll.filter {U : List Int} {D : Dm} {gs : List Pt} {b : Body} (h : ChAll U D gs) (hb : ∀ v ∈ b.vars, v ∈ U) : ChOk U D b (gs.filter fun g => b.h g) := by
  refine ⟨fun g hg => ?_, fun g hg hh => ?_⟩
  · obtain ⟨h1, h2⟩ := List.mem_filter.mp hg
    exact ⟨h.snd g h1, h2⟩
  · obtain ⟨g', h1, h2⟩ := h.cmp g hg
    refine ⟨g', List.mem_filter.mpr ⟨h1, ?_⟩, h2⟩
    rw [Body.h_congr fun v hv => h2 v (hb v hv)]
    exact hh
def canon (n : Nat) (vs : List Int) : List Int := (upTo n).filter fun v => decide (v ∈ vs)
theorem canon_eq {n : Nat} {vs U : List Int} (asc : U.Pairwise (· < ·)) (hm : ∀ k, k ∈ U ↔ k ∈ vs) (hr : ∀ v ∈ vs, 0 ≤ v ∧ v < n) : U = canon n vs := by
  refine asc_ext asc ((upTo_asc n).filter _) fun k => ?_
  unfold canon
  rw [List.mem_filter, mem_upTo, decide_eq_true_eq, hm k]
  exact ⟨fun h => ⟨hr k h, h⟩, fun h => h.2⟩
def costB (n : Nat) (b : Body) (D : Dm) : Int := match b with
  | .table _ _ => 0
  | .elem _ _ _ => 0
  | .times x y _ => prodL (canon n [x, y]) D
  | b => prodL (canon n b.vars) D
/-- the hints that count as literals -/
def cutH : Dm → List Fact → Option Dm
  | D, [] => some D
  | D, f :: fs => match f.asLit with
    | none => cutH D fs
    | some l => if (keepL D l) l.v = [] then none else cutH (keepL D l) fs
def dropF (D : Dm) : Fact → Option Dm
  | .any ls => dropL D ls
  | .row _ _ => some D
def lookP (U : List Int) (D : Dm) (b : Body) (f : Fact) (hs : List Fact) : Prop := ∀ g, Within U D g → b.h g = true → (∀ h ∈ hs, h.h g = true) → f.h g = true
open Classical in
noncomputable def lookD (U : List Int) (D : Dm) (b : Body) (f : Fact) (hs : List Fact) : Bool := decide (lookP U D b f hs)
open Classical in
theorem lookD_iff {U : List Int} {D : Dm} {b : Body} {f : Fact} {hs : List Fact} : lookD U D b f hs = true ↔ lookP U D b f hs := by
  unfold lookD
  exact decide_eq_true_iff
noncomputable def lookE (n : Nat) (b : Body) (f : Fact) (hs : List Fact) (o : Option Dm) : Bool := match o with
  | none => true
  | some D => match cutH D hs with
    | none => true
    | some D' => decide (costB n b D' ≤ 400) && lookD (canon n b.vars) D' b f hs
noncomputable def lookB (us : List Un) (b : Body) (f : Fact) (hs : List Fact) : Bool :=
  ((f :: hs).all fun o => o.vars.all fun v => decide (v ∈ b.vars)) && lookE us.length b f hs (dropF (fullD us) f)
theorem keepL_at (D : Dm) (l : Lit) : keepL D l l.v = (D l.v).filter fun a => l.r.h a l.a := by
  unfold keepL updD
  rw [if_pos rfl]
theorem cutH_within {U : List Int} {g : Pt} {m : Int} : ∀ (hs : List Fact) {D : Dm}, Within U D g → (∀ h ∈ hs, h.h g = true ∧ (∀ v ∈ h.vars, v ∈ U) ∧ h.ok m) → ∃ D', cutH D hs = some D' ∧ Within U D' g
  | [], D, hg, _ => ⟨D, rfl, hg⟩
  | f :: fs, D, hg, h => by
    have hf := h f List.mem_cons_self
    have ht : ∀ h' ∈ fs, _ := fun h' hh => h h' (List.mem_cons_of_mem _ hh)
    unfold cutH
    cases e : f.asLit with
    | none => exact cutH_within fs hg ht
    | some l =>
      have hl : l.v ∈ U := hf.2.1 l.v (by rw [asLit_vars e]; exact List.mem_singleton.mpr rfl)
      have hh : l.h g = true := by rw [← asLit_sound hf.2.2 e]; exact hf.1
      have w := keepL_within (D := D) hg hl hh
      have ne : ¬ keepL D l l.v = [] := fun e2 => by
        have := w l.v hl
        rw [e2] at this
        cases this
      simp only
      rw [if_neg ne]
      exact cutH_within fs w ht
theorem dropF_within {U : List Int} {D : Dm} {f : Fact} {g : Pt} (hg : Within U D g) (hk : ∀ v ∈ f.vars, v ∈ U) (hf : f.h g = false) : ∃ D', dropF D f = some D' ∧ Within U D' g := by
  cases f with
  | row ts n => exact ⟨D, rfl, hg⟩
  | any ls =>
    refine dropL_within ls hg (fun l h => hk l.v (List.mem_map.mpr ⟨l, h, rfl⟩)) fun l h => Bool.eq_false_iff.mpr fun e => ?_
    have : (ls.any fun l => l.h g) = true := List.any_eq_true.mpr ⟨l, h, e⟩
    rw [show (Fact.any ls).h g = ls.any fun l => l.h g from rfl, this] at hf
    cases hf
theorem look_sound {us : List Un} {b : Body} {f : Fact} {hs : List Fact} {g : Pt} (hb : ∀ v ∈ b.vars, 0 ≤ v ∧ v < us.length) {m : Int} (hn : ∀ h ∈ hs, h.ok m) (hg : ∀ (i : Nat) u, us[i]? = some u → u.2.1 ≤ g i ∧ g i ≤ u.2.2) (hbh : b.h g = true) (hh : ∀ h ∈ hs, h.h g = true) (h : lookB us b f hs = true) : f.h g = true := by
  cases e : f.h g with
  | true => rfl
  | false =>
    unfold lookB at h
    rw [Bool.and_eq_true, List.all_eq_true] at h
    obtain ⟨hv, h⟩ := h
    have vin : ∀ o ∈ f :: hs, ∀ v ∈ o.vars, v ∈ canon us.length b.vars := fun o ho v hv' => by
      have := List.all_eq_true.mp (hv o ho) v hv'
      rw [decide_eq_true_eq] at this
      unfold canon
      exact List.mem_filter.mpr ⟨mem_upTo.mpr (hb v this), decide_eq_true this⟩
    have hg0 : Within (canon us.length b.vars) (fullD us) g := fullD_within (fun v hv' => mem_upTo.mp (List.mem_filter.mp hv').1) hg
    obtain ⟨D1, e1, w1⟩ := dropF_within hg0 (vin f List.mem_cons_self) e
    rw [e1] at h
    unfold lookE at h
    simp only at h
    obtain ⟨D2, e2, w2⟩ := cutH_within hs w1 fun h' hh' => ⟨hh h' hh', vin h' (List.mem_cons_of_mem _ hh'), hn h' hh'⟩
    rw [e2] at h
    simp only [Bool.and_eq_true, decide_eq_true_eq, lookD_iff] at h
    have := h.2 g w2 hbh hh
    rw [e] at this
    cases this
theorem lookP_all {U : List Int} {D : Dm} {b : Body} {f : Fact} {hs : List Fact} {gs : List Pt} (ch : ChOk U D b gs) (hb : ∀ v ∈ b.vars, v ∈ U) (hv : ∀ o ∈ f :: hs, ∀ v ∈ o.vars, v ∈ U) : lookD U D b f hs = gs.all fun g => !(hs.all fun h => h.h g) || f.h g := by
  rw [Bool.eq_iff_iff, lookD_iff, List.all_eq_true]
  constructor
  · intro h g hg
    obtain ⟨w, hh⟩ := ch.snd g hg
    cases e : hs.all fun h => h.h g with
    | false => rfl
    | true =>
      rw [h g w hh fun h' hh' => List.all_eq_true.mp e h' hh']
      rfl
  · intro h g w hbh hh
    obtain ⟨g', m, eq⟩ := ch.cmp g w hbh
    have q := h g' m
    have e1 : (hs.all fun h => h.h g') = true := List.all_eq_true.mpr fun h' hh' => by
      rw [Fact.h_congr fun v hv' => eq v (hv h' (List.mem_cons_of_mem _ hh') v hv')]
      exact hh h' hh'
    rw [e1, Bool.not_true, Bool.false_or, Fact.h_congr fun v hv' => eq v (hv f List.mem_cons_self v hv')] at q
    exact q
/-! the three kinds whose choices are not all looked at -/
def rowG : List Int → List Int → Pt
  | u :: us, a :: row => fun v => if v = u then a else rowG us row v
  | _, _ => fun _ => 0
theorem rowG_map : ∀ {us row : List Int}, us.Nodup → row.length = us.length → us.map (rowG us row) = row
  | [], [], _, _ => rfl
  | u :: us, a :: row, nd, hl => by
    rw [List.nodup_cons] at nd
    have ih := rowG_map (us := us) (row := row) nd.2 (by simpa using hl)
    rw [List.map_cons]
    have e1 : rowG (u :: us) (a :: row) u = a := by
      show (if u = u then a else _) = a
      rw [if_pos rfl]
    have e2 : us.map (rowG (u :: us) (a :: row)) = us.map (rowG us row) := List.map_congr_left fun v hv => by
      show (if v = u then a else rowG us row v) = _
      rw [if_neg (show ¬ v = u from fun e => nd.1 (e ▸ hv))]
    rw [e1, e2, ih]
  | [], _ :: _, _, hl => by simp at hl
  | _ :: _, [], _, hl => by simp at hl
def inRow (D : Dm) (us row : List Int) : Bool := (us.zip row).all fun z => decide (z.2 ∈ D z.1)
theorem table_ok {us : List Int} {rows : List (List Int)} {D : Dm} (nd : us.Nodup) (hl : ∀ r ∈ rows, r.length = us.length) : ChOk us D (.table us rows) ((rows.filter fun r => inRow D us r).map (rowG us)) := by
  refine ⟨fun g hg => ?_, fun g w hh => ?_⟩
  · obtain ⟨r, hr, rfl⟩ := List.mem_map.mp hg
    obtain ⟨h1, h2⟩ := List.mem_filter.mp hr
    have e := rowG_map nd (hl r h1)
    refine ⟨fun v hv => ?_, ?_⟩
    · obtain ⟨i, hi, rfl⟩ := List.getElem_of_mem hv
      have hlr := hl r h1
      have q := List.all_eq_true.mp h2 (us[i], r[i]) (by
        refine List.mem_of_getElem? (i := i) ?_
        rw [List.getElem?_zip_eq_some]
        exact ⟨List.getElem?_eq_getElem hi, List.getElem?_eq_getElem (by omega)⟩)
      rw [decide_eq_true_eq] at q
      have e2 : rowG us r us[i] = r[i] := by
        have := congrArg (fun l : List Int => l[i]?) e
        simp only [List.getElem?_map, List.getElem?_eq_getElem hi, List.getElem?_eq_getElem (show i < r.length by omega), Option.map_some] at this
        exact Option.some.inj this
      rw [e2]
      exact q
    · show decide (us.map (rowG us r) ∈ rows) = true
      rw [e, decide_eq_true_eq]
      exact h1
  · have hm : us.map g ∈ rows := of_decide_eq_true hh
    refine ⟨rowG us (us.map g), List.mem_map.mpr ⟨us.map g, List.mem_filter.mpr ⟨hm, ?_⟩, rfl⟩, fun v hv => ?_⟩
    · unfold inRow
      rw [List.all_eq_true]
      intro z hz
      obtain ⟨i, hi⟩ := List.getElem?_of_mem hz
      rw [List.getElem?_zip_eq_some] at hi
      obtain ⟨h1, h2⟩ := hi
      rw [List.getElem?_map, h1] at h2
      have h2 : g z.1 = z.2 := Option.some.inj h2
      rw [decide_eq_true_eq, ← h2]
      exact w _ (List.mem_of_getElem? h1)
    · obtain ⟨i, hi, rfl⟩ := List.getElem_of_mem hv
      have e := rowG_map (row := us.map g) nd (by simp)
      have := congrArg (fun l : List Int => l[i]?) e
      simp only [List.getElem?_map, List.getElem?_eq_getElem hi, Option.map_some] at this
      exact Option.some.inj this
/-- the choice with the value for z, or none -/
def withR (I : List Int) (D : Dm) (z : Int) (w : Int) (g : Pt) : Option Pt := if z ∈ I then (if g z = w then some g else none) else (if w ∈ D z then some (updG g z w) else none)
def resG (I : List Int) (D : Dm) (z : Int) (wf : Pt → Option Int) (gs : List Pt) : List Pt := gs.filterMap fun g => (wf g).bind fun w => withR I D z w g
theorem res_ok {I U : List Int} {D : Dm} {b : Body} {z : Int} {wf : Pt → Option Int} {gs : List Pt} (ch : ChAll I D gs) (hU : ∀ v, v ∈ U ↔ v ∈ I ∨ v = z) (wc : ∀ g g', (∀ v ∈ I, g v = g' v) → wf g = wf g') (bh : ∀ g, b.h g = true ↔ wf g = some (g z)) (hb : ∀ v ∈ b.vars, v ∈ U) : ChOk U D b (resG I D z wf gs) := by
  refine ⟨fun g hg => ?_, fun g w hh => ?_⟩
  · unfold resG at hg
    obtain ⟨g0, h0, h1⟩ := List.mem_filterMap.mp hg
    obtain ⟨w, h2, h3⟩ := Option.bind_eq_some_iff.mp h1
    have s := ch.snd g0 h0
    unfold withR at h3
    split at h3
    · rename_i hz
      split at h3
      · rename_i ew
        have e9 : g0 = g := Option.some.inj h3
        rw [← e9]
        refine ⟨fun v hv => ?_, (bh g0).mpr (by rw [h2, ew])⟩
        rcases (hU v).mp hv with h | h
        · exact s v h
        · rw [h]
          exact s z hz
      · cases h3
    · rename_i hz
      split at h3
      · rename_i hw
        have e9 : updG g0 z w = g := Option.some.inj h3
        rw [← e9]
        have e1 : ∀ v ∈ I, updG g0 z w v = g0 v := fun v hv => by
          unfold updG
          rw [if_neg (show ¬ v = z from fun e => hz (e ▸ hv))]
        have e2 : updG g0 z w z = w := by
          unfold updG
          rw [if_pos rfl]
        refine ⟨fun v hv => ?_, (bh _).mpr ?_⟩
        · rcases (hU v).mp hv with h | h
          · rw [e1 v h]
            exact s v h
          · rw [h, e2]
            exact hw
        · rw [e2, wc _ g0 e1, h2]
      · cases h3
  · have wI : Within I D g := fun v hv => w v ((hU v).mpr (.inl hv))
    have hw := (bh g).mp hh
    obtain ⟨g0, h0, h1⟩ := ch.cmp g wI
    have hw0 : wf g0 = some (g z) := by rw [wc g0 g h1]; exact hw
    by_cases hz : z ∈ I
    · refine ⟨g0, List.mem_filterMap.mpr ⟨g0, h0, ?_⟩, fun v hv => ?_⟩
      · rw [hw0]
        show withR I D z (g z) g0 = some g0
        unfold withR
        rw [if_pos hz, if_pos (h1 z hz)]
      · rcases (hU v).mp hv with h | h
        · exact h1 v h
        · rw [h]
          exact h1 z hz
    · refine ⟨updG g0 z (g z), List.mem_filterMap.mpr ⟨g0, h0, ?_⟩, fun v hv => ?_⟩
      · rw [hw0]
        show withR I D z (g z) g0 = _
        unfold withR
        rw [if_neg hz, if_pos (w z ((hU z).mpr (.inr rfl)))]
      · unfold updG
        split
        · rename_i e
          rw [e]
        · rename_i e
          rcases (hU v).mp hv with h | h
          · exact h1 v h
          · exact absurd h e
def wfE (x : Int) (es : List Int) : Pt → Option Int := fun g => if 0 ≤ g x ∧ g x < es.length then some (es.getD (g x).toNat 0) else none
def wfT (x y : Int) : Pt → Option Int := fun g => some (g x * g y)
theorem elem_h (x : Int) (es : List Int) (y : Int) (g : Pt) : (Body.elem x es y).h g = true ↔ wfE x es g = some (g y) := by
  show (decide (0 ≤ g x) && (decide (g x < es.length) && decide (es.getD (g x).toNat 0 = g y))) = true ↔ _
  unfold wfE
  rw [Bool.and_eq_true, Bool.and_eq_true, decide_eq_true_eq, decide_eq_true_eq, decide_eq_true_eq]
  constructor
  · rintro ⟨a, b, c⟩
    rw [if_pos ⟨a, b⟩, c]
  · intro h
    split at h
    · rename_i q
      exact ⟨q.1, q.2, Option.some.inj h⟩
    · cases h
theorem times_h (x y z : Int) (g : Pt) : (Body.times x y z).h g = true ↔ wfT x y g = some (g z) := by
  show decide (g x * g y = g z) = true ↔ _
  unfold wfT
  rw [decide_eq_true_eq]
  exact ⟨fun h => by rw [h], fun h => Option.some.inj h⟩
/-! dicts that stand for points -/
structure ChAt (H : Hp) (p : Addr) (U : List Int) (g : Pt) : Prop where
  ex : ∃ ks, H p = some (.dK (ents ks fun v => .int (g v))) ∧ (∀ v, v ∈ ks ↔ v ∈ U) ∧ ks.length ≤ U.length
structure ChsAt (H : Hp) (refs : List V) (gs : List Pt) (U : List Int) : Prop where
  len : refs.length = gs.length
  at_ : ∀ (i : Nat) g, gs[i]? = some g → ∃ p, refs[i]? = some (.ref p) ∧ ChAt H p U g
section
variable {K : PySem.W.Frag} {H H' : Hp} {p a : Addr} {U : List Int} {g : Pt} {gs : List Pt} {refs : List V} {S : List Addr}
theorem ChAt.kp (k : Kp S H H') (h : ChAt H p U g) (n : ∀ b ∈ S, ∀ kvs, H b ≠ some (.dK kvs)) : ChAt H' p U g := by
  obtain ⟨ks, e, m⟩ := h.ex
  exact ⟨ks, k.get (fun z => n _ z _ e) e, m⟩
theorem ChAt.kp0 (k : Kp [] H H') (h : ChAt H p U g) : ChAt H' p U g := h.kp k fun _ z => nomatch z
theorem ChsAt.kp (k : Kp S H H') (h : ChsAt H refs gs U) (n : ∀ b ∈ S, ∀ kvs, H b ≠ some (.dK kvs)) : ChsAt H' refs gs U := ⟨h.len, fun i g hg => by
  obtain ⟨p, e, c⟩ := h.at_ i g hg
  exact ⟨p, e, c.kp k n⟩⟩
theorem ChsAt.kp0 (k : Kp [] H H') (h : ChsAt H refs gs U) : ChsAt H' refs gs U := h.kp k fun _ z => nomatch z
theorem ChsAt.kpL {l : Addr} {xs : List V} (k : Kp [l] H H') (e : H l = some (.lst xs)) (h : ChsAt H refs gs U) : ChsAt H' refs gs U := h.kp k fun b hb kvs z => by
  rw [List.mem_singleton] at hb
  rw [hb, e] at z
  cases z
theorem ChsAt.nil : ChsAt H [] [] U := ⟨rfl, fun i g h => by simp at h⟩
theorem ChsAt.snoc (h : ChsAt H refs gs U) (c : ChAt H p U g) : ChsAt H (refs ++ [.ref p]) (gs ++ [g]) U := ⟨by simp [h.len], fun i y hy => by
  rcases Nat.lt_or_ge i gs.length with hi | hi
  · rw [List.getElem?_append_left hi] at hy
    obtain ⟨q, e, r⟩ := h.at_ i y hy
    exact ⟨q, by rw [List.getElem?_append_left (by rw [h.len]; exact hi)]; exact e, r⟩
  · rw [List.getElem?_append_right hi] at hy
    have e0 : i - gs.length = 0 := by
      have := (List.getElem?_eq_some_iff.mp hy).1
      simp at this
      omega
    rw [e0] at hy
    simp at hy
    subst hy
    refine ⟨p, ?_, c⟩
    rw [List.getElem?_append_right (by rw [h.len]; exact hi), h.len, e0]
    rfl⟩
theorem ChsAt.get {i : Nat} {x : V} (h : ChsAt H refs gs U) (hx : refs[i]? = some x) : ∃ g p, gs[i]? = some g ∧ x = .ref p ∧ ChAt H p U g := by
  have hi : i < gs.length := by rw [← h.len]; exact (List.getElem?_eq_some_iff.mp hx).1
  obtain ⟨p, e, c⟩ := h.at_ i _ (List.getElem?_eq_getElem hi)
  rw [hx] at e
  cases e
  exact ⟨_, p, List.getElem?_eq_getElem hi, rfl, c⟩
theorem ChAt.pt (h : ChAt H p U g) : PtAt K H p g (fun v => v ∈ U) := fun v hv => by
  obtain ⟨ks, e, m, _⟩ := h.ex
  exact .inr (.inr ⟨_, e, by rw [valV_ents, if_pos ((m v).mpr hv)]⟩)
end
theorem ChAt.conv {H : Hp} {p : Addr} {U U' : List Int} {g : Pt} (h : ChAt H p U g) (nd : U.Nodup) (m : ∀ v, v ∈ U ↔ v ∈ U') : ChAt H p U' g := by
  obtain ⟨ks, e, mk, l⟩ := h.ex
  exact ⟨ks, e, fun v => (mk v).trans (m v), Nat.le_trans l (nodup_le nd fun v hv => (m v).mp hv)⟩
theorem ChsAt.conv {H : Hp} {refs : List V} {gs : List Pt} {U U' : List Int} (h : ChsAt H refs gs U) (nd : U.Nodup) (m : ∀ v, v ∈ U ↔ v ∈ U') : ChsAt H refs gs U' := ⟨h.len, fun i g hg => by
  obtain ⟨p, e, c⟩ := h.at_ i g hg
  exact ⟨p, e, c.conv nd m⟩⟩
theorem canon_nodup (n : Nat) (vs : List Int) : (canon n vs).Nodup := ((upTo_asc n).filter _).imp fun h => by omega
theorem mem_canon {n : Nat} {vs : List Int} (h : ∀ v ∈ vs, 0 ≤ v ∧ v < n) (v : Int) : v ∈ canon n vs ↔ v ∈ vs := by
  unfold canon
  rw [List.mem_filter, mem_upTo, decide_eq_true_eq]
  exact ⟨fun q => q.2, fun q => ⟨h v q, q⟩⟩
theorem canon_len (n : Nat) (vs : List Int) : (canon n vs).length ≤ n := by
  unfold canon
  refine Nat.le_trans (List.length_filter_le _ _) ?_
  simp [upTo]
theorem ents_upd (ks : List Int) (g : Pt) (v a : Int) : ents ks (fun u => if u = v then V.int a else V.int (g u)) = ents ks fun u => V.int (updG g v a u) := by
  congr 1
  funext u
  unfold updG
  split <;> rfl
def rDictD : List V → Hp → VK → Prop := fun xs H Q => ∃ (a : Addr) (kvs : List (Key × V)), xs = [.ref a] ∧ Rd H a (.dK kvs) ∧ ∀ p, H p = none → Q (.ref p) (upd H p (.dK kvs))
theorem cg_dictD {X : Cx} : CallR X (.type "dict") rDictD := call_dictD
theorem r_dictD {H : Hp} {Q : VK} {a : Addr} {kvs : List (Key × V)} (h : H a = some (.dK kvs)) (q : ∀ p H2, H p = none → H2 p = some (.dK kvs) → Kp [] H H2 → Q (.ref p) H2) : rDictD [.ref a] H Q := ⟨a, kvs, rfl, .inl h, fun p hp => q p _ hp upd_same (Kp.new hp)⟩
instance s_notNI {i : Int} {H : Hp} {Q : VK} : Stp (rNotNo (.int i) .non H Q) (Q (.bl true) H) := ⟨fun h => ⟨rfl, by rw [decide_eq_false (fun e => by cases e)]; exact h⟩⟩
instance s_isNI {i : Int} {H : Hp} {Q : VK} : Stp (rIsNo (.int i) .non H Q) (Q (.bl false) H) := ⟨fun h => ⟨rfl, by rw [decide_eq_false (fun e => by cases e)]; exact h⟩⟩
theorem piZipA {X : Cx} (K : PySem.W.Frag) {e e2 : Expr} {ta : TA} {p pos tpos : Pos} {elts : List Expr} {kk : Nat} (hg : Gl X "zip") (hm : X.mg "zip" = none) (ha : PA X [e, e2] ta) (h : X.K = K := by rfl)
    (hs : starEach [e, e2] X.env = (false, eval e X.env) :: starEach [e2] X.env := by rfl) (hpl : (backTo pos (starEach [e2] X.env)).any (·.1) = false := by rfl) : PI X (.Tuple elts kk tpos) (.Call (.Name "zip" p) [e, e2] [] pos) (RZ.iZipA K ta) := h ▸ RZ.pi_zipA hg hm ha hs hpl
def zipS (K : PySem.W.Frag) (vs : List V) (H : Hp) (R : It → Hp → Prop) : Prop := ∃ a b xs ys, vs = [.ref a, .ref b] ∧ ((SqL K H a xs ∧ SqL K H b ys ∧ R (Itz K a b) H) ∨ (SqT K H a xs ∧ SqT K H b ys ∧ R (RZ.ItzT K a b) H))
instance s_zipA {K : PySem.W.Frag} {ta : TA} {σ : St} {H : Hp} {R : It → Hp → Prop} : Stp (RZ.iZipA K ta σ H R) (ta σ H fun vs H1 => zipS K vs H1 R) := ⟨id⟩
theorem r_zipT {K : PySem.W.Frag} {H : Hp} {R : It → Hp → Prop} {a b : Addr} {xs ys : List V} (h1 : SqT K H a xs) (h2 : SqT K H b ys) (q : R (RZ.ItzT K a b) H) : zipS K [.ref a, .ref b] H R := ⟨a, b, xs, ys, rfl, .inr ⟨h1, h2, q⟩⟩
theorem walk_zipT {K : PySem.W.Frag} {a b : Addr} {xs ys : List V} (hn : xs.length = ys.length) : Walk (RZ.ItzT K a b) xs.length (fun H => SqT K H a xs ∧ SqT K H b ys) (YPair (fun i => xs[i]?) (fun i => ys[i]?)) := by
  refine ⟨fun i _ hi q => ⟨xs, ys, xs[i], ys[i]'(by omega), q.1, q.2, by simp [hi], by simp [show i < ys.length by omega]⟩, fun _ q => ⟨xs, ys, q.1, q.2, .inl (Nat.le_refl _)⟩, fun i H v H' _ q y => ?_⟩
  obtain ⟨T, x, z, h1, h2, h3, h4, h5⟩ := y
  exact ⟨T, x, z, h1, h2, h3, h4 xs q.1, h5 ys q.2⟩
theorem ChOk.conv {U U' : List Int} {D : Dm} {b : Body} {gs : List Pt} (h : ChOk U D b gs) (m : ∀ v, v ∈ U ↔ v ∈ U') : ChOk U' D b gs :=
  ⟨fun g hg => ⟨fun v hv => (h.snd g hg).1 v ((m v).mpr hv), (h.snd g hg).2⟩, fun g w hh => by
    obtain ⟨g', h1, h2⟩ := h.cmp g (fun v hv => w v ((m v).mp hv)) hh
    exact ⟨g', h1, fun v hv => h2 v ((m v).mpr hv)⟩⟩
def isTab : Body → Prop
  | .table _ _ => True
  | _ => False
def isRes : Body → Prop
  | .elem _ _ _ => True
  | .times _ _ _ => True
  | _ => False
def resI (m : Nat) : Body → List Int
  | .elem x _ _ => [x]
  | .times x y _ => canon m [x, y]
  | _ => []
def resZ : Body → Int
  | .elem _ _ y => y
  | .times _ _ z => z
  | _ => 0
def resW : Body → Pt → Option Int
  | .elem x es _ => wfE x es
  | .times x y _ => wfT x y
  | _ => fun _ => none
theorem res_facts {m : Nat} {b : Body} {D : Dm} (hP : isRes b) (fit : b.fit m) (ok : DomOk (canon m b.vars) D) (cost : costB m b D ≤ 400) : (resI m b).Nodup ∧ (resI m b).length ≤ 2 ∧ (∀ v, v ∈ canon m b.vars ↔ v ∈ resI m b ∨ v = resZ b) ∧ prodL (resI m b) D ≤ 2001 ∧ (∀ g g' : Pt, (∀ v ∈ resI m b, g v = g' v) → resW b g = resW b g') ∧ ∀ g, b.h g = true ↔ resW b g = some (g (resZ b)) := by
  have mc := mem_canon (Body.fit_vars fit)
  cases b with
  | elem x es y =>
    refine ⟨List.nodup_cons.mpr ⟨by simp, List.nodup_nil⟩, by simp [resI], fun v => ?_, ?_, fun g g' h => ?_, elem_h x es y⟩
    · rw [mc v]
      simp [resI, resZ, Body.vars]
    · have hx : x ∈ canon m (Body.elem x es y).vars := (mc x).mpr (by simp [Body.vars])
      have := (ok x hx).len
      simp [resI, prodL]
      omega
    · have e := h x (by simp [resI])
      show wfE x es g = wfE x es g'
      unfold wfE
      rw [e]
  | times x y z =>
    have fx : ∀ v ∈ [x, y], 0 ≤ v ∧ v < (m : Int) := fun v hv => by
      simp only [List.mem_cons, List.not_mem_nil, or_false] at hv
      rcases hv with rfl | rfl
      · exact fit.1
      · exact fit.2.1
    have mc2 := mem_canon fx
    refine ⟨canon_nodup m _, nodup_le (us := [x, y]) (canon_nodup m _) fun k hk => (mc2 k).mp hk, fun v => ?_, ?_, fun g g' h => ?_, times_h x y z⟩
    · rw [mc v]
      show _ ↔ v ∈ canon m [x, y] ∨ v = z
      rw [mc2 v]
      simp only [Body.vars, List.mem_cons, List.not_mem_nil, or_false]
      exact ⟨fun h => h.elim (fun h => .inl (.inl h)) fun h => h.elim (fun h => .inl (.inr h)) .inr, fun h => h.elim (fun h => h.elim .inl fun h => .inr (.inl h)) fun h => .inr (.inr h)⟩
    · have : costB m (.times x y z) D = prodL (canon m [x, y]) D := rfl
      show prodL (canon m [x, y]) D ≤ 2001
      omega
    · show wfT x y g = wfT x y g'
      unfold wfT
      rw [h x ((mc2 x).mpr (by simp)), h y ((mc2 y).mpr (by simp))]
  | _ => exact hP.elim
def wV : Option Int → V
  | none => .non
  | some w => .int w
theorem plain_open {K : PySem.W.Frag} {H : Hp} {p : Addr} {b : Body} {m : Nat} {D : Dm} (hb : BodyAt K H p b) : (isTab b ∨ isRes b) ∨ (costB m b D = prodL (canon m b.vars) D ∧ ∃ s xs, SqT K H p (.str s :: xs) ∧ (s = Str.ofString "row" ∨ s = Str.ofString "any" ∨ s = Str.ofString "when" ∨ s = Str.ofString "different")) := by
  cases b with
  | row ts r n =>
    obtain ⟨q1, s0, _⟩ := b_row hb
    exact .inr ⟨rfl, _, _, s0, .inl rfl⟩
  | any ls =>
    obtain ⟨q1, s0, _⟩ := b_any hb
    exact .inr ⟨rfl, _, _, s0, .inr (.inl rfl)⟩
  | when l ts r n =>
    obtain ⟨q1, q2, s0, _⟩ := b_when hb
    exact .inr ⟨rfl, _, _, s0, .inr (.inr (.inl rfl))⟩
  | diff us =>
    obtain ⟨q1, s0, _⟩ := b_diff hb
    exact .inr ⟨rfl, _, _, s0, .inr (.inr (.inr rfl))⟩
  | table us rows => exact .inl (.inl trivial)
  | elem x es y => exact .inl (.inr trivial)
  | times x y z => exact .inl (.inr trivial)
theorem all_takeL {α : Type} {l : List α} {f : α → Bool} {i : Nat} {x : α} (h : l[i]? = some x) : (l.take (i + 1)).all f = ((l.take i).all f && f x) := by
  rw [List.take_add_one, h, List.all_append]
  simp
def spWider (K : PySem.W.Frag) : Sp := fun vs H Q _ => ∃ (lc lv : Addr) (v : Int) (refs : List V) (gs : List Pt) (U xs : List Int), vs = [.ref lc, .int v, .ref lv] ∧ H lc = some (.lst refs) ∧ ChsAt H refs gs U ∧ (∀ g ∈ gs, True) ∧ ¬ v ∈ U ∧ U.length ≤ 60 ∧ H lv = some (.lst (xs.map V.int)) ∧ gs.length * xs.length ≤ 9000 ∧ ∀ (l : Addr) (refs' : List V) H', H l = none → H' l = some (.lst refs') → ChsAt H' refs' (gs.flatMap fun g => xs.map fun a => updG g v a) (U ++ [v]) → Kp [] H H' → Q (.ref l) H'
def spAllCh (K : PySem.W.Frag) : Sp := fun vs H Q _ => ∃ (lu d : Addr) (U ks : List Int) (D : Dm), vs = [.ref lu, .ref d] ∧ H lu = some (.lst (U.map V.int)) ∧ U.Nodup ∧ U.length ≤ 60 ∧ DomAt H d ks D ∧ (∀ v ∈ U, v ∈ ks) ∧ DomOk U D ∧ prodL U D ≤ 2001 ∧ ∀ (l : Addr) (refs : List V) H', H l = none → H' l = some (.lst refs) → ChsAt H' refs (chF U D) U → Kp [] H H' → Q (.ref l) H'
def spWithR (K : PySem.W.Frag) : Sp := fun vs H Q _ => ∃ (p d : Addr) (z w : Int) (I ks : List Int) (D : Dm) (g : Pt), vs = [.ref p, .int z, .int w, .ref d] ∧ ChAt H p I g ∧ I.length ≤ 60 ∧ DomAt H d ks D ∧ z ∈ ks ∧ (withR I D z w g = none → ∀ H', Kp [] H H' → Q .non H') ∧ ∀ g' p' H', withR I D z w g = some g' → ChAt H' p' (if z ∈ I then I else I ++ [z]) g' → Kp [] H H' → Q (.ref p') H'
def spBodyCh (K : PySem.W.Frag) (P : Body → Prop) : Sp := fun vs H Q _ => ∃ (p d : Addr) (b : Body) (m : Nat) (D : Dm), vs = [.ref p, .ref d] ∧ P b ∧ BodyAt K H p b ∧ b.fit m ∧ m ≤ 60 ∧ DomAt H d (canon m b.vars) D ∧ DomOk (canon m b.vars) D ∧ costB m b D ≤ 400 ∧ ∀ (l : Addr) (refs : List V) (gs : List Pt) H', H l = none → H' l = some (.lst refs) → ChsAt H' refs gs (canon m b.vars) → ChOk (canon m b.vars) D b gs → gs.length ≤ 2001 → Kp [] H H' → Q (.ref l) H'
def spCostOf (K : PySem.W.Frag) : Sp := fun vs H Q _ => ∃ (p d : Addr) (b : Body) (m : Nat) (D : Dm), vs = [.ref p, .ref d] ∧ BodyAt K H p b ∧ b.fit m ∧ m ≤ 60 ∧ DomAt H d (canon m b.vars) D ∧ DomOk (canon m b.vars) D ∧ ∀ H', Kp [] H H' → Q (.int (costB m b D)) H'
def spLook (K : PySem.W.Frag) (C : Addr) : Sp := fun vs H Q _ => ∃ (a : MA) (M : Mdl) (pb pf l : Addr) (b : Body) (f : Fact) (refs : List V) (hs : List Fact), vs = [.ref a.p, .ref pb, .ref pf, .ref l] ∧ MdlAt K C H a M ∧ M.us.length ≤ 60 ∧ usOk M.us ∧ BodyAt K H pb b ∧ b.fit M.us.length ∧ FactAt K H pf f ∧ f.ok M.us.length ∧ H l = some (.lst refs) ∧ ImAll K H refs (hs.map Fact.d) ∧ (∀ h ∈ hs, h.ok M.us.length) ∧ hs.length ≤ 60 ∧ ∀ H', Kp [] H H' → Q (.bl (lookB M.us b f hs)) H'

section
variable {P : Program} {w : World} {K : PySem.W.Frag} {mg : Str → Option Value} {base : Heap} {C_Model : Addr}
theorem ok_wider {f : Addr} {fd : FuncData} (F : Fun K "wider" "wider" s_wider f fd) (B : Bi K mg)  : FnOk P w K mg base CX0 1 f fd ["choices", "v", "values"] (spWider K) := by
  have nd := sc_wider.nd
  refine F.ok sc_wider ?len (fun cdv A outer s H vs Q E hr h => ?body)
  case len =>
    rintro vs H Q E ⟨lc, lv, v, refs, gs, U, xs, rfl, _⟩
    rfl
  case body =>
    obtain ⟨lc, lv, v, refs, gs, U, xs, rfl, hlc, hC, _, hv, u60, hlv, sz, k⟩ := h
    refine ⟨_, (pss_cons (ps_set (i := 3) nd rfl (Or.inl rfl) (pe_lst pa_nil))
      (pss_cons (ps_for PassesOwn.never rfl ((piLst K) (pv 0)) (pg_name (i := 4) nd rfl (Or.inl rfl))
      (pss_one (ps_for PassesOwn.never rfl ((piLst K) (pv 2)) (pg_name (i := 5) nd rfl (Or.inl rfl))
      (pss_cons (ps_set (i := 6) nd rfl (Or.inl rfl) (pe_callTy cg_dictD (by rfl) B.n_dict (by decide +kernel) (pa_cons (pv 4) pa_nil)))
      (pss_cons (ps_dput (hu_of hr) (pv 6) (pv 1) (pv 5) rfl)
      (pss_one (ps_expr (pe_bm PySem.F.plainAttrs_list PySem.F.slot_list_append PySem.F.type_list_append mt_append (pv 3) (pa_cons (pv 6) pa_nil)))))))))
      (pss_one (ps_ret (pv 3))))), ?_⟩
    try dsimp only [L2.cxOf, L2.Cx.nox, L2.Cx.wish]
    rw [st_wider]
    have gl := hC.len
    walk_at "cg"
    rename_i l H1 hl el k1
    have bs : Kp [l] H1 H1 := Kp.base fun b hb => by rw [List.mem_singleton] at hb; rw [hb, el]; trivial
    have nlc : lc ≠ l := ne_newL hl hlc
    have nlv : lv ≠ l := ne_newL hl hlv
    have fm : ∀ (gs : List Pt), (gs.flatMap fun g => xs.map fun a => updG g v a).length = gs.length * xs.length := fun gs => by
      induction gs with
      | nil => simp
      | cons g gs ih => rw [List.flatMap_cons, List.length_append, ih, List.length_map, List.length_cons, Nat.succ_mul, Nat.add_comm]
    refine r_forL refs (fun i σ' H' => ∃ (r2 : List V) (x4 x5 x6 : Option V), σ' = [some (.ref lc), some (.int v), some (.ref lv), some (.ref l), x4, x5, x6] ∧ H' l = some (.lst r2) ∧ ChsAt H' r2 ((gs.take i).flatMap fun g => xs.map fun a => updG g v a) (U ++ [v]) ∧ Kp [l] H1 H') ⟨[], _, _, _, rfl, el, .nil, bs⟩ (fun i σ' H' ⟨_, _, _, _, _, _, _, kk⟩ => kk.get1 nlc (k1.get0 hlc)) ?_ ?_
    · rintro i x σ' H2 hx ⟨r2, x4, x5, x6, rfl, e2, C2, kk⟩
      have K2 : Kp [] H H2 := Kp.trN kk k1 hl
      obtain ⟨g, p, hg, rfl, cp⟩ := (hC.kp0 K2).get hx
      have hi : i < gs.length := (List.getElem?_eq_some_iff.mp hg).1
      walk_at "cg"
      refine r_forL (xs.map V.int) (fun j σ' H' => ∃ (r3 : List V) (x5 x6 : Option V), σ' = [some (.ref lc), some (.int v), some (.ref lv), some (.ref l), some (.ref p), x5, x6] ∧ H' l = some (.lst r3) ∧ ChsAt H' r3 (((gs.take i).flatMap fun g => xs.map fun a => updG g v a) ++ (xs.take j).map fun a => updG g v a) (U ++ [v]) ∧ Kp [l] H2 H') ⟨r2, _, _, rfl, e2, by simpa using C2, Kp.base fun b hb => by rw [List.mem_singleton] at hb; rw [hb, e2]; trivial⟩ (fun i σ' H' ⟨_, _, _, _, _, _, k3⟩ => k3.get1 nlv (K2.get0 hlv)) ?_ ?_
      · rintro j y σ' H3 hy ⟨r3, x5, x6, rfl, e3, C3, k3⟩
        obtain ⟨a, ha, rfl⟩ : ∃ a, xs[j]? = some a ∧ y = .int a := by
          rw [List.getElem?_map] at hy
          obtain ⟨a, h1, h2⟩ := Option.map_eq_some_iff.mp hy
          exact ⟨a, h1, h2.symm⟩
        have hj : j < xs.length := (List.getElem?_eq_some_iff.mp ha).1
        have r3l : r3.length ≤ 9000 := by
          have h1 := C3.len
          rw [List.length_append, fm, List.length_take, List.length_map, List.length_take] at h1
          have h2 : (i + 1) * xs.length ≤ gs.length * xs.length := Nat.mul_le_mul_right _ (by omega)
          rw [Nat.succ_mul] at h2
          rw [Nat.min_eq_left (by omega), Nat.min_eq_left (by omega)] at h1
          omega
        obtain ⟨ks, ek, mk, lk⟩ := (cp.kp k3 (fun b hb kvs z => by rw [List.mem_singleton] at hb; rw [hb, e2] at z; cases z)).ex
        walk_at "cg"
        refine r_dictD ek fun q H4 hq eq k4 => ?_
        walk_at "cg"
        have hvk : ¬ v ∈ ks := fun h => hv ((mk v).mp h)
        refine r_putE eq (by omega) fun H5 e5 k5 => ?_
        have K5 : Kp [] H3 H5 := Kp.trN k5 k4 hq
        have c5 : ChAt H5 q (U ++ [v]) (updG g v a) := ⟨ks ++ [v], by rw [e5, if_neg hvk, ents_upd], fun u => by rw [List.mem_append, List.mem_append, mk u], by rw [List.length_append, List.length_append]; omega⟩
        have e35 := K5.get0 e3
        have C5 := C3.kp0 K5
        have nql : q ≠ l := ne_newR hq e3
        clear k4 k5 eq e5 ek
        walk_at "cg"
        refine r_app e35 (small1e4 (by omega)) fun H6 e6 k6 => ?_
        walk_at "cg"
        refine ⟨_, _, _, rfl, e6, ?_, Kp.tr1 k6 (Kp.tr0 K5 k3)⟩
        have et : (xs.take (j + 1)).map (fun a => updG g v a) = (xs.take j).map (fun a => updG g v a) ++ [updG g v a] := by
          rw [map_take_snoc ha]
        rw [et, ← List.append_assoc]
        refine ((C5.kpL k6 e35).snoc (c5.kp k6 fun b hb kvs z => ?_))
        rw [List.mem_singleton] at hb
        rw [hb, e35] at z
        cases z
      · rintro σ' H3 ⟨r3, x5, x6, rfl, e3, C3, k3⟩
        rw [List.length_map, List.take_length] at C3
        walk_at "cg"
        refine ⟨r3, _, _, _, rfl, e3, ?_, Kp.tr1 k3 kk⟩
        have et : (gs.take (i + 1)).flatMap (fun g => xs.map fun a => updG g v a) = (gs.take i).flatMap (fun g => xs.map fun a => updG g v a) ++ xs.map fun a => updG g v a := by
          rw [List.take_add_one, hg, List.flatMap_append]
          simp
        rw [et]
        exact C3
    · rintro σ' H2 ⟨r2, x4, x5, x6, rfl, e2, C2, kk⟩
      rw [gl, List.take_length] at C2
      walk_at "cg"
      exact k l r2 _ hl e2 C2 (Kp.trN kk k1 hl)
theorem ok_all_choices {f : Addr} {fd : FuncData} (F : Fun K "all_choices" "all_choices" s_all_choices f fd) (B : Bi K mg) (D_wider : Is P w K mg base CX0 1 "wider" ["choices", "v", "values"] (spWider K)) : FnOk P w K mg base CX0 2 f fd ["unknowns", "domains"] (spAllCh K) := by
  have nd := sc_all_choices.nd
  refine F.ok sc_all_choices ?len (fun cdv A outer s H vs Q E hr h => ?body)
  case len =>
    rintro vs H Q E ⟨lu, d, U, ks, D, rfl, _⟩
    rfl
  case body =>
    obtain ⟨lu, d, U, ks, D, rfl, hu, nd9, u60, hD, hk, ok, sz, k⟩ := h
    refine ⟨_, (pss_cons (ps_set (i := 2) nd rfl (Or.inl rfl) (pe_lst (pa_cons pe_dnewK pa_nil)))
      (pss_cons (ps_for PassesOwn.never rfl ((piLst K) (pv 0)) (pg_name (i := 3) nd rfl (Or.inl rfl))
      (pss_one (ps_set (i := 2) nd rfl (Or.inl rfl) (pe_is D_wider (hr.mono (by decide)) rfl pass0 (pa_cons (pv 2) (pa_cons (pv 3) (pa_cons (pe_ix ix_dK (pv 1) (pv 3) (fun _ _ => rfl)) pa_nil)))))))
      (pss_one (ps_ret (pv 2))))), ?_⟩
    try dsimp only [L2.cxOf, L2.Cx.nox, L2.Cx.wish]
    rw [st_all_choices]
    walk_at "cg"
    rename_i p0 H1 hp0 ep0 k1 l0 H2 hl0 el0 k2
    have C2 : ChsAt H2 [.ref p0] (chF (U.take 0) D) (U.take 0) := by
      refine ChsAt.nil.snoc (g := fun _ => 0) (p := p0) ⟨[], k2.get0 ep0, fun v => by simp, Nat.le_refl _⟩
    have K2 := Kp.tr0 k2 k1
    have fl0 : H l0 = none := k1.free0 hl0
    clear k1 k2 ep0 hp0
    refine r_forLI U (fun i σ' H' => ∃ (lc : Addr) (refs : List V) (x3 : Option V), σ' = [some (.ref lu), some (.ref d), some (.ref lc), x3] ∧ H lc = none ∧ H' lc = some (.lst refs) ∧ ChsAt H' refs (chF (U.take i) D) (U.take i) ∧ Kp [] H H') ⟨l0, _, _, rfl, fl0, el0, C2, K2⟩ (fun i σ' H' ⟨_, _, _, _, _, _, _, kk⟩ => kk.get0 hu) ?_ ?_
    · rintro i v σ' H3 hv ⟨lc, refs, x3, rfl, fl, el, C3, kk⟩
      have hvU := List.mem_of_getElem? hv
      have dv := ok v hvU
      have hi : i < U.length := (List.getElem?_eq_some_iff.mp hv).1
      have et : U.take (i + 1) = U.take i ++ [v] := by rw [List.take_add_one, hv]; rfl
      have nv : ¬ v ∈ U.take i := fun hm => by
        obtain ⟨_, ei⟩ := List.getElem?_eq_some_iff.mp hv
        obtain ⟨j, hj⟩ := List.getElem?_of_mem hm
        obtain ⟨hjl, ej⟩ := List.getElem?_eq_some_iff.mp hj
        rw [List.length_take] at hjl
        rw [List.getElem_take] at ej
        exact absurd (ej.trans ei.symm) (List.pairwise_iff_getElem.mp nd9 j i (by omega) hi (by omega))
      have s1 := chF_len U D i
      have s2 := chF_len U D (i + 1)
      have s3 := prodL_mono ok (i + 1)
      have s4 : (chF (U.take (i + 1)) D).length = (chF (U.take i) D).length * (D v).length := by
        rw [et, chF_snoc, chStep_len]
      walk_at "cg"
      refine r_getDom (hD.kp0 kk) (hk v hvU) fun b hb => ?_
      walk_at "cg"
      refine ⟨lc, b, v, refs, _, U.take i, D v, rfl, el, C3, fun _ _ => trivial, nv, by rw [List.length_take]; omega, hb, by omega, fun l r2 H4 hl el4 C4 k4 => ?_⟩
      walk_at "cg"
      refine ⟨l, r2, _, rfl, kk.free0 hl, el4, ?_, Kp.tr0 k4 kk⟩
      rw [et, chF_snoc]
      exact C4
    · rintro σ' H3 ⟨lc, refs, x3, rfl, fl, el, C3, kk⟩
      rw [List.take_length] at C3
      walk_at "cg"
      exact k lc refs _ fl el C3 kk
theorem ok_with_result {f : Addr} {fd : FuncData} (F : Fun K "with_result" "with_result" s_with_result f fd) (B : Bi K mg)  : FnOk P w K mg base CX0 1 f fd ["choice", "z", "worth", "domains"] (spWithR K) := by
  have nd := sc_with_result.nd
  refine F.ok sc_with_result ?len (fun cdv A outer s H vs Q E hr h => ?body)
  case len =>
    rintro vs H Q E ⟨p, d, z, wv, I, ks, D, g, rfl, _⟩
    rfl
  case body =>
    obtain ⟨p, d, z, wv, I, ks, D, g, rfl, hp, i60, hD, hz, k0, k1⟩ := h
    refine ⟨_, (pss_cons (ps_if (pt_cmp (pc_din (hu_of hr) (pv 1) (pv 0)))
      (pss_cons (ps_if (pt_cmpR op_ne (pe_ix ix_dK (pv 0) (pv 1) (fun _ _ => rfl)) (pv 2) (nomark _))
      (pss_one (ps_ret pe_non))
      pss_nil)
      (pss_one (ps_ret (pv 0))))
      pss_nil)
      (pss_cons (ps_if (pt_cmpR (notInS K) (pv 2) (pe_ix ix_dK (pv 3) (pv 1) (fun _ _ => rfl)) rfl)
      (pss_one (ps_ret pe_non))
      pss_nil)
      (pss_cons (ps_set (i := 4) nd rfl (Or.inl rfl) (pe_callTy cg_dictD (by rfl) B.n_dict (by decide +kernel) (pa_cons (pv 0) pa_nil)))
      (pss_cons (ps_dput (hu_of hr) (pv 4) (pv 1) (pv 2) rfl)
      (pss_one (ps_ret (pv 4))))))), ?_⟩
    try dsimp only [L2.cxOf, L2.Cx.nox, L2.Cx.wish]
    rw [st_with_result]
    obtain ⟨js, ej, mj, lj⟩ := hp.ex
    have ez : valV (ents js fun v => V.int (g v)) (Sum.inl z) = if z ∈ I then some (V.int (g z)) else none := by
      rw [valV_ents]
      by_cases h : z ∈ I
      · rw [if_pos h, if_pos ((mj z).mpr h)]
      · rw [if_neg h, if_neg (fun q => h ((mj z).mp q))]
    unfold withR at k0 k1
    by_cases hzI : z ∈ I
    · rw [if_pos hzI] at ez
      simp only [if_pos hzI] at k0 k1
      walk_at "cg"
      refine r_inDk1 (k := Sum.inl z) ej ez ?_
      walk_at "cg"
      refine r_ixDK ej ((mj z).mpr hzI) ?_
      walk_at "cg"
      refine if_S (fun g1 => ?_) (fun g1 => ?_)
      · rw [if_neg g1] at k0
        walk_at "cg"
        exact k0 rfl _ .refl
      · have g1 : g z = wv := by omega
        rw [if_pos g1] at k1
        walk_at "cg"
        exact k1 _ _ _ rfl hp .refl
    · rw [if_neg hzI] at ez
      simp only [if_neg hzI] at k0 k1
      walk_at "cg"
      refine r_inDk0 (k := Sum.inl z) ej ez ?_
      walk_at "cg"
      refine r_getDom hD hz fun b hb => ?_
      walk_at "cg"
      refine r_inL (b := !decide (wv ∈ D z)) hb rfl (flat_ints _) (by rw [inV_ints]; rfl) ?_
      walk_at "cg"
      refine if_NS (fun g1 => ?_) (fun g1 => ?_)
      · rw [if_neg g1] at k0
        walk_at "cg"
        exact k0 rfl _ .refl
      · rw [if_pos g1] at k1
        walk_at "cg"
        refine r_dictD ej fun q H2 hq eq k2 => ?_
        walk_at "cg"
        have hzj : ¬ z ∈ js := fun h => hzI ((mj z).mp h)
        refine r_putE eq (by omega) fun H3 e3 k3 => ?_
        walk_at "cg"
        refine k1 _ q H3 rfl ⟨js ++ [z], by rw [e3, if_neg hzj, ents_upd], fun u => by rw [List.mem_append, List.mem_append, mj u], by rw [List.length_append, List.length_append]; omega⟩ (Kp.trN k3 k2 hq)

end
section
variable {P : Program} {w : World} {K : PySem.W.Frag} {mg : Str → Option Value} {base : Heap} {C_Model : Addr}
theorem ok_table_choices {f : Addr} {fd : FuncData} (F : Fun K "table_choices" "table_choices" s_table_choices f fd) (B : Bi K mg)  : FnOk P w K mg base CX0 1 f fd ["body", "domains"] (spBodyCh K isTab) := by
  have nd := sc_table_choices.nd
  refine F.ok sc_table_choices ?len (fun cdv A outer s H vs Q E hr h => ?body)
  case len =>
    rintro vs H Q E ⟨p, d, b, m, D, rfl, _⟩
    rfl
  case body =>
    obtain ⟨p, d, b, m, D, rfl, hP, hb, fit, m60, hD, ok, _, k⟩ := h
    refine ⟨_, (pss_cons (ps_set (i := 2) nd rfl (Or.inl rfl) (pe_lst pa_nil))
      (pss_cons (ps_for PassesOwn.never rfl (pi_tup (pe_ix (ixT K) (pv 0) pe_int (fun _ _ => rfl))) (pg_name (i := 3) nd rfl (Or.inl rfl))
      (pss_one (ps_if (pt_val (pe_callB (cr_all rfl) (by rfl) B.n_all (by decide +kernel) (pa_cons (by exact pe_lc (own := [("v", 4), ("a", 5)]) (g := (gTup K 2 (gCons (gName 4) (gCons (gName 5) gNil)))) (tt := tYes) rfl nd (piZipA K rfl B.n_zip (pa_cons (pe_ix (ixT K) (pv 0) pe_int (fun _ _ => rfl)) (pa_cons (pv 3) pa_nil))) (blkOk_by (N := ["body", "domains", "found", "row", "v", "a"]) (sc := defScope s_table_choices) (by decide +kernel)) (fun _ _ _ _ _ => (pg_tup (n := 2) rfl (pgs_cons (pg_name (i := 4) nd rfl (Or.inl rfl)) (pgs_cons (pg_name (i := 5) nd rfl (Or.inl rfl)) pgs_nil)))) (fun _ _ _ _ _ => pts_nil) (fun _ _ _ _ _ => (pe_cmpR (inS K) (pv 5) (pe_ix ix_dK (pv 1) (pv 4) (fun _ _ => rfl)) rfl))) pa_nil)))
      (pss_one (ps_expr (pe_bm PySem.F.plainAttrs_list PySem.F.slot_list_append PySem.F.type_list_append mt_append (pv 2) (pa_cons (by exact pe_dc (own := [("v", 4), ("a", 5)]) (g := (gTup K 2 (gCons (gName 4) (gCons (gName 5) gNil)))) (tt := tYes) rfl nd (piZipA K rfl B.n_zip (pa_cons (pe_ix (ixT K) (pv 0) pe_int (fun _ _ => rfl)) (pa_cons (pv 3) pa_nil))) (blkOk_by (N := ["body", "domains", "found", "row", "v", "a"]) (sc := defScope s_table_choices) (by decide +kernel)) (fun _ _ _ _ _ => (pg_tup (n := 2) rfl (pgs_cons (pg_name (i := 4) nd rfl (Or.inl rfl)) (pgs_cons (pg_name (i := 5) nd rfl (Or.inl rfl)) pgs_nil)))) (fun _ _ _ _ _ => pts_nil) (fun _ _ _ _ _ => (pv 4)) (fun _ _ _ _ _ => (pv 5))) pa_nil))))
      pss_nil)))
      (pss_one (ps_ret (pv 2))))), ?_⟩
    try dsimp only [L2.cxOf, L2.Cx.nox, L2.Cx.wish]
    rw [st_table_choices]
    cases b with
    | table us rows =>
      clear hP
      obtain ⟨q1, q2, s0, s1, i2⟩ := b_table hb
      obtain ⟨xs, h1, h2⟩ := i2.open
      have nd9 : us.Nodup := fit.1.2.1
      have rng : ∀ v ∈ us, 0 ≤ v ∧ v < m := fit.1.2.2
      have u6 : us.length ≤ 6 := fit.1.1.2
      have r200 : rows.length ≤ 200 := fit.2.1.2
      have rl : ∀ r ∈ rows, r.length = us.length := fun r hr => (fit.2.2 r hr).1
      have mc : ∀ v, v ∈ us ↔ v ∈ canon m us := fun v => (mem_canon rng v).symm
      walk_at "cg"
      rename_i l H1 hl el k1
      have bs : Kp [l] H1 H1 := Kp.base fun b hb => by rw [List.mem_singleton] at hb; rw [hb, el]; trivial
      refine r_forTI [l] (k1.tup h1) (k1.imAll h2) (fun i σ' H' => ∃ (r2 : List V) (x3 x4 x5 : Option V), σ' = [some (.ref p), some (.ref d), some (.ref l), x3, x4, x5] ∧ H' l = some (.lst r2) ∧ ChsAt H' r2 (((rows.take i).filter fun r => inRow D us r).map (rowG us)) us ∧ Kp [l] H1 H') ⟨[], _, _, _, rfl, el, .nil, bs⟩ (fun i σ' H' ⟨_, _, _, _, _, _, _, h⟩ => h) ?_ ?_
      · clear bs
        rintro i r x σ' H2 hr hx kk ⟨r2, x3, x4, x5, rfl, e2, C2, -⟩
        obtain ⟨pr, rfl⟩ := Im.isRef (show Im K H2 x (.tuple _) from hx)
        have sr := hx.intsT
        have hi : i < rows.length := (List.getElem?_eq_some_iff.mp hr).1
        have lr := rl r (List.mem_of_getElem? hr)
        have K2 : Kp [] H H2 := Kp.trN kk k1 hl
        have sq := K2.tup s1
        have s02 := K2.tup s0
        have D2 := hD.kp0 K2
        have wz := walk_zipT (K := K) (a := q1) (b := pr) (xs := us.map V.int) (ys := r.map V.int) (by rw [List.length_map, List.length_map, lr])
        have lr2 : r2.length ≤ 200 := by
          have h3 := C2.len
          rw [List.length_map] at h3
          have h4 := List.length_filter_le (fun r => inRow D us r) (rows.take i)
          rw [List.length_take] at h4
          omega
        have zipAt : ∀ {j : Nat} {x y : V}, (us.map V.int)[j]? = some x → (r.map V.int)[j]? = some y → ∃ v a, us[j]? = some v ∧ r[j]? = some a ∧ x = .int v ∧ y = .int a := fun {j x y} hx hy => by
          rw [List.getElem?_map] at hx hy
          obtain ⟨v, h3, h4⟩ := Option.map_eq_some_iff.mp hx
          obtain ⟨a, h5, h6⟩ := Option.map_eq_some_iff.mp hy
          exact ⟨v, a, h3, h5, h4.symm, h6.symm⟩
        clear h1 h2 i2 hb K2 s0 s1 hD hx
        walk_at "cg"
        refine r_zipT sq sr ?_
        refine lc_by wz (fun D1 j H' => H2 D1 = none ∧ H' D1 = some (.lst ((((us.zip r).take j).map fun z => decide (z.2 ∈ D z.1)).map V.bl)) ∧ Kp [] H2 H') (fun D1 H3 hD1 e3 k3 => ⟨hD1, e3, k3⟩) (fun D1 j H' h => ⟨h.2.2.tup sq, h.2.2.tup sr⟩) ?_ ?_
        · rintro D1 j x H3 H4 hj ⟨hD1, e3, k3⟩ ⟨T, x, y, rfl, hT, rfl, hx, hy⟩
          obtain ⟨v, a, hv, ha, rfl, rfl⟩ := zipAt hx hy
          have kT : Kp [] H3 (upd H3 T (.tup [.int v, .int a])) := Kp.new hT
          have sT : SqT K (upd H3 T (.tup [.int v, .int a])) T [.int v, .int a] := SqT.of upd_same
          generalize upd H3 T (.tup [.int v, .int a]) = H4 at kT sT
          have hvk := (mc v).mp (List.mem_of_getElem? hv)
          have jl : j < us.length := (List.getElem?_eq_some_iff.mp hv).1
          walk_at "cg"
          refine r_getDom ((D2.kp0 k3).kp0 kT) hvk fun b hb => ?_
          walk_at "cg"
          refine r_inL (b := decide (a ∈ D v)) hb rfl (flat_ints _) (inV_ints _ _) ?_
          refine r_ap (kT.get0 e3) (small1000 (by simp; omega)) fun H5 e5 k5 => ⟨hD1, ?_, Kp.trN k5 (Kp.tr0 kT k3) hD1⟩
          have hz : (us.zip r)[j]? = some (v, a) := by rw [List.getElem?_zip_eq_some]; exact ⟨hv, ha⟩
          rw [e5, map_take_snoc hz, List.map_append]
          rfl
        rintro D1 H3 ⟨hD1, e3, k3⟩
        have ez : (us.zip r).take (us.map V.int).length = us.zip r := List.take_of_length_le (by simp; omega)
        rw [ez] at e3
        walk_at "cg"
        refine r_all e3 ?_
        have er : ((us.zip r).map fun z => decide (z.2 ∈ D z.1)).all id = inRow D us r := by rw [List.all_map]; rfl
        rw [er]
        have efl : ∀ c, inRow D us r = c → (((rows.take (i + 1)).filter fun r => inRow D us r).map (rowG us)) = (((rows.take i).filter fun r => inRow D us r).map (rowG us)) ++ (if c = true then [rowG us r] else []) := fun c hc => by
          rw [List.take_add_one, hr, List.filter_append, List.map_append]
          congr 1
          simp only [Option.toList_some, List.filter_cons, List.filter_nil, hc]
          cases c <;> rfl
        walk_at "cg"
        refine if_B (fun g => ?_) (fun g => ?_)
        · have sq3 := k3.tup sq
          have sr3 := k3.tup sr
          have s03 := k3.tup s02
          have e23 := k3.get0 e2
          have C3 := C2.kp0 k3
          have rm := rowG_map nd9 lr
          clear sq sr s02 e2 C2 D2 hr k1
          walk_at "cg"
          refine r_zipT sq3 sr3 ?_
          refine dc_by wz (fun D4 j H' => H3 D4 = none ∧ H' D4 = some (.dK (ents (us.take j) fun v => .int (rowG us r v))) ∧ Kp [] H3 H') (fun D4 H4 hD4 e4 k4 => ⟨hD4, e4, k4⟩) (fun D4 j H' h => ⟨h.2.2.tup sq3, h.2.2.tup sr3⟩) ?_ ?_
          · rintro D4 j x H4 H5 hj ⟨hD4, e4, k4⟩ ⟨T, x, y, rfl, hT, rfl, hx, hy⟩
            obtain ⟨v, a, hv, ha, rfl, rfl⟩ := zipAt hx hy
            have kT : Kp [] H4 (upd H4 T (.tup [.int v, .int a])) := Kp.new hT
            have sT : SqT K (upd H4 T (.tup [.int v, .int a])) T [.int v, .int a] := SqT.of upd_same
            generalize upd H4 T (.tup [.int v, .int a]) = H5 at kT sT
            have jl : j < us.length := (List.getElem?_eq_some_iff.mp hv).1
            have ev : rowG us r v = a := by
              have q := congrArg (fun l : List Int => l[j]?) rm
              simp only [List.getElem?_map, hv, ha, Option.map_some] at q
              exact Option.some.inj q
            have nv : ¬ v ∈ us.take j := fun hm => by
              obtain ⟨_, ei⟩ := List.getElem?_eq_some_iff.mp hv
              obtain ⟨j2, hj2⟩ := List.getElem?_of_mem hm
              obtain ⟨hjl, ej⟩ := List.getElem?_eq_some_iff.mp hj2
              rw [List.length_take] at hjl
              rw [List.getElem_take] at ej
              exact absurd (ej.trans ei.symm) (List.pairwise_iff_getElem.mp nd9 j2 j (by omega) jl (by omega))
            walk_at "cg"
            refine r_pkE (kT.get0 e4) (by rw [List.length_take]; omega) fun H6 e6 k6 => ⟨hD4, ?_, Kp.trN k6 (Kp.tr0 kT k4) hD4⟩
            have et : us.take (j + 1) = us.take j ++ [v] := by rw [List.take_add_one, hv]; rfl
            rw [e6, if_neg nv, et]
            congr 2
            congr 1
            funext u
            by_cases e : u = v
            · rw [if_pos e, e, ev]
            · rw [if_neg e]
          rintro D4 H4 ⟨hD4, e4, k4⟩
          rw [List.length_map, List.take_length] at e4
          have e24 := k4.get0 e23
          walk_at "cg"
          rename_i H5 e5 k5
          refine ⟨_, _, _, _, rfl, e5, ?_, Kp.tr1 k5 (Kp.tr0 k4 (Kp.tr0 k3 kk))⟩
          rw [efl _ g, if_pos rfl]
          refine ((C3.kp0 k4).kpL k5 e24).snoc ⟨us, k5.get1 (fun z => by rw [z, e24] at e4; cases e4) e4, fun v => Iff.rfl, Nat.le_refl _⟩
        · walk_at "cg"
          refine ⟨_, _, _, _, rfl, k3.get0 e2, ?_, Kp.tr0 k3 kk⟩
          rw [efl _ g, if_neg (by decide), List.append_nil]
          exact C2.kp0 k3
      · rintro σ' H2 kk ⟨r2, x3, x4, x5, rfl, e2, C2, -⟩
        rw [List.take_length] at C2
        walk_at "cg"
        exact k l r2 _ _ hl e2 (C2.conv nd9 mc) ((table_ok nd9 rl).conv mc) (by have := List.length_filter_le (fun r => inRow D us r) rows; rw [List.length_map]; omega) (Kp.trN kk k1 hl)
    | _ => exact hP.elim
theorem ok_result_choices {f : Addr} {fd : FuncData} (F : Fun K "result_choices" "result_choices" s_result_choices f fd) (B : Bi K mg) (D_all_choices : Is P w K mg base CX0 2 "all_choices" ["unknowns", "domains"] (spAllCh K)) (D_with_result : Is P w K mg base CX0 1 "with_result" ["choice", "z", "worth", "domains"] (spWithR K)) : FnOk P w K mg base CX0 3 f fd ["body", "domains"] (spBodyCh K isRes) := by
  have nd := sc_result_choices.nd
  refine F.ok sc_result_choices ?len (fun cdv A outer s H vs Q E hr h => ?body)
  case len =>
    rintro vs H Q E ⟨p, d, b, m, D, rfl, _⟩
    rfl
  case body =>
    obtain ⟨p, d, b, m, D, rfl, hP, hb, fit, m60, hD, ok, cost, k⟩ := h
    refine ⟨_, (pss_cons (ps_set (i := 2) nd rfl (Or.inl rfl) (pe_lst pa_nil))
      (Evl.pss_cut (ps_if (pt_cmpR op_eq (pe_ix (ixT K) (pv 0) pe_int (fun _ _ => rfl)) pe_str (nomark _))
      (pss_one (ps_set (i := 3) nd rfl (Or.inl rfl) (pe_lst (pa_cons (pe_ix (ixT K) (pv 0) pe_int (fun _ _ => rfl)) pa_nil))))
      (pss_one (ps_set (i := 3) nd rfl (Or.inl rfl) (pe_callB (cr_sortedSet rfl) (by rfl) B.n_sorted (by decide +kernel) (pa_cons (pe_callTy (cg_setL rfl) (by rfl) B.n_set PyProof.Rows.boot_set (pa_cons (pe_lst (pa_cons (pe_ix (ixT K) (pv 0) pe_int (fun _ _ => rfl)) (pa_cons (pe_ix (ixT K) (pv 0) pe_int (fun _ _ => rfl)) pa_nil))) pa_nil)) pa_nil)))))
      (pss_cons (ps_for PassesOwn.never rfl ((piLst K) (pe_is D_all_choices (hr.mono (by decide)) rfl pass0 (pa_cons (pv 3) (pa_cons (pv 1) pa_nil)))) (pg_name (i := 4) nd rfl (Or.inl rfl))
      (pss_cons (ps_set (i := 5) nd rfl (Or.inl rfl) pe_non)
      (Evl.pss_cut (ps_if (pt_cmpR op_eq (pe_ix (ixT K) (pv 0) pe_int (fun _ _ => rfl)) pe_str (nomark _))
      (pss_one (ps_set (i := 5) nd rfl (Or.inl rfl) (pe_op op_mul (pe_ix ix_dK (pv 4) (pe_ix (ixT K) (pv 0) pe_int (fun _ _ => rfl)) (fun _ _ => rfl)) (pe_ix ix_dK (pv 4) (pe_ix (ixT K) (pv 0) pe_int (fun _ _ => rfl)) (fun _ _ => rfl)))))
      (pss_one (ps_if (pt_chain op_le op_lt pe_int (pe_ix ix_dK (pv 4) (pe_ix (ixT K) (pv 0) pe_int (fun _ _ => rfl)) (fun _ _ => rfl)) (pe_callB (cgLen K) (by rfl) B.n_len PySem.boot_len (pa_cons (pe_ix (ixT K) (pv 0) pe_int (fun _ _ => rfl)) pa_nil)))
      (pss_one (ps_set (i := 5) nd rfl (Or.inl rfl) (pe_ix (ixT K) (pe_ix (ixT K) (pv 0) pe_int (fun _ _ => rfl)) (pe_ix ix_dK (pv 4) (pe_ix (ixT K) (pv 0) pe_int (fun _ _ => rfl)) (fun _ _ => rfl)) (fun _ _ => rfl))))
      pss_nil)))
      (pss_one (ps_if (pt_cmpR cg_notN (pv 5) pe_non (nomark _))
      (pss_cons (ps_set (i := 6) nd rfl (Or.inl rfl) (pe_is D_with_result (hr.mono (by decide)) rfl pass0 (pa_cons (pv 4) (pa_cons (pe_ix (ixT K) (pv 0) pe_int (fun _ _ => rfl)) (pa_cons (pv 5) (pa_cons (pv 1) pa_nil))))))
      (pss_one (ps_if (pt_cmpR cg_notN (pv 6) pe_non (nomark _))
      (pss_one (ps_expr (pe_bm PySem.F.plainAttrs_list PySem.F.slot_list_append PySem.F.type_list_append mt_append (pv 2) (pa_cons (pv 6) pa_nil))))
      pss_nil)))
      pss_nil)))))
      (pss_one (ps_ret (pv 2)))))), ?_⟩
    try dsimp only [L2.cxOf, L2.Cx.nox, L2.Cx.wish]
    rw [st_result_choices]
    obtain ⟨ndI, lI, hU, hpr, wc, bh⟩ := res_facts hP fit ok cost
    have hbv : ∀ v ∈ b.vars, v ∈ canon m b.vars := fun v hv => (mem_canon (Body.fit_vars fit) v).mpr hv
    walk_at "cg"
    rename_i l H1 hl el k1
    refine ⟨fun σ' H' => ∃ (li : Addr), σ' = [some (.ref p), some (.ref d), some (.ref l), some (.ref li), none, none, none] ∧ H' li = some (.lst ((resI m b).map V.int)) ∧ Kp [] H1 H', ?_, ?_⟩
    · have hb1 := k1.im hb
      cases b with
      | elem x es y =>
        obtain ⟨q1, s0, s1⟩ := b_elem hb1
        walk_at "cg"
        exact ⟨_, rfl, by assumption, by assumption⟩
      | times x y z =>
        have s0 := b_times hb1
        walk_at "cg"
        rename_i l2 H2 hl2 el2 k2
        have el2' : H2 l2 = some (.lst (([x, y] : List Int).map V.int)) := el2
        refine r_setS2 el2' (by simp) fun S H3 cS hS eS hcS k3 => ?_
        walk_at "cg"
        have cc := hcS [x, y] fun j hj => hj
        refine r_sortS eS (by simp at cc; omega) fun lk ks H4 hlk elk asc mk k4 => ?_
        have fx : ∀ v ∈ [x, y], 0 ≤ v ∧ v < (m : Int) := fun v hv => by
          simp only [List.mem_cons, List.not_mem_nil, or_false] at hv
          rcases hv with rfl | rfl
          · exact fit.1
          · exact fit.2.1
        have e : ks = canon m [x, y] := canon_eq asc (fun k => by rw [mk k, decide_eq_true_eq]) fx
        subst e
        walk_at "cg"
        exact ⟨_, rfl, elk, Kp.tr0 k4 (Kp.tr0 k3 k2)⟩
      | _ => exact hP.elim
    rintro σ' H2 ⟨li, rfl, eli, k2⟩
    have el2 := k2.get0 el
    have K2 : Kp [] H H2 := Kp.tr0 k2 k1
    have D2 := hD.kp0 K2
    have hb2 := K2.im hb
    have hsub : ∀ v ∈ resI m b, v ∈ canon m b.vars := fun v hv => (hU v).mpr (.inl hv)
    have fl : H l = none := hl
    clear k2 k1 el hl hb
    walk_at "cg"
    refine ⟨li, d, resI m b, canon m b.vars, D, rfl, eli, ndI, by omega, D2, hsub, fun v hv => ok v (hsub v hv), hpr, fun lc refs H3 hlc elc C3 k3 => ?_⟩
    have el3 := k3.get0 el2
    have K3 := Kp.tr0 k3 K2
    have D3 := D2.kp0 k3
    have hb3 := k3.im hb2
    have nlc : lc ≠ l := ne_newR hlc el2
    have gsz : (chF (resI m b) D).length ≤ 2001 := by
      have := chF_len (resI m b) D (resI m b).length
      rw [List.take_length] at this
      omega
    have chA : ChAll (resI m b) D (chF (resI m b) D) := by
      have := chF_all ndI D (resI m b).length
      rw [List.take_length] at this
      exact this
    clear k3 K2 D2 hb2 el2 eli
    generalize chF (resI m b) D = gs at C3 gsz chA
    have bs : Kp [l] H3 H3 := Kp.base fun b hb => by rw [List.mem_singleton] at hb; rw [hb, el3]; trivial
    walk_at "cg"
    refine r_forL refs (fun i σ' H' => ∃ (r2 : List V) (x4 x5 x6 : Option V), σ' = [some (.ref p), some (.ref d), some (.ref l), some (.ref li), x4, x5, x6] ∧ H' l = some (.lst r2) ∧ ChsAt H' r2 (resG (resI m b) D (resZ b) (resW b) (gs.take i)) (canon m b.vars) ∧ Kp [l] H3 H') ⟨[], _, _, _, rfl, el3, .nil, bs⟩ (fun i σ' H' ⟨_, _, _, _, _, _, _, kk⟩ => kk.get1 nlc elc) ?_ ?_
    · clear bs
      rintro i x σ' H4 hx ⟨r2, x4, x5, x6, rfl, e4, C4, kk⟩
      have nod : ∀ b ∈ [l], ∀ kvs, H3 b ≠ some (.dK kvs) := fun b hb kvs z => by
        rw [List.mem_singleton] at hb
        rw [hb, el3] at z
        cases z
      obtain ⟨g, pg, hg, rfl, cp⟩ := (C3.kp kk nod).get hx
      have hi : i < gs.length := (List.getElem?_eq_some_iff.mp hg).1
      have K4 : Kp [] H H4 := Kp.trN kk K3 fl
      have hb4 := kk.im hb3
      have D4 : DomAt H4 d (canon m b.vars) D := hD.kp0 K4
      have wI := chA.snd g (List.mem_of_getElem? hg)
      have r2l : r2.length ≤ 2001 := by
        have h3 := C4.len
        unfold resG at h3
        have h4 := List.length_filterMap_le (fun g => (resW b g).bind fun w => withR (resI m b) D (resZ b) w g) (gs.take i)
        rw [List.length_take] at h4
        omega
      have et : resG (resI m b) D (resZ b) (resW b) (gs.take (i + 1)) = resG (resI m b) D (resZ b) (resW b) (gs.take i) ++ ((resW b g).bind fun w => withR (resI m b) D (resZ b) w g).toList := by
        unfold resG
        rw [fm_take hg]
      clear C3 K3 hb3 D3
      walk_at "cg"
      refine ⟨fun σ' H' => ∃ xw : V, H4 = H' ∧ σ' = [some (.ref p), some (.ref d), some (.ref l), some (.ref li), some (.ref pg), some (xw), x6] ∧ xw = wV (resW b g), ?_, ?_⟩
      · obtain ⟨js, ej, mj, lj⟩ := cp.ex
        cases b with
        | elem x es y =>
          obtain ⟨q1, s0, s1⟩ := b_elem hb4
          have hx := (mj x).mpr (by simp [resI])
          have er : resW (.elem x es y) g = wfE x es g := rfl
          rw [er]
          walk_at "cg"
          refine r_ixDK ej hx ?_
          walk_at "cg"
          refine if_S (fun g1 => ?_) (fun g1 => ?_)
          · walk_at "cg"
            refine if_S (fun g2 => ?_) (fun g2 => ?_)
            · walk_at "cg"
              refine r_ixDK ej hx ?_
              walk_at "cg"
              rw [List.length_map] at g2
              refine r_ixT s1 (atI_ints g1 g2) ?_
              walk_at "cg"
              refine ⟨_, rfl, rfl, ?_⟩
              unfold wfE
              rw [if_pos ⟨g1, g2⟩]
              rfl
            · walk_at "cg"
              refine ⟨_, rfl, rfl, ?_⟩
              unfold wfE
              rw [List.length_map] at g2
              rw [if_neg (fun h => g2 h.2)]
              rfl
          · walk_at "cg"
            refine ⟨_, rfl, rfl, ?_⟩
            unfold wfE
            rw [if_neg (fun h => g1 h.1)]
            rfl
        | times x y z =>
          have s0 := b_times hb4
          have fx : ∀ v ∈ [x, y], 0 ≤ v ∧ v < (m : Int) := fun v hv => by
            simp only [List.mem_cons, List.not_mem_nil, or_false] at hv
            rcases hv with rfl | rfl
            · exact fit.1
            · exact fit.2.1
          have hxI : x ∈ resI m (.times x y z) := (mem_canon fx x).mpr (by simp)
          have hyI : y ∈ resI m (.times x y z) := (mem_canon fx y).mpr (by simp)
          have bx := (ok x (hsub x hxI)).bd _ (wI x hxI)
          have cm : CMul (g x) (g y) := .inl ⟨by omega, by omega⟩
          walk_at "cg"
          refine r_ixDK ej ((mj x).mpr hxI) ?_
          walk_at "cg"
          refine r_ixDK ej ((mj y).mpr hyI) ?_
          walk_at "cg"
          exact ⟨_, rfl, rfl, rfl⟩
        | _ => exact hP.elim
      rintro σ' H' ⟨xw, rfl, rfl, exw⟩
      cases ew : resW b g with
      | none =>
        rw [ew] at et
        obtain rfl : xw = .non := by rw [exw, ew]; rfl
        walk_at "cg"
        refine ⟨r2, _, _, _, rfl, e4, ?_, kk⟩
        rw [et]
        simpa using C4
      | some wv =>
        have hz : ∀ {q : Addr} {xs : List V}, True := trivial
        obtain ⟨sk, x1, x2, s0⟩ : ∃ sk x1 x2, SqT K H4 p [.str sk, x1, x2, .int (resZ b)] := by
          cases b with
          | elem x es y =>
            obtain ⟨q1, s0, s1⟩ := b_elem hb4
            exact ⟨_, _, _, s0⟩
          | times x y z => exact ⟨_, _, _, b_times hb4⟩
          | _ => exact hP.elim
        have hzU : resZ b ∈ canon m b.vars := (hU _).mpr (.inr rfl)
        rw [ew] at et
        obtain rfl : xw = .int wv := by rw [exw, ew]; rfl
        walk_at "cg"
        refine ⟨pg, d, resZ b, wv, resI m b, canon m b.vars, D, g, rfl, cp, by omega, D4, hzU, fun e H5 k5 => ?_, fun g' p' H5 e c5 k5 => ?_⟩
        · walk_at "cg"
          refine ⟨r2, _, _, _, rfl, k5.get0 e4, ?_, Kp.tr0 k5 kk⟩
          rw [et]
          simp only [Option.bind_some, e, Option.toList_none, List.append_nil]
          exact C4.kp0 k5
        · have e5 := k5.get0 e4
          walk_at "cg"
          refine r_app e5 (small1e4 (by omega)) fun H6 e6 k6 => ?_
          walk_at "cg"
          refine ⟨_, _, _, _, rfl, e6, ?_, Kp.tr1 k6 (Kp.tr0 k5 kk)⟩
          rw [et]
          simp only [Option.bind_some, e, Option.toList_some]
          have ndz : (if resZ b ∈ resI m b then resI m b else resI m b ++ [resZ b]).Nodup := by
            split
            · exact ndI
            · rename_i h
              rw [List.nodup_append]
              refine ⟨ndI, by simp, fun a ha c hc e => ?_⟩
              rw [List.mem_singleton] at hc
              rw [e, hc] at ha
              exact h ha
          have mz : ∀ v, v ∈ (if resZ b ∈ resI m b then resI m b else resI m b ++ [resZ b]) ↔ v ∈ canon m b.vars := fun v => by
            rw [hU v]
            split
            · rename_i h
              exact ⟨.inl, fun q => q.elim id fun e => e ▸ h⟩
            · rw [List.mem_append, List.mem_singleton]
          refine ((C4.kp0 k5).kpL k6 e5).snoc ((c5.conv ndz mz).kp k6 fun b hb kvs z => ?_)
          rw [List.mem_singleton] at hb
          rw [hb, e5] at z
          cases z
    · rintro σ' H4 ⟨r2, x4, x5, x6, rfl, e4, C4, kk⟩
      rw [C3.len, List.take_length] at C4
      walk_at "cg"
      exact k l r2 _ _ fl e4 C4 (res_ok chA hU wc bh hbv) (Nat.le_trans (List.length_filterMap_le _ _) gsz) (Kp.trN kk K3 fl)
theorem ok_body_choices {f : Addr} {fd : FuncData} (F : Fun K "body_choices" "body_choices" s_body_choices f fd) (B : Bi K mg) (D_table_choices : Is P w K mg base CX0 1 "table_choices" ["body", "domains"] (spBodyCh K isTab)) (D_result_choices : Is P w K mg base CX0 3 "result_choices" ["body", "domains"] (spBodyCh K isRes)) (D_all_choices : Is P w K mg base CX0 2 "all_choices" ["unknowns", "domains"] (spAllCh K)) (D_body_holds : Is P w K mg base CX0 3 "body_holds" ["body", "point"] (spHolds K)) (D_unknowns_of : Is P w K mg base CX0 1 "unknowns_of" ["body"] (spUnkn K)) : FnOk P w K mg base CX0 4 f fd ["body", "domains"] (spBodyCh K (fun _ => True)) := by
  have nd := sc_body_choices.nd
  refine F.ok sc_body_choices ?len (fun cdv A outer s H vs Q E hr h => ?body)
  case len =>
    rintro vs H Q E ⟨p, d, b, m, D, rfl, _⟩
    rfl
  case body =>
    obtain ⟨p, d, b, m, D, rfl, hP, hb, fit, m60, hD, ok, cost, k⟩ := h
    refine ⟨_, (pss_cons (ps_if (pt_cmpR op_eq (pe_ix (ixT K) (pv 0) pe_int (fun _ _ => rfl)) pe_str (nomark _))
      (pss_one (ps_ret (pe_is D_table_choices (hr.mono (by decide)) rfl pass0 (pa_cons (pv 0) (pa_cons (pv 1) pa_nil)))))
      pss_nil)
      (pss_cons (ps_if (pt_cmpR (inS K) (pe_ix (ixT K) (pv 0) pe_int (fun _ _ => rfl)) (pe_tup (pa_cons pe_str (pa_cons pe_str pa_nil))) rfl)
      (pss_one (ps_ret (pe_is D_result_choices (hr.mono (by decide)) rfl pass0 (pa_cons (pv 0) (pa_cons (pv 1) pa_nil)))))
      pss_nil)
      (pss_one (ps_ret (by exact pe_lc (own := [("choice", 2)]) (g := (gName 2)) rfl nd ((piLst K) (pe_is D_all_choices (hr.mono (by decide)) rfl pass0 (pa_cons (pe_is D_unknowns_of (hr.mono (by decide)) rfl pass0 (pa_cons (pv 0) pa_nil)) (pa_cons (pv 1) pa_nil)))) (blkOk_by (N := ["body", "domains", "choice"]) (sc := defScope s_body_choices) (by decide +kernel)) (fun _ _ _ _ _ => (pg_name (i := 2) nd rfl (Or.inl rfl))) (fun _ _ _ _ _ => pts_one (pt_val (pe_is D_body_holds (hr.mono (by decide)) rfl pass0 (pa_cons (pv 0) (pa_cons (pv 2) pa_nil))))) (fun _ _ _ _ _ => (pv 2))))))), ?_⟩
    try dsimp only [L2.cxOf, L2.Cx.nox, L2.Cx.wish]
    rw [st_body_choices]
    have rng : ∀ v ∈ b.vars, 0 ≤ v ∧ v < m := Body.fit_vars fit
    have mc := mem_canon rng
    rcases plain_open (m := m) (D := D) hb with (h | h) | ⟨hc, s, xs, s0, hs⟩
    · cases b with
      | table us rows =>
        obtain ⟨q1, q2, s0, s1, i2⟩ := b_table hb
        walk_at "cg"
        exact ⟨p, d, .table us rows, m, D, rfl, trivial, hb, fit, m60, hD, ok, cost, k⟩
      | _ => exact h.elim
    · cases b with
      | elem x es y =>
        obtain ⟨q1, s0, s1⟩ := b_elem hb
        walk_at "cg"
        rename_i pT HT hpT sT kT
        exact ⟨p, d, .elem x es y, m, D, rfl, trivial, kT.im hb, fit, m60, hD.kp0 kT, ok, cost, fun l refs gs H' hl el C ch sz kk => k l refs gs H' (kT.free0 hl) el C ch sz (Kp.tr0 kk kT)⟩
      | times x y z =>
        have s0 := b_times hb
        walk_at "cg"
        rename_i pT HT hpT sT kT
        exact ⟨p, d, .times x y z, m, D, rfl, trivial, kT.im hb, fit, m60, hD.kp0 kT, ok, cost, fun l refs gs H' hl el C ch sz kk => k l refs gs H' (kT.free0 hl) el C ch sz (Kp.tr0 kk kT)⟩
      | _ => exact h.elim
    · rw [hc] at cost
      have bd := Body.fit_bd fit
      have cl := canon_len m b.vars
      have chA : ChAll (canon m b.vars) D (chF (canon m b.vars) D) := by
        have := chF_all (canon_nodup m b.vars) D (canon m b.vars).length
        rw [List.take_length] at this
        exact this
      have gsz : (chF (canon m b.vars) D).length ≤ 400 := by
        have := chF_len (canon m b.vars) D (canon m b.vars).length
        rw [List.take_length] at this
        omega
      rcases hs with rfl | rfl | rfl | rfl
      all_goals
        walk_at "cg"
        refine r_ixT s0 atI_0 ?_
        walk_at "cg"
        refine r_ixT s0 atI_0 ?_
        walk_at "cg"
        rename_i pT HT hpT sT kT
        refine ⟨p, b, rfl, kT.im hb, bd, fun lu ns H1 hlu elu asc mem k1' => ?_⟩
        have k1 := Kp.tr0 k1' kT
        clear k1' kT sT
        have e : ns = canon m b.vars := canon_eq asc mem rng
        subst e
        walk_at "cg"
        refine ⟨lu, d, _, canon m b.vars, D, rfl, elu, canon_nodup m _, by omega, hD.kp0 k1, fun v hv => hv, ok, by omega, fun lc refs H2 hlc elc C2 k2 => ?_⟩
        generalize chF (canon m b.vars) D = gs at C2 gsz chA
        have K2 := Kp.tr0 k2 k1
        walk_at "cg"
        refine r_lcL refs (fun D3 i H' => H2 D3 = none ∧ Kp [] H2 H' ∧ ∃ r2, H' D3 = some (.lst r2) ∧ ChsAt H' r2 ((gs.take i).filter fun g => b.h g) (canon m b.vars)) (fun D3 H3 hD3 e3 k3 => ⟨hD3, k3, [], e3, .nil⟩) (fun D3 i H' h => h.2.1.get0 elc) ?_ ?_
        · rintro D3 i x H3 hx ⟨hD3, k3, r2, e3, C3⟩
          obtain ⟨g, pg, hg, rfl, cp⟩ := (C2.kp0 k3).get hx
          have hi : i < gs.length := (List.getElem?_eq_some_iff.mp hg).1
          have wI := chA.snd g (List.mem_of_getElem? hg)
          have r2l : r2.length ≤ 400 := by
            have h3 := C3.len
            have h4 := List.length_filter_le (fun g => b.h g) (gs.take i)
            rw [List.length_take] at h4
            omega
          have et : ∀ c, b.h g = c → ((gs.take (i + 1)).filter fun g => b.h g) = ((gs.take i).filter fun g => b.h g) ++ (if c = true then [g] else []) := fun c hc => by
            rw [List.take_add_one, hg, List.filter_append]
            congr 1
            simp only [Option.toList_some, List.filter_cons, List.filter_nil, hc]
          have b3 : BodyAt K H3 p b := (Kp.tr0 k3 K2).im hb
          walk_at "cg"
          refine ⟨p, pg, b, g, _, rfl, b3, bd, cp.pt, fun v hv => by have := (ok v hv).bd _ (wI v hv); omega, fun v hv => (mc v).mpr hv, fun H4 k4 => ?_⟩
          walk_at "cg"
          cases eh : b.h g
          · walk_at "cg"
            refine ⟨hD3, Kp.tr0 k4 k3, r2, k4.get0 e3, ?_⟩
            rw [et _ eh, if_neg (by decide), List.append_nil]
            exact C3.kp0 k4
          · walk_at "cg"
            have e4 := k4.get0 e3
            refine r_ap e4 (small1000 (by omega)) fun H5 e5 k5 => ⟨hD3, Kp.trN k5 (Kp.tr0 k4 k3) hD3, _, e5, ?_⟩
            rw [et _ eh, if_pos rfl]
            refine ((C3.kp0 k4).kpL k5 e4).snoc ((cp.kp0 k4).kp k5 fun b hb kvs z => ?_)
            rw [List.mem_singleton] at hb
            rw [hb, e4] at z
            cases z
        · rintro D3 H3 ⟨hD3, k3, r2, e3, C3⟩
          rw [C2.len, List.take_length] at C3
          walk_at "cg"
          exact k D3 r2 _ H3 (K2.free0 hD3) e3 C3 (chA.filter fun v hv => (mc v).mpr hv) (Nat.le_trans (List.length_filter_le _ _) (by omega)) (Kp.tr0 k3 K2)

end
section
variable {P : Program} {w : World} {K : PySem.W.Frag} {mg : Str → Option Value} {base : Heap} {C_Model : Addr}
theorem ok_cost_of {f : Addr} {fd : FuncData} (F : Fun K "cost_of" "cost_of" s_cost_of f fd) (B : Bi K mg) (D_unknowns_of : Is P w K mg base CX0 1 "unknowns_of" ["body"] (spUnkn K)) : FnOk P w K mg base CX0 2 f fd ["body", "domains"] (spCostOf K) := by
  have nd := sc_cost_of.nd
  refine F.ok sc_cost_of ?len (fun cdv A outer s H vs Q E hr h => ?body)
  case len =>
    rintro vs H Q E ⟨p, d, b, m, D, rfl, _⟩
    rfl
  case body =>
    obtain ⟨p, d, b, m, D, rfl, hb, fit, m60, hD, ok, k⟩ := h
    refine ⟨_, (pss_cons (ps_set (i := 2) nd rfl (Or.inl rfl) (pe_ix (ixT K) (pv 0) pe_int (fun _ _ => rfl)))
      (pss_cons (ps_if (pt_cmpR (inS K) (pv 2) (pe_tup (pa_cons pe_str (pa_cons pe_str pa_nil))) rfl)
      (pss_one (ps_ret pe_int))
      pss_nil)
      (pss_cons (ps_set (i := 3) nd rfl (Or.inl rfl) (pe_is D_unknowns_of (hr.mono (by decide)) rfl pass0 (pa_cons (pv 0) pa_nil)))
      (pss_cons (ps_if (pt_cmpR op_eq (pv 2) pe_str (nomark _))
      (pss_one (ps_set (i := 3) nd rfl (Or.inl rfl) (pe_callB (cr_sortedSet rfl) (by rfl) B.n_sorted (by decide +kernel) (pa_cons (pe_callTy (cg_setL rfl) (by rfl) B.n_set PyProof.Rows.boot_set (pa_cons (pe_lst (pa_cons (pe_ix (ixT K) (pv 0) pe_int (fun _ _ => rfl)) (pa_cons (pe_ix (ixT K) (pv 0) pe_int (fun _ _ => rfl)) pa_nil))) pa_nil)) pa_nil))))
      pss_nil)
      (pss_cons (ps_set (i := 4) nd rfl (Or.inl rfl) pe_int)
      (pss_cons (ps_for PassesOwn.never rfl ((piLst K) (pv 3)) (pg_name (i := 5) nd rfl (Or.inl rfl))
      (pss_one (ps_aug (i := 4) nd rfl (Or.inl rfl) (pe_callB (cgLen K) (by rfl) B.n_len PySem.boot_len (pa_cons (pe_ix ix_dK (pv 1) (pv 5) (fun _ _ => rfl)) pa_nil)) iop_mul)))
      (pss_one (ps_ret (pv 4))))))))), ?_⟩
    try dsimp only [L2.cxOf, L2.Cx.nox, L2.Cx.wish]
    rw [st_cost_of]
    have rng : ∀ v ∈ b.vars, 0 ≤ v ∧ v < m := Body.fit_vars fit
    have mc := mem_canon rng
    have bd := Body.fit_bd fit
    rcases plain_open (m := m) (D := D) hb with (h | h) | ⟨hc, s, xs, s0, hs⟩
    · cases b with
      | table us rows =>
        obtain ⟨q1, q2, s0, s1, i2⟩ := b_table hb
        walk_at "cg"
        exact k _ (by walk_at "cg kp")
      | _ => exact h.elim
    · cases hbb : b with
      | elem x es y =>
        rw [hbb] at hb
        obtain ⟨q1, s0, s1⟩ := b_elem hb
        rw [hbb] at k
        walk_at "cg"
        exact k _ (by walk_at "cg kp")
      | times x y z =>
        have hb0 := hb
        rw [hbb] at hb0
        have s0 := b_times hb0
        have fx : ∀ v ∈ [x, y], 0 ≤ v ∧ v < (m : Int) := fun v hv => by
          rw [hbb] at fit
          simp only [List.mem_cons, List.not_mem_nil, or_false] at hv
          rcases hv with rfl | rfl
          · exact fit.1
          · exact fit.2.1
        have sub : ∀ v ∈ canon m [x, y], v ∈ canon m b.vars := fun v hv => by
          rw [mc v, hbb]
          have := (mem_canon fx v).mp hv
          simp only [List.mem_cons, List.not_mem_nil, or_false] at this
          rcases this with rfl | rfl <;> simp [Body.vars]
        have ec : costB m b D = prodL (canon m [x, y]) D := by rw [hbb]; rfl
        rw [ec] at k
        walk_at "cg"
        rename_i pT HT hpT sT kT
        refine ⟨p, b, rfl, kT.im hb, bd, fun lu0 ns H1 hlu elu asc mem k1 => ?_⟩
        have K1 := Kp.tr0 k1 kT
        have s01 := K1.tup s0
        clear kT k1 sT elu
        walk_at "cg"
        rename_i l2 H2 hl2 el2 k2
        have el2' : H2 l2 = some (.lst (([x, y] : List Int).map V.int)) := el2
        refine r_setS2 el2' (by simp) fun S H3 cS hS eS hcS k3 => ?_
        walk_at "cg"
        have cc := hcS [x, y] fun j hj => hj
        refine r_sortS eS (by simp at cc; omega) fun lu ks H4 hlk elk asc mk k4 => ?_
        have e : ks = canon m [x, y] := canon_eq asc (fun k => by rw [mk k, decide_eq_true_eq]) fx
        subst e
        have K4 := Kp.tr0 k4 (Kp.tr0 k3 (Kp.tr0 k2 K1))
        clear k2 k3 k4 el2 el2' eS hlk hS
        walk_at "cg"
        refine r_forLI (canon m [x, y]) (fun i σ' H' => ∃ xo : Option V, σ' = [some (.ref p), some (.ref d), some (.str (Str.ofString "times")), some (.ref lu), some (.int (prodL ((canon m [x, y]).take i) D)), xo] ∧ H4 = H') ⟨_, rfl, rfl⟩ (fun i σ' H' ⟨_, _, e⟩ => e ▸ elk) ?_ ?_
        · rintro i v σ' H' hv ⟨xv, rfl, rfl⟩
          have hvm : v ∈ canon m b.vars := sub v (List.mem_of_getElem? hv)
          have dl := (ok v hvm).len
          walk_at "cg"
          refine r_getDom (hD.kp0 K4) hvm fun q hq => ?_
          have cm : CMul (prodL ((canon m [x, y]).take i) D) (((D v).map V.int).length : Int) := .inr ⟨by rw [List.length_map]; omega, by rw [List.length_map]; omega⟩
          walk_at "cg"
          have et : (canon m [x, y]).take (i + 1) = (canon m [x, y]).take i ++ [v] := by rw [List.take_add_one, hv]; rfl
          refine ⟨some (.int v), ?_, rfl⟩
          rw [et, prodL_snoc, List.length_map]
        · rintro σ' H' ⟨xv, rfl, rfl⟩
          rw [List.take_length]
          walk_at "cg"
          exact k _ K4
      | _ => rw [hbb] at h; exact h.elim
    · rw [hc] at k
      rcases hs with rfl | rfl | rfl | rfl
      all_goals
        walk_at "cg"
        refine r_ixT s0 atI_0 ?_
        walk_at "cg"
        rename_i pT HT hpT sT kT
        refine ⟨p, b, rfl, kT.im hb, bd, fun lu ns H1 hlu elu asc mem k1 => ?_⟩
        have e : ns = canon m b.vars := canon_eq asc mem rng
        subst e
        have K1 := Kp.tr0 k1 kT
        walk_at "cg"
        refine r_forLI (canon m b.vars) (fun i σ' H' => ∃ xo : Option V, σ' = [some (.ref p), some (.ref d), some (.str _), some (.ref lu), some (.int (prodL ((canon m b.vars).take i) D)), xo] ∧ H1 = H') ⟨_, rfl, rfl⟩ (fun i σ' H' ⟨_, _, e⟩ => e ▸ elu) ?_ ?_
        · rintro i v σ' H' hv ⟨xv, rfl, rfl⟩
          have hvm : v ∈ canon m b.vars := (fun v h => h) v (List.mem_of_getElem? hv)
          have dl := (ok v hvm).len
          walk_at "cg"
          refine r_getDom (hD.kp0 K1) hvm fun q hq => ?_
          have cm : CMul (prodL ((canon m b.vars).take i) D) (((D v).map V.int).length : Int) := .inr ⟨by rw [List.length_map]; omega, by rw [List.length_map]; omega⟩
          walk_at "cg"
          have et : (canon m b.vars).take (i + 1) = (canon m b.vars).take i ++ [v] := by rw [List.take_add_one, hv]; rfl
          refine ⟨some (.int v), ?_, rfl⟩
          rw [et, prodL_snoc, List.length_map]
        · rintro σ' H' ⟨xv, rfl, rfl⟩
          rw [List.take_length]
          walk_at "cg"
          exact k _ K1
theorem ok_unknowns_of {f : Addr} {fd : FuncData} (F : Fun K "unknowns_of" "unknowns_of" s_unknowns_of f fd) (B : Bi K mg)  : FnOk P w K mg base CX0 1 f fd ["body"] (spUnkn K) := by
  have nd := sc_unknowns_of.nd
  refine F.ok sc_unknowns_of ?len (fun cdv A outer s H vs Q E hr h => ?body)
  case len =>
    rintro vs H Q E ⟨p, b, rfl, _⟩
    rfl
  case body =>
    obtain ⟨p, b, rfl, hb, bd, k⟩ := h
    refine ⟨_, (pss_cons (ps_set (i := 1) nd rfl (Or.inl rfl) (pe_ix (ixT K) (pv 0) pe_int (fun _ _ => rfl)))
      (pss_cons (ps_set (i := 2) nd rfl (Or.inl rfl) (pe_lst pa_nil))
      (pss_cons (ps_if (pt_cmpR op_eq (pv 1) pe_str (nomark _))
      (pss_one (ps_setLc (i := 2) (own := [("v", 3), ("c", 4)]) (g := (gTup K 2 (gCons (gName 3) (gCons (gName 4) gNil)))) (tt := tYes) rfl nd rfl rfl (sw_true rfl rfl rfl (by decide +kernel)) (pi_tup (pe_ix (ixT K) (pv 0) pe_int (fun _ _ => rfl))) (blkOk_by (N := ["body", "kind", "found", "v", "c", "literal"]) (sc := defScope s_unknowns_of) (by decide +kernel)) (fun _ _ _ _ _ => (pg_tup (n := 2) rfl (pgs_cons (pg_name (i := 3) nd rfl (Or.inl rfl)) (pgs_cons (pg_name (i := 4) nd rfl (Or.inl rfl)) pgs_nil)))) (fun _ _ _ _ _ => pts_nil) (fun _ _ _ _ _ => (pv 3))))
      (pss_one (ps_if (pt_cmpR op_eq (pv 1) pe_str (nomark _))
      (pss_one (ps_setLc (i := 2) (own := [("literal", 5)]) (g := (gName 5)) (tt := tYes) rfl nd rfl rfl (sw_true rfl rfl rfl (by decide +kernel)) (pi_tup (pe_ix (ixT K) (pv 0) pe_int (fun _ _ => rfl))) (blkOk_by (N := ["body", "kind", "found", "v", "c", "literal"]) (sc := defScope s_unknowns_of) (by decide +kernel)) (fun _ _ _ _ _ => (pg_name (i := 5) nd rfl (Or.inl rfl))) (fun _ _ _ _ _ => pts_nil) (fun _ _ _ _ _ => (pe_ix (ixT K) (pv 5) pe_int (fun _ _ => rfl)))))
      (pss_one (ps_if (pt_cmpR op_eq (pv 1) pe_str (nomark _))
      (pss_one (ps_set (i := 2) nd rfl (Or.inl rfl) (pe_op (op_catL K) (pe_lst (pa_cons (pe_ix (ixT K) (pe_ix (ixT K) (pv 0) pe_int (fun _ _ => rfl)) pe_int (fun _ _ => rfl)) pa_nil)) (by exact pe_lc (own := [("v", 3), ("c", 4)]) (g := (gTup K 2 (gCons (gName 3) (gCons (gName 4) gNil)))) (tt := tYes) rfl nd (pi_tup (pe_ix (ixT K) (pv 0) pe_int (fun _ _ => rfl))) (blkOk_by (N := ["body", "kind", "found", "v", "c", "literal"]) (sc := defScope s_unknowns_of) (by decide +kernel)) (fun _ _ _ _ _ => (pg_tup (n := 2) rfl (pgs_cons (pg_name (i := 3) nd rfl (Or.inl rfl)) (pgs_cons (pg_name (i := 4) nd rfl (Or.inl rfl)) pgs_nil)))) (fun _ _ _ _ _ => pts_nil) (fun _ _ _ _ _ => (pv 3))))))
      (pss_one (ps_if (pt_cmpR (inS K) (pv 1) (pe_tup (pa_cons pe_str (pa_cons pe_str pa_nil))) rfl)
      (pss_one (ps_set (i := 2) nd rfl (Or.inl rfl) (pe_callTy (cgList K) (by rfl) B.n_list (by decide +kernel) (pa_cons (pe_ix (ixT K) (pv 0) pe_int (fun _ _ => rfl)) pa_nil))))
      (pss_one (ps_if (pt_cmpR op_eq (pv 1) pe_str (nomark _))
      (pss_one (ps_set (i := 2) nd rfl (Or.inl rfl) (pe_lst (pa_cons (pe_ix (ixT K) (pv 0) pe_int (fun _ _ => rfl)) (pa_cons (pe_ix (ixT K) (pv 0) pe_int (fun _ _ => rfl)) pa_nil)))))
      (pss_one (ps_set (i := 2) nd rfl (Or.inl rfl) (pe_lst (pa_cons (pe_ix (ixT K) (pv 0) pe_int (fun _ _ => rfl)) (pa_cons (pe_ix (ixT K) (pv 0) pe_int (fun _ _ => rfl)) (pa_cons (pe_ix (ixT K) (pv 0) pe_int (fun _ _ => rfl)) pa_nil)))))))))))))))
      (pss_one (ps_ret (pe_callB (cr_sortedSet rfl) (by rfl) B.n_sorted (by decide +kernel) (pa_cons (pe_callTy (cg_setL rfl) (by rfl) B.n_set PyProof.Rows.boot_set (pa_cons (pv 2) pa_nil)) pa_nil))))))), ?_⟩
    try dsimp only [L2.cxOf, L2.Cx.nox, L2.Cx.wish]
    rw [st_unknowns_of]
    have few := Body.bd_vars bd
    cases b with
    | row ts r n =>
      obtain ⟨q, s1, i1⟩ := b_row hb
      obtain ⟨xs, s2, i2⟩ := Im.open i1
      walk_at "cg"
      refine lcT_i (xs := xs) (as := ts) (d := tD) (by walk_at "cg h") (by walk_at "cg h") (fun z => z.1) (by have := bd.2; omega) (fun i z x H' R R' hz k2 hx q => ?_) (fun D H' hD eD k2 => ?_)
      · obtain ⟨px, rfl, hs⟩ := term_at hx
        walk_at "cg"
        exact q _ .refl
      · walk_at "cg"
        refine r_setS eD (by show (Body.vars (.row ts r n)).length ≤ _; omega) fun S H3 c hS eS hc k3 => ?_
        walk_at "cg"
        have hc2 : c ≤ (Body.vars (.row ts r n)).length := hc
        refine r_sortS eS (by omega) fun l ns H4 hl el asc mem k4 => ?_
        exact k _ _ _ (by walk_at "cg fr") el asc (fun j => by rw [mem, decide_eq_true_eq]; try exact Iff.rfl) (by walk_at "cg kp")
    | any ls =>
      obtain ⟨q, s1, i1⟩ := b_any hb
      obtain ⟨xs, s2, i2⟩ := Im.open i1
      walk_at "cg"
      refine lcT_i (xs := xs) (as := ls) (d := Lit.d) (by walk_at "cg h") (by walk_at "cg h") (fun z => z.v) (by have : ls.length ≤ 62 := bd; omega) (fun i z x H' R R' hz k2 hx q => ?_) (fun D H' hD eD k2 => ?_)
      · obtain ⟨px, rfl, hs⟩ := lit_at hx
        walk_at "cg"
        exact q _ .refl
      · walk_at "cg"
        refine r_setS eD (by show (Body.vars (.any ls)).length ≤ _; omega) fun S H3 c hS eS hc k3 => ?_
        walk_at "cg"
        have hc2 : c ≤ (Body.vars (.any ls)).length := hc
        refine r_sortS eS (by omega) fun l ns H4 hl el asc mem k4 => ?_
        exact k _ _ _ (by walk_at "cg fr") el asc (fun j => by rw [mem, decide_eq_true_eq]; try exact Iff.rfl) (by walk_at "cg kp")
    | when l ts r n =>
      obtain ⟨q1, q, s1, L, i1⟩ := b_when hb
      obtain ⟨xs, s2, i2⟩ := Im.open i1
      walk_at "cg"
      refine lcT_i (xs := xs) (as := ts) (d := tD) (by walk_at "cg h") (by walk_at "cg h") (fun z => z.1) (by have := bd.2; omega) (fun i z x H' R R' hz k2 hx q => ?_) (fun D H' hD eD k2 => ?_)
      · obtain ⟨px, rfl, hs⟩ := term_at hx
        walk_at "cg"
        exact q _ .refl
      · walk_at "cg"
        refine r_cat (by walk_at "cg h") eD (by simp; have := bd.2; omega) fun D2 H5 hD2 eD2 k5 => ?_
        walk_at "cg"
        refine r_setS (ns := (Body.vars (.when l ts r n))) eD2 (by omega) fun S H3 c hS eS hc k3 => ?_
        walk_at "cg"
        refine r_sortS eS (by omega) fun l ns H4 hl el asc mem k4 => ?_
        exact k _ _ _ (by walk_at "cg fr") el asc (fun j => by rw [mem, decide_eq_true_eq]; try exact Iff.rfl) (by walk_at "cg kp")
    | diff us =>
      obtain ⟨q, s1, s2⟩ := b_diff hb
      walk_at "cg"
      refine r_setS (ns := us) (by assumption) (by have : us.length ≤ 62 := bd; omega) fun S H3 c hS eS hc k3 => ?_
      walk_at "cg"
      refine r_sortS eS (by have : us.length ≤ 62 := bd; omega) fun l ns H4 hl el asc mem k4 => ?_
      exact k _ _ _ (by walk_at "cg fr") el asc (fun j => by rw [mem, decide_eq_true_eq]; try exact Iff.rfl) (by walk_at "cg kp")
    | table us rows =>
      obtain ⟨q, q2, s1, s2, i2⟩ := b_table hb
      walk_at "cg"
      refine r_setS (ns := us) (by assumption) (by have : us.length ≤ 62 := bd.1; omega) fun S H3 c hS eS hc k3 => ?_
      walk_at "cg"
      refine r_sortS eS (by have : us.length ≤ 62 := bd.1; omega) fun l ns H4 hl el asc mem k4 => ?_
      exact k _ _ _ (by walk_at "cg fr") el asc (fun j => by rw [mem, decide_eq_true_eq]; try exact Iff.rfl) (by walk_at "cg kp")
    | elem x es y =>
      obtain ⟨q, s1, s2⟩ := b_elem hb
      walk_at "cg"
      refine r_setS (ns := [x, y]) (by assumption) (by simp) fun S H3 c hS eS hc k3 => ?_
      walk_at "cg"
      refine r_sortS eS (by simp at hc; omega) fun l ns H4 hl el asc mem k4 => ?_
      exact k _ _ _ (by walk_at "cg fr") el asc (fun j => by rw [mem, decide_eq_true_eq]; try exact Iff.rfl) (by walk_at "cg kp")
    | times x y z =>
      have s1 := b_times hb
      walk_at "cg"
      refine r_setS (ns := [x, y, z]) (by assumption) (by simp) fun S H3 c hS eS hc k3 => ?_
      walk_at "cg"
      refine r_sortS eS (by simp at hc; omega) fun l ns H4 hl el asc mem k4 => ?_
      exact k _ _ _ (by walk_at "cg fr") el asc (fun j => by rw [mem, decide_eq_true_eq]; try exact Iff.rfl) (by walk_at "cg kp")

theorem ok_body_holds {f : Addr} {fd : FuncData} (F : Fun K "body_holds" "body_holds" s_body_holds f fd) (B : Bi K mg) (D_relation_holds : Is P w K mg base CX0 1 "relation_holds" ["relation", "left", "right"] spRel) (D_terms_sum : Is P w K mg base CX0 1 "terms_sum" ["terms", "point"] (spSumF K)) (D_literal_holds : Is P w K mg base CX0 2 "literal_holds" ["literal", "worth"] (spLit K)) : FnOk P w K mg base CX0 3 f fd ["body", "point"] (spHolds K) := by
  have nd := sc_body_holds.nd
  refine F.ok sc_body_holds ?len (fun cdv A outer s H vs Q E hr h => ?body)
  case len =>
    rintro vs H Q E ⟨p, q, b, f, dom, rfl, _⟩
    rfl
  case body =>
    obtain ⟨p, q, b, f, dom, rfl, hb, bd, hP, hF, hD, k⟩ := h
    refine ⟨_, (pss_cons (ps_set (i := 2) nd rfl (Or.inl rfl) (pe_ix (ixT K) (pv 0) pe_int (fun _ _ => rfl)))
      (pss_cons (ps_if (pt_cmpR op_eq (pv 2) pe_str (nomark _))
      (pss_one (ps_ret (pe_is D_relation_holds (hr.mono (by decide)) rfl pass0 (pa_cons (pe_ix (ixT K) (pv 0) pe_int (fun _ _ => rfl)) (pa_cons (pe_is D_terms_sum (hr.mono (by decide)) rfl pass0 (pa_cons (pe_ix (ixT K) (pv 0) pe_int (fun _ _ => rfl)) (pa_cons (pv 1) pa_nil))) (pa_cons (pe_ix (ixT K) (pv 0) pe_int (fun _ _ => rfl)) pa_nil))))))
      pss_nil)
      (pss_cons (ps_if (pt_cmpR op_eq (pv 2) pe_str (nomark _))
      (pss_one (ps_ret (pe_callB (cr_any rfl) (by rfl) B.n_any (by decide +kernel) (pa_cons (by exact pe_lc (own := [("literal", 3)]) (g := (gName 3)) (tt := tYes) rfl nd (pi_tup (pe_ix (ixT K) (pv 0) pe_int (fun _ _ => rfl))) (blkOk_by (N := ["body", "point", "kind", "literal", "at", "v"]) (sc := defScope s_body_holds) (by decide +kernel)) (fun _ _ _ _ _ => (pg_name (i := 3) nd rfl (Or.inl rfl))) (fun _ _ _ _ _ => pts_nil) (fun _ _ _ _ _ => (pe_is D_literal_holds (hr.mono (by decide)) rfl pass0 (pa_cons (pv 3) (pa_cons (pe_ix (ixP K) (pv 1) (pe_ix (ixT K) (pv 3) pe_int (fun _ _ => rfl)) (fun _ _ => rfl)) pa_nil))))) pa_nil))))
      pss_nil)
      (pss_cons (ps_if (pt_cmpR op_eq (pv 2) pe_str (nomark _))
      (pss_cons (ps_set (i := 3) nd rfl (Or.inl rfl) (pe_ix (ixT K) (pv 0) pe_int (fun _ _ => rfl)))
      (pss_cons (ps_if (pt_not (pt_val (pe_is D_literal_holds (hr.mono (by decide)) rfl pass0 (pa_cons (pv 3) (pa_cons (pe_ix (ixP K) (pv 1) (pe_ix (ixT K) (pv 3) pe_int (fun _ _ => rfl)) (fun _ _ => rfl)) pa_nil)))))
      (pss_one (ps_ret pe_bl))
      pss_nil)
      (pss_one (ps_ret (pe_is D_relation_holds (hr.mono (by decide)) rfl pass0 (pa_cons (pe_ix (ixT K) (pv 0) pe_int (fun _ _ => rfl)) (pa_cons (pe_is D_terms_sum (hr.mono (by decide)) rfl pass0 (pa_cons (pe_ix (ixT K) (pv 0) pe_int (fun _ _ => rfl)) (pa_cons (pv 1) pa_nil))) (pa_cons (pe_ix (ixT K) (pv 0) pe_int (fun _ _ => rfl)) pa_nil))))))))
      pss_nil)
      (pss_cons (ps_if (pt_cmpR op_eq (pv 2) pe_str (nomark _))
      (pss_one (ps_ret (pe_cmpR op_eq (pe_callB cg_lenN (by rfl) B.n_len PySem.boot_len (pa_cons (pe_callTy (cg_setLn rfl) (by rfl) B.n_set PyProof.Rows.boot_set (pa_cons (by exact pe_lc (own := [("v", 5)]) (g := (gName 5)) (tt := tYes) rfl nd (pi_tup (pe_ix (ixT K) (pv 0) pe_int (fun _ _ => rfl))) (blkOk_by (N := ["body", "point", "kind", "literal", "at", "v"]) (sc := defScope s_body_holds) (by decide +kernel)) (fun _ _ _ _ _ => (pg_name (i := 5) nd rfl (Or.inl rfl))) (fun _ _ _ _ _ => pts_nil) (fun _ _ _ _ _ => (pe_ix (ixP K) (pv 1) (pv 5) (fun _ _ => rfl)))) pa_nil)) pa_nil)) (pe_callB (cgLen K) (by rfl) B.n_len PySem.boot_len (pa_cons (pe_ix (ixT K) (pv 0) pe_int (fun _ _ => rfl)) pa_nil)) (nomark _))))
      pss_nil)
      (pss_cons (ps_if (pt_cmpR op_eq (pv 2) pe_str (nomark _))
      (pss_one (ps_ret (pe_cmpR (inDT K hr) (pe_callTy (cgTuple K) (by rfl) B.n_tuple (by decide +kernel) (pa_cons (by exact pe_lc (own := [("v", 5)]) (g := (gName 5)) (tt := tYes) rfl nd (pi_tup (pe_ix (ixT K) (pv 0) pe_int (fun _ _ => rfl))) (blkOk_by (N := ["body", "point", "kind", "literal", "at", "v"]) (sc := defScope s_body_holds) (by decide +kernel)) (fun _ _ _ _ _ => (pg_name (i := 5) nd rfl (Or.inl rfl))) (fun _ _ _ _ _ => pts_nil) (fun _ _ _ _ _ => (pe_ix (ixP K) (pv 1) (pv 5) (fun _ _ => rfl)))) pa_nil)) (pe_ix (ixT K) (pv 0) pe_int (fun _ _ => rfl)) rfl)))
      pss_nil)
      (pss_cons (ps_if (pt_cmpR op_eq (pv 2) pe_str (nomark _))
      (pss_cons (ps_set (i := 4) nd rfl (Or.inl rfl) (pe_ix (ixP K) (pv 1) (pe_ix (ixT K) (pv 0) pe_int (fun _ _ => rfl)) (fun _ _ => rfl)))
      (pss_one (ps_ret (pe_and (pe_chain op_le op_lt pe_int (pv 4) (pe_callB (cgLen K) (by rfl) B.n_len PySem.boot_len (pa_cons (pe_ix (ixT K) (pv 0) pe_int (fun _ _ => rfl)) pa_nil))) (pe_one (pe_cmpR op_eq (pe_ix (ixT K) (pe_ix (ixT K) (pv 0) pe_int (fun _ _ => rfl)) (pv 4) (fun _ _ => rfl)) (pe_ix (ixP K) (pv 1) (pe_ix (ixT K) (pv 0) pe_int (fun _ _ => rfl)) (fun _ _ => rfl)) (nomark _)))))))
      pss_nil)
      (pss_one (ps_ret (pe_cmpR op_eq (pe_op op_mul (pe_ix (ixP K) (pv 1) (pe_ix (ixT K) (pv 0) pe_int (fun _ _ => rfl)) (fun _ _ => rfl)) (pe_ix (ixP K) (pv 1) (pe_ix (ixT K) (pv 0) pe_int (fun _ _ => rfl)) (fun _ _ => rfl))) (pe_ix (ixP K) (pv 1) (pe_ix (ixT K) (pv 0) pe_int (fun _ _ => rfl)) (fun _ _ => rfl)) (nomark _))))))))))), ?_⟩
    try dsimp only [L2.cxOf, L2.Cx.nox, L2.Cx.wish]
    rw [st_body_holds]
    cases b with
    | row ts r n =>
      obtain ⟨q1, s1, i1⟩ := b_row hb
      walk_at "cg"
      refine spSumF_i i1 hP (fun z hz => hD _ (List.mem_map.mpr ⟨z, hz, rfl⟩)) bd.1 ?_
      walk_at "cg"
      exact k _ .refl
    | any ls =>
      obtain ⟨q1, s1, i1⟩ := b_any hb
      obtain ⟨xs, s2, i2⟩ := Im.open i1
      walk_at "cg"
      refine lcT_b s2 i2 (fun l => l.h f) (by have : ls.length ≤ 62 := bd; omega) (fun i l x H' R R' hl k2 hx q2 => ?_) (fun D H' hD eD k2 => ?_)
      · obtain ⟨px, rfl, hs⟩ := lit_at hx
        walk_at "cg"
        refine r_pt (hP.kp0 k2) (hD _ (List.mem_map.mpr ⟨l, List.mem_of_getElem? hl, rfl⟩)) ?_
        walk_at "cg"
        exact q2 _ .refl
      · walk_at "cg"
        refine r_any eD ?_
        have e : (ls.map fun l => l.h f).any id = Body.h f (.any ls) := by
          rw [List.any_map]
          rfl
        rw [e]
        exact k _ (by walk_at "cg kp")
    | when l ts r n =>
      obtain ⟨q1, q2, s1, L, i1⟩ := b_when hb
      walk_at "cg"
      refine r_pt hP (hD _ List.mem_cons_self) ?_
      walk_at "cg"
      have e : l.h f = l.r.h (f l.v) l.a := rfl
      cases e2 : l.r.h (f l.v) l.a
      · walk_at "cg"
        have q := k H .refl
        simp only [Body.h, e, e2, Bool.not_false, Bool.true_or] at q
        exact q
      · walk_at "cg"
        refine spSumF_i i1 hP (fun z hz => hD _ (List.mem_cons_of_mem _ (List.mem_map.mpr ⟨z, hz, rfl⟩))) bd.1 ?_
        walk_at "cg"
        have q := k H .refl
        simp only [Body.h, e, e2, Bool.not_true, Bool.false_or] at q
        exact q
    | diff us =>
      obtain ⟨q1, s1, s2⟩ := b_diff hb
      have few : us.length ≤ 62 := bd
      walk_at "cg"
      refine lcT_i s2 (imInts us) f (by omega) (fun i v x H' R R' hv k2 hx q2 => ?_) (fun D H' hD eD k2 => ?_)
      · obtain rfl := hx.flat (y := .int v) rfl
        walk_at "cg"
        refine r_pt (hP.kp0 k2) (hD _ (List.mem_of_getElem? hv)) ?_
        walk_at "cg"
        exact q2 _ .refl
      · walk_at "cg"
        refine r_setLn eD (by rw [List.length_map]; omega) fun S H3 hS eS k3 => ?_
        walk_at "cg"
        refine r_lenN eS ?_
        walk_at "cg"
        have e : decide (((dd (us.map f)).length : Int) = ((us.map V.int).length : Int)) = Body.h f (.diff us) := by
          simp only [Body.h]
          rw [Bool.eq_iff_iff, decide_eq_true_eq, decide_eq_true_eq, ← dd_len, List.length_map, List.length_map]
          omega
        rw [e]
        exact k _ (by walk_at "cg kp")
    | table us rows =>
      obtain ⟨q1, q2, s1, s2, i2⟩ := b_table hb
      have few : us.length ≤ 62 := bd.1
      walk_at "cg"
      refine lcT_i s2 (imInts us) f (by omega) (fun i v x H' R R' hv k2 hx q2 => ?_) (fun D H' hD eD k2 => ?_)
      · obtain rfl := hx.flat (y := .int v) rfl
        walk_at "cg"
        refine r_pt (hP.kp0 k2) (hD _ (List.mem_of_getElem? hv)) ?_
        walk_at "cg"
        exact q2 _ .refl
      · walk_at "cg"
        refine ⟨intsD (us.map f), rows.map intsD, Im.dp (intsT_im (by assumption)), Im.dp (by walk_at "cg h"), (intsD_shp _).ok, (rowsD_shp _).ok, ?_⟩
        have e : ((rows.map intsD).any fun z => PyData.eqv z (intsD (us.map f))) = Body.h f (.table us rows) := by
          rw [any_in intsD_eqv, Bool.eq_iff_iff]
          simp [Body.h]
        rw [e]
        exact k _ (by walk_at "cg kp")
    | elem x es y =>
      obtain ⟨q1, s1, s2⟩ := b_elem hb
      have few : es.length ≤ 1000 := bd
      walk_at "cg"
      refine r_pt hP (hD x (by simp [Body.vars])) ?_
      walk_at "cg"
      refine if_S (fun h0 => ?_) (fun h0 => ?_)
      · walk_at "cg"
        refine if_S (fun h1 => ?_) (fun h1 => ?_)
        · rw [List.length_map] at h1
          walk_at "cg"
          refine r_ixT s2 (atI_ints h0 h1) ?_
          walk_at "cg"
          refine r_pt hP (hD y (by simp [Body.vars])) ?_
          walk_at "cg"
          have q := k H .refl
          simp only [Body.h, decide_eq_true h0, decide_eq_true h1, Bool.true_and] at q
          exact q
        · rw [List.length_map] at h1
          walk_at "cg"
          have q := k H .refl
          simp only [Body.h, decide_eq_true h0, decide_eq_false h1, Bool.true_and, Bool.false_and] at q
          exact q
      · walk_at "cg"
        have q := k H .refl
        simp only [Body.h, decide_eq_false h0, Bool.false_and] at q
        exact q
    | times x y z =>
      have s1 := b_times hb
      have b1 := hF x (hD x (by simp [Body.vars]))
      walk_at "cg"
      refine r_pt hP (hD x (by simp [Body.vars])) ?_
      walk_at "cg"
      refine r_pt hP (hD y (by simp [Body.vars])) ?_
      walk_at "cg"
      refine r_pt hP (hD z (by simp [Body.vars])) ?_
      walk_at "cg"
      exact k _ .refl

theorem ok_law_written {f : Addr} {fd : FuncData} (F : Fun K "_law_written" "_law_written" s_law_written f fd) (B : Bi K mg)  : FnOk P w K mg base CX0 1 f fd ["_law_body_here"] (spWritten K) := by
  have nd := sc_law_written.nd
  refine F.ok sc_law_written ?len (fun cdv A outer s H vs Q E hr h => ?body)
  case len =>
    rintro vs H Q E ⟨p, b, rfl, _⟩
    rfl
  case body =>
    obtain ⟨p, b, rfl, hb, bd, k⟩ := h
    refine ⟨_, (pss_cons (ps_if (pt_cmpR op_eq (pe_ix (ixT K) (pv 0) pe_int (fun _ _ => rfl)) pe_str (nomark _))
      (pss_one (ps_ret (by exact pe_lc (own := [("_law_v", 1), ("_law_c", 2)]) (g := (gTup K 2 (gCons (gName 1) (gCons (gName 2) gNil)))) (tt := tYes) rfl nd (pi_tup (pe_ix (ixT K) (pv 0) pe_int (fun _ _ => rfl))) (blkOk_by (N := ["_law_body_here", "_law_v", "_law_c", "_law_literal_here"]) (sc := defScope s_law_written) (by decide +kernel)) (fun _ _ _ _ _ => (pg_tup (n := 2) rfl (pgs_cons (pg_name (i := 1) nd rfl (Or.inl rfl)) (pgs_cons (pg_name (i := 2) nd rfl (Or.inl rfl)) pgs_nil)))) (fun _ _ _ _ _ => pts_nil) (fun _ _ _ _ _ => (pv 1)))))
      pss_nil)
      (pss_cons (ps_if (pt_cmpR op_eq (pe_ix (ixT K) (pv 0) pe_int (fun _ _ => rfl)) pe_str (nomark _))
      (pss_one (ps_ret (by exact pe_lc (own := [("_law_literal_here", 3)]) (g := (gName 3)) (tt := tYes) rfl nd (pi_tup (pe_ix (ixT K) (pv 0) pe_int (fun _ _ => rfl))) (blkOk_by (N := ["_law_body_here", "_law_v", "_law_c", "_law_literal_here"]) (sc := defScope s_law_written) (by decide +kernel)) (fun _ _ _ _ _ => (pg_name (i := 3) nd rfl (Or.inl rfl))) (fun _ _ _ _ _ => pts_nil) (fun _ _ _ _ _ => (pe_ix (ixT K) (pv 3) pe_int (fun _ _ => rfl))))))
      pss_nil)
      (pss_cons (ps_if (pt_cmpR op_eq (pe_ix (ixT K) (pv 0) pe_int (fun _ _ => rfl)) pe_str (nomark _))
      (pss_one (ps_ret (pe_op (op_catL K) (pe_lst (pa_cons (pe_ix (ixT K) (pe_ix (ixT K) (pv 0) pe_int (fun _ _ => rfl)) pe_int (fun _ _ => rfl)) pa_nil)) (by exact pe_lc (own := [("_law_v", 1), ("_law_c", 2)]) (g := (gTup K 2 (gCons (gName 1) (gCons (gName 2) gNil)))) (tt := tYes) rfl nd (pi_tup (pe_ix (ixT K) (pv 0) pe_int (fun _ _ => rfl))) (blkOk_by (N := ["_law_body_here", "_law_v", "_law_c", "_law_literal_here"]) (sc := defScope s_law_written) (by decide +kernel)) (fun _ _ _ _ _ => (pg_tup (n := 2) rfl (pgs_cons (pg_name (i := 1) nd rfl (Or.inl rfl)) (pgs_cons (pg_name (i := 2) nd rfl (Or.inl rfl)) pgs_nil)))) (fun _ _ _ _ _ => pts_nil) (fun _ _ _ _ _ => (pv 1))))))
      pss_nil)
      (pss_cons (ps_if (PW.pt (pw_or (pt_cmpR op_eq (pe_ix (ixT K) (pv 0) pe_int (fun _ _ => rfl)) pe_str (nomark _)) (pw_or1 (pt_cmpR op_eq (pe_ix (ixT K) (pv 0) pe_int (fun _ _ => rfl)) pe_str (nomark _)))))
      (pss_one (ps_ret (pe_callTy (cgList K) (by rfl) B.n_list (by decide +kernel) (pa_cons (pe_ix (ixT K) (pv 0) pe_int (fun _ _ => rfl)) pa_nil))))
      pss_nil)
      (pss_cons (ps_if (pt_cmpR op_eq (pe_ix (ixT K) (pv 0) pe_int (fun _ _ => rfl)) pe_str (nomark _))
      (pss_one (ps_ret (pe_lst (pa_cons (pe_ix (ixT K) (pv 0) pe_int (fun _ _ => rfl)) (pa_cons (pe_ix (ixT K) (pv 0) pe_int (fun _ _ => rfl)) pa_nil)))))
      pss_nil)
      (pss_one (ps_ret (pe_lst (pa_cons (pe_ix (ixT K) (pv 0) pe_int (fun _ _ => rfl)) (pa_cons (pe_ix (ixT K) (pv 0) pe_int (fun _ _ => rfl)) (pa_cons (pe_ix (ixT K) (pv 0) pe_int (fun _ _ => rfl)) pa_nil))))))))))), ?_⟩
    try dsimp only [L2.cxOf, L2.Cx.nox, L2.Cx.wish]
    rw [st_law_written]
    cases b with
    | row ts r n =>
      obtain ⟨q, s1, i1⟩ := b_row hb
      obtain ⟨xs, s2, i2⟩ := Im.open i1
      walk_at "cg"
      refine lcT_i (xs := xs) (as := ts) (d := tD) s2 i2 (fun z => z.1) (by have := bd.2; omega) (fun i z x H' R R' hz k2 hx q => ?_) (fun D H' hD eD k2 => ?_)
      · obtain ⟨px, rfl, hs⟩ := term_at hx
        walk_at "cg"
        exact q _ .refl
      · exact k D H' eD k2
    | any ls =>
      obtain ⟨q, s1, i1⟩ := b_any hb
      obtain ⟨xs, s2, i2⟩ := Im.open i1
      walk_at "cg"
      refine lcT_i (xs := xs) (as := ls) (d := Lit.d) s2 i2 (fun z => z.v) (by have : ls.length ≤ 62 := bd; omega) (fun i z x H' R R' hz k2 hx q => ?_) (fun D H' hD eD k2 => ?_)
      · obtain ⟨px, rfl, hs⟩ := lit_at hx
        walk_at "cg"
        exact q _ .refl
      · exact k D H' eD k2
    | when l ts r n =>
      obtain ⟨q1, q, s1, L, i1⟩ := b_when hb
      obtain ⟨xs, s2, i2⟩ := Im.open i1
      walk_at "cg"
      refine lcT_i (xs := xs) (as := ts) (d := tD) (by walk_at "cg h") (by walk_at "cg h") (fun z => z.1) (by have := bd.2; omega) (fun i z x H' R R' hz k2 hx q => ?_) (fun D H' hD eD k2 => ?_)
      · obtain ⟨px, rfl, hs⟩ := term_at hx
        walk_at "cg"
        exact q _ .refl
      · walk_at "cg"
        refine r_cat (by walk_at "cg h") eD (by simp; have := bd.2; omega) fun D2 H5 hD2 eD2 k5 => ?_
        exact k D2 H5 eD2 (by walk_at "cg kp")
    | diff us =>
      obtain ⟨q, s1, s2⟩ := b_diff hb
      walk_at "cg"
      exact k _ _ (by assumption) (by walk_at "cg kp")
    | table us rows =>
      obtain ⟨q, q2, s1, s2, i2⟩ := b_table hb
      walk_at "cg"
      exact k _ _ (by assumption) (by walk_at "cg kp")
    | elem x es y =>
      obtain ⟨q, s1, s2⟩ := b_elem hb
      walk_at "cg"
      exact k _ _ (by assumption) (by walk_at "cg kp")
    | times x y z =>
      have s1 := b_times hb
      walk_at "cg"
      exact k _ _ (by assumption) (by walk_at "cg kp")

end
/-! ### the greater and the lesser of two -/
def rMax2 : List V → Hp → VK → Prop := fun xs H Q => ∃ i j, xs = [.int i, .int j] ∧ Q (.int (if j > i then j else i)) H
def rMin2 : List V → Hp → VK → Prop := fun xs H Q => ∃ i j, xs = [.int i, .int j] ∧ Q (.int (if j < i then j else i)) H
theorem cg_max2 {X : Cx} (hc : X.calm = true) : CallR X (.builtin "max") rMax2 := call_max2 hc
theorem cg_min2 {X : Cx} (hc : X.calm = true) : CallR X (.builtin "min") rMin2 := call_min2 hc
instance s_max2 {i j : Int} {H : Hp} {Q : VK} : Stp (rMax2 [.int i, .int j] H Q) (Q (.int (if j > i then j else i)) H) := ⟨fun h => ⟨i, j, rfl, h⟩⟩
instance s_min2 {i j : Int} {H : Hp} {Q : VK} : Stp (rMin2 [.int i, .int j] H Q) (Q (.int (if j < i then j else i)) H) := ⟨fun h => ⟨i, j, rfl, h⟩⟩

/-! ### boxes as pairs of two sequences; what narrows them -/
def SqA (K : PySem.W.Frag) (H : Hp) (q : Addr) (xs : List V) : Prop := H q = some (.lst xs) ∨ SqT K H q xs
/-- a box at p: the lower ends at q1, the upper ends at q2, two lists or two tuples -/
structure BoxP (K : PySem.W.Frag) (H : Hp) (p q1 q2 : Addr) (los his : List Int) : Prop where
  b : SqT K H p [.ref q1, .ref q2]
  l : SqA K H q1 (los.map V.int)
  h : SqA K H q2 (his.map V.int)
section
variable {K : PySem.W.Frag} {H H' : Hp} {S : List Addr} {p q q1 q2 t : Addr} {los his : List Int} {xs : List V} {i : Int} {v : V} {Q : VK}
theorem SqA.kp (k : Kp S H H') (h : SqA K H q xs) (n : ¬ q ∈ S) : SqA K H' q xs := h.imp (k.get n) k.tup
theorem BoxP.kp (k : Kp S H H') (h : BoxP K H p q1 q2 los his) (n1 : ¬ q1 ∈ S) (n2 : ¬ q2 ∈ S) : BoxP K H' p q1 q2 los his := ⟨k.tup h.b, h.l.kp k n1, h.h.kp k n2⟩
theorem BoxP.kp0 (k : Kp [] H H') (h : BoxP K H p q1 q2 los his) : BoxP K H' p q1 q2 los his := h.kp k (fun z => nomatch z) (fun z => nomatch z)
theorem BoxP.kp1 (k : Kp [t] H H') (h : BoxP K H p q1 q2 los his) (n1 : q1 ≠ t) (n2 : q2 ≠ t) : BoxP K H' p q1 q2 los his := h.kp k (fun z => n1 (by simpa using z)) (fun z => n2 (by simpa using z))
def rIxSq (K : PySem.W.Frag) : V → V → Hp → VK → Prop := fun o i H Q => rIxT K o i H Q ∨ rIxL K o i H Q
theorem ixSq {X : Cx} (K : PySem.W.Frag) (h : X.K = K := by rfl) : IxR X (rIxSq K) := by
  have a : IxR X (rIxT K) := ixT K h
  have b : IxR X (rIxL K) := ixL K h
  intro e1 e2 pins s σ H o i u w Q I ro ri q sl
  rcases q with q | q
  · exact a e1 e2 pins s σ H o i u w Q I ro ri q sl
  · exact b e1 e2 pins s σ H o i u w Q I ro ri q sl
theorem r_ixSq (h : SqA K H p xs) (e : atI xs i = some v) (q : Q v H) : rIxSq K (.ref p) (.int i) H Q := h.elim (fun h => .inr (r_ixL h e q)) fun h => .inl (r_ixT h e q)
theorem litI {l : Lit} (h : SqT K H p [.int l.v, .str l.r.s, .int l.a]) : Im K H (.ref p) l.d := .tup h (.cons (.int _) (.cons (.str _) (.cons (.int _) .nil)))
theorem r_ext {l : Addr} {zs : List V} (h : H l = some (.lst xs)) (hb : H q = some (.lst zs)) (few : xs.length + zs.length ≤ 100000) (k : ∀ H2, H2 l = some (.lst (xs ++ zs)) → Kp [l] H H2 → Q .non H2) : rExtend (.ref l) [.ref q] H Q :=
  ⟨l, q, xs, zs, rfl, rfl, h, hb, by rw [sizeLine_eq]; omega, k _ upd_same (Kp.put h trivial)⟩
end
/-- the box is whole: as many ends, lower ones below upper ones, not too far out -/
structure BxW (m : Nat) (los his : List Int) : Prop where
  a : los.length = m
  b : his.length = m
  bd : ∀ v : Int, 0 ≤ v → v < m → -100000 ≤ at_ los v ∧ at_ los v ≤ at_ his v ∧ at_ his v ≤ 100000
theorem imAll_ap {K : PySem.W.Frag} {H : Hp} : ∀ {xs ys : List V} {ds es : List PyData}, ImAll K H xs ds → ImAll K H ys es → ImAll K H (xs ++ ys) (ds ++ es)
  | _, _, _, _, .nil, h => h
  | _, _, _, _, .cons h a, z => .cons h (imAll_ap a z)
def possB (lo hi : Int) (l : Lit) : Bool := match l.r with
  | .le => decide (lo ≤ l.a)
  | .ge => decide (l.a ≤ hi)
  | .eq => decide (lo ≤ l.a) && decide (l.a ≤ hi)
  | .ne => decide (¬ lo = l.a) || decide (¬ hi = l.a)
def endsL (lo hi : Int) (l : Lit) : List Lit := match l.r with
  | .le => if l.a < hi then [⟨l.v, .le, l.a⟩] else []
  | .ge => if lo < l.a then [⟨l.v, .ge, l.a⟩] else []
  | .eq => (if l.a < hi then [⟨l.v, .le, l.a⟩] else []) ++ (if lo < l.a then [⟨l.v, .ge, l.a⟩] else [])
  | .ne => (if lo = l.a then [⟨l.v, .ge, l.a + 1⟩] else []) ++ (if hi = l.a then [⟨l.v, .le, l.a - 1⟩] else [])
theorem endsL_len (lo hi : Int) (l : Lit) : (endsL lo hi l).length ≤ 2 := by
  obtain ⟨v, r, a⟩ := l
  cases r <;> simp only [endsL, List.length_append] <;> (repeat' split) <;> simp
def lsB (los his : List Int) (ts : Tms) : Int := (ts.map fun z => if 0 < z.2 then z.2 * at_ los z.1 else z.2 * at_ his z.1).sum
def rowT (los his : List Int) (s : Int) (z : Int × Int) : List Lit := if 0 < z.2 then endsL (at_ los z.1) (at_ his z.1) ⟨z.1, .le, at_ los z.1 + s / z.2⟩ else endsL (at_ los z.1) (at_ his z.1) ⟨z.1, .ge, at_ his z.1 - s / -z.2⟩
def rowE (los his : List Int) (ts : Tms) (n : Int) : Option (List Lit) := if n - lsB los his ts < 0 then none else some (ts.flatMap (rowT los his (n - lsB los his ts)))
def clauseE (los his : List Int) (ls : List Lit) : Option (List Lit) := match ls.filter fun l => possB (at_ los l.v) (at_ his l.v) l with
  | [] => none
  | [l] => some (endsL (at_ los l.v) (at_ his l.v) l)
  | _ :: _ :: _ => some []
/-- the terms can be walked -/
def tmW (m : Nat) (ts : Tms) : Prop := ts.length ≤ 60 ∧ ∀ z ∈ ts, 0 ≤ z.1 ∧ z.1 < m ∧ z.2 ≠ 0 ∧ -1000000000000 ≤ z.2 ∧ z.2 ≤ 1000000000000
theorem atS {xs : List Int} {v : Int} (h0 : 0 ≤ v) (h1 : v < xs.length) : atI (xs.map V.int) v = some (.int (at_ xs v)) := atI_ints h0 h1
def spPoss (K : PySem.W.Frag) : Sp := fun vs H Q _ => ∃ (p q1 q2 q : Addr) (m : Nat) (los his : List Int) (l : Lit), vs = [.ref p, .ref q] ∧ BoxP K H p q1 q2 los his ∧ BxW m los his ∧ LitAt K H q l.v l.r l.a ∧ 0 ≤ l.v ∧ l.v < m ∧ ∀ H', Kp [] H H' → Q (.bl (possB (at_ los l.v) (at_ his l.v) l)) H'
def spSure (K : PySem.W.Frag) : Sp := fun vs H Q _ => ∃ (p q1 q2 q : Addr) (m : Nat) (los his : List Int) (l : Lit), vs = [.ref p, .ref q] ∧ BoxP K H p q1 q2 los his ∧ BxW m los his ∧ LitAt K H q l.v l.r l.a ∧ 0 ≤ l.v ∧ l.v < m ∧ ∀ H', Kp [] H H' → Q (.bl (!possB (at_ los l.v) (at_ his l.v) ⟨l.v, l.r.neg, l.r.nnum l.a⟩)) H'
def spLeastS (K : PySem.W.Frag) : Sp := fun vs H Q _ => ∃ (p q1 q2 q : Addr) (m : Nat) (los his : List Int) (ts : Tms), vs = [.ref p, .ref q] ∧ BoxP K H p q1 q2 los his ∧ BxW m los his ∧ Im K H (.ref q) (tmD ts) ∧ tmW m ts ∧ ∀ H', Kp [] H H' → Q (.int (lsB los his ts)) H'
def spEndsW (K : PySem.W.Frag) : Sp := fun vs H Q _ => ∃ (p q1 q2 q : Addr) (m : Nat) (los his : List Int) (l : Lit), vs = [.ref p, .ref q] ∧ BoxP K H p q1 q2 los his ∧ BxW m los his ∧ LitAt K H q l.v l.r l.a ∧ 0 ≤ l.v ∧ l.v < m ∧ ∀ (d : Addr) (refs : List V) H', H d = none → H' d = some (.lst refs) → ImAll K H' refs ((endsL (at_ los l.v) (at_ his l.v) l).map Lit.d) → Kp [] H H' → Q (.ref d) H'
def spKeeps (K : PySem.W.Frag) : Sp := fun vs H Q _ => ∃ (p q1 q2 q : Addr) (m : Nat) (los his : List Int) (l : Lit), vs = [.ref p, .ref q] ∧ BoxP K H p q1 q2 los his ∧ BxW m los his ∧ LitAt K H q l.v l.r l.a ∧ 0 ≤ l.v ∧ l.v < m ∧ ∀ H', Kp [] H H' → Q (.bl (decide (endsL (at_ los l.v) (at_ his l.v) l = []))) H'
def spRowE (K : PySem.W.Frag) : Sp := fun vs H Q _ => ∃ (p q1 q2 q : Addr) (m : Nat) (los his : List Int) (ts : Tms) (n : Int), vs = [.ref p, .ref q] ∧ BoxP K H p q1 q2 los his ∧ BxW m los his ∧ FactAt K H q (.row ts n) ∧ tmW m ts ∧ (∀ H', rowE los his ts n = none → Kp [] H H' → Q .non H') ∧
  ∀ (d : Addr) (refs : List V) (es : List Lit) H', rowE los his ts n = some es → H d = none → H' d = some (.lst refs) → ImAll K H' refs (es.map Lit.d) → Kp [] H H' → Q (.ref d) H'
def spClauseE (K : PySem.W.Frag) : Sp := fun vs H Q _ => ∃ (p q1 q2 q : Addr) (m : Nat) (los his : List Int) (ls : List Lit), vs = [.ref p, .ref q] ∧ BoxP K H p q1 q2 los his ∧ BxW m los his ∧ FactAt K H q (.any ls) ∧ ls.length ≤ 60 ∧ (∀ l ∈ ls, 0 ≤ l.v ∧ l.v < m) ∧ (∀ H', clauseE los his ls = none → Kp [] H H' → Q .non H') ∧
  ∀ (d : Addr) (refs : List V) (es : List Lit) H', clauseE los his ls = some es → H d = none → H' d = some (.lst refs) → ImAll K H' refs (es.map Lit.d) → Kp [] H H' → Q (.ref d) H'
def spRowC (K : PySem.W.Frag) : Sp := fun vs H Q _ => ∃ (p q1 q2 q : Addr) (m : Nat) (los his : List Int) (ts : Tms) (n : Int), vs = [.ref p, .ref q] ∧ BoxP K H p q1 q2 los his ∧ BxW m los his ∧ FactAt K H q (.row ts n) ∧ tmW m ts ∧ ∀ H', Kp [] H H' → Q (.bl (decide (rowE los his ts n = some []))) H'
def spClauseC (K : PySem.W.Frag) : Sp := fun vs H Q _ => ∃ (p q1 q2 q : Addr) (m : Nat) (los his : List Int) (ls : List Lit), vs = [.ref p, .ref q] ∧ BoxP K H p q1 q2 los his ∧ BxW m los his ∧ FactAt K H q (.any ls) ∧ ls.length ≤ 60 ∧ (∀ l ∈ ls, 0 ≤ l.v ∧ l.v < m) ∧ ∀ H', Kp [] H H' → Q (.bl (decide (clauseE los his ls = some []))) H'

section
variable {P : Program} {w : World} {K : PySem.W.Frag} {mg : Str → Option Value} {base : Heap} {C_Model : Addr}
theorem ok_is_possible {f : Addr} {fd : FuncData} (F : Fun K "is_possible" "is_possible" s_is_possible f fd) (B : Bi K mg)  : FnOk P w K mg base CX0 1 f fd ["box", "literal"] (spPoss K) := by
  have nd := sc_is_possible.nd
  refine F.ok sc_is_possible ?len (fun cdv A outer s H vs Q E hr h => ?body)
  case len =>
    rintro vs H Q E ⟨p, q1, q2, q, m, los, his, l, rfl, _⟩
    rfl
  case body =>
    obtain ⟨p, q1, q2, q, m, los, his, l, rfl, Bx, W, L, v0, v1, k⟩ := h
    refine ⟨_, (pss_cons (ps_asg (pv 1) (pg_tup (n := 3) rfl (pgs_cons (pg_name (i := 2) nd rfl (Or.inl rfl)) (pgs_cons (pg_name (i := 3) nd rfl (Or.inl rfl)) (pgs_cons (pg_name (i := 4) nd rfl (Or.inl rfl)) pgs_nil)))))
      (pss_cons (ps_set (i := 5) nd rfl (Or.inl rfl) (pe_ix (ixSq K) (pe_ix (ixT K) (pv 0) pe_int (fun _ _ => rfl)) (pv 2) (fun _ _ => rfl)))
      (pss_cons (ps_set (i := 6) nd rfl (Or.inl rfl) (pe_ix (ixSq K) (pe_ix (ixT K) (pv 0) pe_int (fun _ _ => rfl)) (pv 2) (fun _ _ => rfl)))
      (pss_cons (ps_if (pt_cmpR op_eq (pv 3) pe_str (nomark _))
      (pss_one (ps_ret (pe_cmpR op_le (pv 5) (pv 4) (nomark _))))
      pss_nil)
      (pss_cons (ps_if (pt_cmpR op_eq (pv 3) pe_str (nomark _))
      (pss_one (ps_ret (pe_cmpR op_ge (pv 6) (pv 4) (nomark _))))
      pss_nil)
      (pss_cons (ps_if (pt_cmpR op_eq (pv 3) pe_str (nomark _))
      (pss_one (ps_ret (pe_chain op_le op_le (pv 5) (pv 4) (pv 6))))
      pss_nil)
      (pss_one (ps_ret (pe_or (pe_cmpR op_ne (pv 5) (pv 4) (nomark _)) (pe_one (pe_cmpR op_ne (pv 6) (pv 4) (nomark _)))))))))))), ?_⟩
    try dsimp only [L2.cxOf, L2.Cx.nox, L2.Cx.wish]
    rw [st_is_possible]
    obtain ⟨v, r, a⟩ := l
    dsimp only at L v0 v1 k
    have sb := Bx.b
    have e1 := atS v0 (by rw [W.a]; exact v1)
    have e2 := atS v0 (by rw [W.b]; exact v1)
    walk_at "cg"
    refine r_ixSq Bx.l e1 ?_
    walk_at "cg"
    refine r_ixSq Bx.h e2 ?_
    cases r with
    | le =>
      walk_at "cg"
      exact k _ .refl
    | ge =>
      walk_at "cg"
      exact k _ .refl
    | eq =>
      walk_at "cg"
      refine if_S (fun g => ?_) (fun g => ?_)
      · walk_at "cg"
        have := k _ .refl
        simp only [possB, decide_eq_true g, Bool.true_and] at this
        exact this
      · walk_at "cg"
        have := k _ .refl
        simp only [possB, decide_eq_false g, Bool.false_and] at this
        exact this
    | ne =>
      walk_at "cg"
      refine if_S (fun g => ?_) (fun g => ?_)
      · walk_at "cg"
        have := k _ .refl
        simp only [possB, decide_eq_true g, Bool.true_or] at this
        exact this
      · walk_at "cg"
        have := k _ .refl
        simp only [possB, decide_eq_false g, Bool.false_or] at this
        exact this
theorem ok_is_sure {f : Addr} {fd : FuncData} (F : Fun K "is_sure" "is_sure" s_is_sure f fd) (B : Bi K mg) (D_is_possible : Is P w K mg base CX0 1 "is_possible" ["box", "literal"] (spPoss K)) (D_negated : Is P w K mg base CX0 1 "negated" ["literal"] (spNeg K)) : FnOk P w K mg base CX0 2 f fd ["box", "literal"] (spSure K) := by
  have nd := sc_is_sure.nd
  refine F.ok sc_is_sure ?len (fun cdv A outer s H vs Q E hr h => ?body)
  case len =>
    rintro vs H Q E ⟨p, q1, q2, q, m, los, his, l, rfl, _⟩
    rfl
  case body =>
    obtain ⟨p, q1, q2, q, m, los, his, l, rfl, Bx, W, L, v0, v1, k⟩ := h
    refine ⟨_, (pss_one (ps_ret (pe_not (pe_is D_is_possible (hr.mono (by decide)) rfl pass0 (pa_cons (pv 0) (pa_cons (pe_is D_negated (hr.mono (by decide)) rfl pass0 (pa_cons (pv 1) pa_nil)) pa_nil)))))), ?_⟩
    try dsimp only [L2.cxOf, L2.Cx.nox, L2.Cx.wish]
    rw [st_is_sure]
    walk_at "cg"
    refine ⟨q, l.v, l.r, l.a, rfl, L, fun p' H1 L1 k1 => ?_⟩
    walk_at "cg"
    refine ⟨p, q1, q2, p', m, los, his, ⟨l.v, l.r.neg, l.r.nnum l.a⟩, rfl, Bx.kp0 k1, W, L1, v0, v1, fun H2 k2 => ?_⟩
    walk_at "cg"
    exact k _ (Kp.tr0 k2 k1)
theorem ok_least_sum {f : Addr} {fd : FuncData} (F : Fun K "least_sum" "least_sum" s_least_sum f fd) (B : Bi K mg)  : FnOk P w K mg base CX0 1 f fd ["box", "terms"] (spLeastS K) := by
  have nd := sc_least_sum.nd
  refine F.ok sc_least_sum ?len (fun cdv A outer s H vs Q E hr h => ?body)
  case len =>
    rintro vs H Q E ⟨p, q1, q2, q, m, los, his, ts, rfl, _⟩
    rfl
  case body =>
    obtain ⟨p, q1, q2, q, m, los, his, ts, rfl, Bx, W, I, tw, k⟩ := h
    refine ⟨_, (pss_cons (ps_set (i := 2) nd rfl (Or.inl rfl) pe_int)
      (pss_cons (ps_for PassesOwn.never rfl (pi_tup (pv 1)) (pg_tup (n := 2) rfl (pgs_cons (pg_name (i := 3) nd rfl (Or.inl rfl)) (pgs_cons (pg_name (i := 4) nd rfl (Or.inl rfl)) pgs_nil)))
      (pss_one (ps_if (pt_cmpR op_gt (pv 4) pe_int (nomark _))
      (pss_one (ps_aug (i := 2) nd rfl (Or.inl rfl) (pe_op op_mul (pv 4) (pe_ix (ixSq K) (pe_ix (ixT K) (pv 0) pe_int (fun _ _ => rfl)) (pv 3) (fun _ _ => rfl))) ip_add))
      (pss_one (ps_aug (i := 2) nd rfl (Or.inl rfl) (pe_op op_mul (pv 4) (pe_ix (ixSq K) (pe_ix (ixT K) (pv 0) pe_int (fun _ _ => rfl)) (pv 3) (fun _ _ => rfl))) ip_add)))))
      (pss_one (ps_ret (pv 2))))), ?_⟩
    try dsimp only [L2.cxOf, L2.Cx.nox, L2.Cx.wish]
    rw [st_least_sum]
    obtain ⟨xs, s1, i1⟩ := Im.open I
    have sb := Bx.b
    walk_at "cg"
    refine r_forTI [] s1 i1 (fun i σ' H' => ∃ x3 x4 : Option V, σ' = [some (.ref p), some (.ref q), some (.int (lsB los his (ts.take i))), x3, x4] ∧ H = H') ⟨_, _, rfl, rfl⟩ (fun i σ' H' ⟨_, _, _, e⟩ => by rw [e]; exact .refl) ?_ ?_
    · rintro i z x σ' H' hz hx _ ⟨x3, x4, rfl, rfl⟩
      obtain ⟨px, rfl, sx⟩ := term_at hx
      have oz := tw.2 z (List.mem_of_getElem? hz)
      have e1 := atS oz.1 (by rw [W.a]; exact oz.2.1)
      have e2 := atS oz.1 (by rw [W.b]; exact oz.2.1)
      have bd := W.bd z.1 oz.1 oz.2.1
      have es : lsB los his (ts.take (i + 1)) = lsB los his (ts.take i) + (if 0 < z.2 then z.2 * at_ los z.1 else z.2 * at_ his z.1) := by
        unfold lsB
        rw [List.take_add_one, hz, List.map_append, List.sum_append]
        simp
      walk_at "cg"
      refine if_S (fun g => ?_) (fun g => ?_)
      · rw [es, if_pos (show 0 < z.2 from g)]
        walk_at "cg"
        refine r_ixSq Bx.l e1 ?_
        walk_at "cg"
        exact ⟨_, _, rfl, rfl⟩
      · rw [es, if_neg (show ¬ 0 < z.2 from g)]
        walk_at "cg"
        refine r_ixSq Bx.h e2 ?_
        walk_at "cg"
        exact ⟨_, _, rfl, rfl⟩
    · rintro σ' H' _ ⟨x3, x4, rfl, rfl⟩
      rw [List.take_length]
      walk_at "cg"
      exact k _ .refl
theorem ok_ends_wanted {f : Addr} {fd : FuncData} (F : Fun K "ends_wanted" "ends_wanted" s_ends_wanted f fd) (B : Bi K mg)  : FnOk P w K mg base CX0 1 f fd ["box", "literal"] (spEndsW K) := by
  have nd := sc_ends_wanted.nd
  refine F.ok sc_ends_wanted ?len (fun cdv A outer s H vs Q E hr h => ?body)
  case len =>
    rintro vs H Q E ⟨p, q1, q2, q, m, los, his, l, rfl, _⟩
    rfl
  case body =>
    obtain ⟨p, q1, q2, q, m, los, his, l, rfl, Bx, W, L, v0, v1, k⟩ := h
    refine ⟨_, (pss_cons (ps_asg (pv 1) (pg_tup (n := 3) rfl (pgs_cons (pg_name (i := 2) nd rfl (Or.inl rfl)) (pgs_cons (pg_name (i := 3) nd rfl (Or.inl rfl)) (pgs_cons (pg_name (i := 4) nd rfl (Or.inl rfl)) pgs_nil)))))
      (pss_cons (ps_set (i := 5) nd rfl (Or.inl rfl) (pe_ix (ixSq K) (pe_ix (ixT K) (pv 0) pe_int (fun _ _ => rfl)) (pv 2) (fun _ _ => rfl)))
      (pss_cons (ps_set (i := 6) nd rfl (Or.inl rfl) (pe_ix (ixSq K) (pe_ix (ixT K) (pv 0) pe_int (fun _ _ => rfl)) (pv 2) (fun _ _ => rfl)))
      (pss_cons (ps_set (i := 7) nd rfl (Or.inl rfl) (pe_lst pa_nil))
      (pss_cons (ps_if (PW.pt (pw_and (pt_cmpR (inS K) (pv 3) (pe_tup (pa_cons pe_str (pa_cons pe_str pa_nil))) rfl) (pw_and1 (pt_cmpR op_gt (pv 6) (pv 4) (nomark _)))))
      (pss_one (ps_expr (pe_bm PySem.F.plainAttrs_list PySem.F.slot_list_append PySem.F.type_list_append mt_append (pv 7) (pa_cons (pe_tup (pa_cons (pv 2) (pa_cons pe_str (pa_cons (pv 4) pa_nil)))) pa_nil))))
      pss_nil)
      (pss_cons (ps_if (PW.pt (pw_and (pt_cmpR (inS K) (pv 3) (pe_tup (pa_cons pe_str (pa_cons pe_str pa_nil))) rfl) (pw_and1 (pt_cmpR op_lt (pv 5) (pv 4) (nomark _)))))
      (pss_one (ps_expr (pe_bm PySem.F.plainAttrs_list PySem.F.slot_list_append PySem.F.type_list_append mt_append (pv 7) (pa_cons (pe_tup (pa_cons (pv 2) (pa_cons pe_str (pa_cons (pv 4) pa_nil)))) pa_nil))))
      pss_nil)
      (pss_cons (ps_if (PW.pt (pw_and (pt_cmpR op_eq (pv 3) pe_str (nomark _)) (pw_and1 (pt_cmpR op_eq (pv 5) (pv 4) (nomark _)))))
      (pss_one (ps_expr (pe_bm PySem.F.plainAttrs_list PySem.F.slot_list_append PySem.F.type_list_append mt_append (pv 7) (pa_cons (pe_tup (pa_cons (pv 2) (pa_cons pe_str (pa_cons (pe_op op_add (pv 4) pe_int) pa_nil)))) pa_nil))))
      pss_nil)
      (pss_cons (ps_if (PW.pt (pw_and (pt_cmpR op_eq (pv 3) pe_str (nomark _)) (pw_and1 (pt_cmpR op_eq (pv 6) (pv 4) (nomark _)))))
      (pss_one (ps_expr (pe_bm PySem.F.plainAttrs_list PySem.F.slot_list_append PySem.F.type_list_append mt_append (pv 7) (pa_cons (pe_tup (pa_cons (pv 2) (pa_cons pe_str (pa_cons (pe_op op_sub (pv 4) pe_int) pa_nil)))) pa_nil))))
      pss_nil)
      (pss_one (ps_ret (pv 7))))))))))), ?_⟩
    try dsimp only [L2.cxOf, L2.Cx.nox, L2.Cx.wish]
    rw [st_ends_wanted]
    obtain ⟨v, r, a⟩ := l
    dsimp only at L v0 v1 k
    have sb := Bx.b
    have e1 := atS v0 (by rw [W.a]; exact v1)
    have e2 := atS v0 (by rw [W.b]; exact v1)
    walk_at "cg"
    refine r_ixSq Bx.l e1 ?_
    walk_at "cg"
    refine r_ixSq Bx.h e2 ?_
    generalize at_ los v = lo at k
    generalize at_ his v = hi at k
    clear e1 e2 Bx sb W
    cases r with
    | le =>
      walk_at "cg"
      refine if_S (fun g => ?_) (fun g => ?_)
      · walk_at "cg"
        refine k _ _ _ (by walk_at "cg fr") (by walk_at "cg h") ?_ (by walk_at "cg kp")
        simp only [endsL, if_pos (show a < hi from g)]
        exact .cons (litI (l := ⟨v, .le, a⟩) (by walk_at "cg h")) .nil
      · walk_at "cg"
        refine k _ _ _ (by walk_at "cg fr") (by walk_at "cg h") ?_ (by walk_at "cg kp")
        simp only [endsL, if_neg (show ¬ a < hi from g)]
        exact .nil
    | ge =>
      walk_at "cg"
      refine if_S (fun g => ?_) (fun g => ?_)
      · walk_at "cg"
        refine k _ _ _ (by walk_at "cg fr") (by walk_at "cg h") ?_ (by walk_at "cg kp")
        simp only [endsL, if_pos g]
        exact .cons (litI (l := ⟨v, .ge, a⟩) (by walk_at "cg h")) .nil
      · walk_at "cg"
        refine k _ _ _ (by walk_at "cg fr") (by walk_at "cg h") ?_ (by walk_at "cg kp")
        simp only [endsL, if_neg g]
        exact .nil
    | eq =>
      walk_at "cg"
      refine if_S (fun g => ?_) (fun g => ?_)
      · walk_at "cg"
        refine if_S (fun g2 => ?_) (fun g2 => ?_)
        · walk_at "cg"
          refine k _ _ _ (by walk_at "cg fr") (by walk_at "cg h") ?_ (by walk_at "cg kp")
          simp only [endsL, if_pos (show a < hi from g), if_pos g2]
          exact .cons (litI (l := ⟨v, .le, a⟩) (by walk_at "cg h")) (.cons (litI (l := ⟨v, .ge, a⟩) (by walk_at "cg h")) .nil)
        · walk_at "cg"
          refine k _ _ _ (by walk_at "cg fr") (by walk_at "cg h") ?_ (by walk_at "cg kp")
          simp only [endsL, if_pos (show a < hi from g), if_neg g2]
          exact .cons (litI (l := ⟨v, .le, a⟩) (by walk_at "cg h")) .nil
      · walk_at "cg"
        refine if_S (fun g2 => ?_) (fun g2 => ?_)
        · walk_at "cg"
          refine k _ _ _ (by walk_at "cg fr") (by walk_at "cg h") ?_ (by walk_at "cg kp")
          simp only [endsL, if_neg (show ¬ a < hi from g), if_pos g2]
          exact .cons (litI (l := ⟨v, .ge, a⟩) (by walk_at "cg h")) .nil
        · walk_at "cg"
          refine k _ _ _ (by walk_at "cg fr") (by walk_at "cg h") ?_ (by walk_at "cg kp")
          simp only [endsL, if_neg (show ¬ a < hi from g), if_neg g2]
          exact .nil
    | ne =>
      walk_at "cg"
      refine if_S (fun g => ?_) (fun g => ?_)
      · walk_at "cg"
        refine if_S (fun g2 => ?_) (fun g2 => ?_)
        · walk_at "cg"
          refine k _ _ _ (by walk_at "cg fr") (by walk_at "cg h") ?_ (by walk_at "cg kp")
          simp only [endsL, if_pos g, if_pos g2]
          exact .cons (litI (l := ⟨v, .ge, a + 1⟩) (by walk_at "cg h")) (.cons (litI (l := ⟨v, .le, a - 1⟩) (by walk_at "cg h")) .nil)
        · walk_at "cg"
          refine k _ _ _ (by walk_at "cg fr") (by walk_at "cg h") ?_ (by walk_at "cg kp")
          simp only [endsL, if_pos g, if_neg g2]
          exact .cons (litI (l := ⟨v, .ge, a + 1⟩) (by walk_at "cg h")) .nil
      · walk_at "cg"
        refine if_S (fun g2 => ?_) (fun g2 => ?_)
        · walk_at "cg"
          refine k _ _ _ (by walk_at "cg fr") (by walk_at "cg h") ?_ (by walk_at "cg kp")
          simp only [endsL, if_neg g, if_pos g2]
          exact .cons (litI (l := ⟨v, .le, a - 1⟩) (by walk_at "cg h")) .nil
        · walk_at "cg"
          refine k _ _ _ (by walk_at "cg fr") (by walk_at "cg h") ?_ (by walk_at "cg kp")
          simp only [endsL, if_neg g, if_neg g2]
          exact .nil
theorem ok_row_ends {f : Addr} {fd : FuncData} (F : Fun K "row_ends" "row_ends" s_row_ends f fd) (B : Bi K mg) (D_least_sum : Is P w K mg base CX0 1 "least_sum" ["box", "terms"] (spLeastS K)) (D_ends_wanted : Is P w K mg base CX0 1 "ends_wanted" ["box", "literal"] (spEndsW K)) : FnOk P w K mg base CX0 2 f fd ["box", "row"] (spRowE K) := by
  have nd := sc_row_ends.nd
  refine F.ok sc_row_ends ?len (fun cdv A outer s H vs Q E hr h => ?body)
  case len =>
    rintro vs H Q E ⟨p, q1, q2, q, m, los, his, ts, n, rfl, _⟩
    rfl
  case body =>
    obtain ⟨p, q1, q2, q, m, los, his, ts, n, rfl, Bx, W, F, tw, kn, ks⟩ := h
    refine ⟨_, (pss_cons (ps_set (i := 2) nd rfl (Or.inl rfl) (pe_op op_sub (pe_ix (ixT K) (pv 1) pe_int (fun _ _ => rfl)) (pe_is D_least_sum (hr.mono (by decide)) rfl pass0 (pa_cons (pv 0) (pa_cons (pe_ix (ixT K) (pv 1) pe_int (fun _ _ => rfl)) pa_nil)))))
      (pss_cons (ps_if (pt_cmpR op_lt (pv 2) pe_int (nomark _))
      (pss_one (ps_ret pe_non))
      pss_nil)
      (pss_cons (ps_set (i := 3) nd rfl (Or.inl rfl) (pe_lst pa_nil))
      (pss_cons (ps_for PassesOwn.never rfl (pi_tup (pe_ix (ixT K) (pv 1) pe_int (fun _ _ => rfl))) (pg_tup (n := 2) rfl (pgs_cons (pg_name (i := 4) nd rfl (Or.inl rfl)) (pgs_cons (pg_name (i := 5) nd rfl (Or.inl rfl)) pgs_nil)))
      (pss_one (ps_if (pt_cmpR op_gt (pv 5) pe_int (nomark _))
      (pss_one (ps_expr (pe_bm PySem.F.plainAttrs_list PySem.F.slot_list_extend PySem.F.type_list_extend mt_extend (pv 3) (pa_cons (pe_is D_ends_wanted (hr.mono (by decide)) rfl pass0 (pa_cons (pv 0) (pa_cons (pe_tup (pa_cons (pv 4) (pa_cons pe_str (pa_cons (pe_op op_add (pe_ix (ixSq K) (pe_ix (ixT K) (pv 0) pe_int (fun _ _ => rfl)) (pv 4) (fun _ _ => rfl)) (pe_op op_fdivW (pv 2) (pv 5))) pa_nil)))) pa_nil))) pa_nil))))
      (pss_one (ps_expr (pe_bm PySem.F.plainAttrs_list PySem.F.slot_list_extend PySem.F.type_list_extend mt_extend (pv 3) (pa_cons (pe_is D_ends_wanted (hr.mono (by decide)) rfl pass0 (pa_cons (pv 0) (pa_cons (pe_tup (pa_cons (pv 4) (pa_cons pe_str (pa_cons (pe_op op_sub (pe_ix (ixSq K) (pe_ix (ixT K) (pv 0) pe_int (fun _ _ => rfl)) (pv 4) (fun _ _ => rfl)) (pe_op op_fdivW (pv 2) (pe_un un_neg (pv 5)))) pa_nil)))) pa_nil))) pa_nil)))))))
      (pss_one (ps_ret (pv 3))))))), ?_⟩
    try dsimp only [L2.cxOf, L2.Cx.nox, L2.Cx.wish]
    rw [st_row_ends]
    obtain ⟨qt, s0, it⟩ := row_open F
    obtain ⟨xs, s1, i1⟩ := Im.open it
    have sb := Bx.b
    walk_at "cg"
    refine ⟨p, q1, q2, qt, m, los, his, ts, rfl, Bx, W, it, tw, fun H1 k1 => ?_⟩
    have B1 := Bx.kp0 k1
    have sb1 := B1.b
    have s01 := k1.tup s0
    have s11 := k1.tup s1
    have i11 := k1.imAll i1
    walk_at "cg"
    refine if_S (fun g => ?_) (fun g => ?_)
    · walk_at "cg"
      exact kn _ (by unfold rowE; rw [if_pos g]) k1
    · have er : rowE los his ts n = some (ts.flatMap (rowT los his (n - lsB los his ts))) := by unfold rowE; rw [if_neg g]
      generalize n - lsB los his ts = sl at er g
      walk_at "cg"
      rename_i d H2 hd ed k2
      have B2 := B1.kp0 k2
      have sb2 := B2.b
      have f1 : H d = none := k1.free0 hd
      have K2 := Kp.tr0 k2 k1
      clear Bx sb B1 sb1 s0 s01 k1
      refine r_forTI [d] (k2.tup s11) (k2.imAll i11) (fun i σ' H' => ∃ (refs : List V) (x5 x6 : Option V), σ' = [some (.ref p), some (.ref q), some (.int sl), some (.ref d), x5, x6] ∧ H' d = some (.lst refs) ∧ ImAll K H' refs (((ts.take i).flatMap (rowT los his sl)).map Lit.d) ∧ refs.length ≤ 2 * i ∧ Kp [d] H2 H') ⟨[], _, _, rfl, ed, .nil, by simp, Kp.base fun b hb => by rw [List.mem_singleton] at hb; rw [hb, ed]; trivial⟩ (fun i σ' H' ⟨_, _, _, _, _, _, _, h⟩ => h) ?_ ?_
      · rintro i z x σ' H3 hz hx _ ⟨refs, x5, x6, rfl, e3, A3, l3, k3⟩
        obtain ⟨px, rfl, sx⟩ := term_at hx
        have hi : i < ts.length := (List.getElem?_eq_some_iff.mp hz).1
        have h60 := tw.1
        have oz := tw.2 z (List.mem_of_getElem? hz)
        have e1 := atS oz.1 (by rw [W.a]; exact oz.2.1)
        have e2 := atS oz.1 (by rw [W.b]; exact oz.2.1)
        have nq1 : q1 ≠ d ∨ SqT K H2 q1 (los.map V.int) := by
          rcases B2.l with h | h
          · left
            intro e
            rw [e] at h
            rw [ed] at h
            have hlen : ([] : List V).length = (los.map V.int).length := by injection h with h; injection h with h; rw [h]
            rw [List.length_map, W.a] at hlen
            simp only [List.length_nil] at hlen
            omega
          · exact .inr h
        have nq2 : q2 ≠ d ∨ SqT K H2 q2 (his.map V.int) := by
          rcases B2.h with h | h
          · left
            intro e
            rw [e] at h
            rw [ed] at h
            have hlen : ([] : List V).length = (his.map V.int).length := by injection h with h; injection h with h; rw [h]
            rw [List.length_map, W.b] at hlen
            simp only [List.length_nil] at hlen
            omega
          · exact .inr h
        have B3 : BoxP K H3 p q1 q2 los his := ⟨k3.tup B2.b, (by
          rcases nq1 with h | h
          · exact B2.l.kp k3 (by simpa using h)
          · exact .inr (k3.tup h)), (by
          rcases nq2 with h | h
          · exact B2.h.kp k3 (by simpa using h)
          · exact .inr (k3.tup h))⟩
        have sb3 := B3.b
        have es : (ts.take (i + 1)).flatMap (rowT los his sl) = (ts.take i).flatMap (rowT los his sl) ++ rowT los his sl z := by
          rw [List.take_add_one, hz, List.flatMap_append]
          simp
        have fin : ∀ (H5 : Hp) (d5 : Addr) (refs5 : List V), Kp [] H3 H5 → H5 d5 = some (.lst refs5) → ImAll K H5 refs5 ((rowT los his sl z).map Lit.d) → refs5.length ≤ 2 → ∀ (R : VK), (∀ H6, (∃ (refs : List V), H6 d = some (.lst refs) ∧ ImAll K H6 refs (((ts.take (i + 1)).flatMap (rowT los his sl)).map Lit.d) ∧ refs.length ≤ 2 * (i + 1) ∧ Kp [d] H2 H6) → R .non H6) → rExtend (.ref d) [.ref d5] H5 R := fun H5 d5 refs5 k5 e5 A5 l5 R hR => by
          refine r_ext (k5.get0 e3) e5 (by omega) fun H6 e6 k6 => hR H6 ⟨_, e6, ?_, ?_, Kp.tr1 k6 (Kp.tr0 k5 k3)⟩
          · rw [es, List.map_append]
            have A6 := k6.imAll A5
            have B6 := k6.imAll (k5.imAll A3)
            exact imAll_ap B6 A6
          · rw [List.length_append]
            omega
        walk_at "cg"
        refine if_S (fun gc => ?_) (fun gc => ?_)
        · have gc : 0 < z.2 := gc
          have cw : CDivW sl z.2 := wide_div (b := 60) gc (show z.2.natAbs < 1152921504606846976 by omega) (by decide) (by decide)
          have et : rowT los his sl z = endsL (at_ los z.1) (at_ his z.1) ⟨z.1, .le, at_ los z.1 + sl / z.2⟩ := by unfold rowT; rw [if_pos gc]
          walk_at "cg"
          refine r_ixSq B3.l e1 ?_
          walk_at "cg"
          rename_i p4 H4 hp4 s4 k4
          refine ⟨p, q1, q2, p4, m, los, his, ⟨z.1, .le, at_ los z.1 + sl / z.2⟩, rfl, B3.kp0 k4, W, s4, oz.1, oz.2.1, fun d5 refs5 H5 hd5 e5 A5 k5 => ?_⟩
          walk_at "cg"
          refine fin H5 d5 refs5 (Kp.tr0 k5 k4) e5 (by rw [et]; exact A5) (Nat.le_trans (Nat.le_of_eq (mapLenP A5)) (endsL_len _ _ _)) _ fun H6 ⟨refs6, a, b, c, d'⟩ => ?_
          walk_at "cg"
          exact ⟨refs6, _, _, rfl, a, b, c, d'⟩
        · have gc : ¬ 0 < z.2 := gc
          have cw : CDivW sl (-z.2) := wide_div (b := 60) (by omega) (show (-z.2).natAbs < 1152921504606846976 by omega) (by decide) (by decide)
          have et : rowT los his sl z = endsL (at_ los z.1) (at_ his z.1) ⟨z.1, .ge, at_ his z.1 - sl / -z.2⟩ := by unfold rowT; rw [if_neg gc]
          walk_at "cg"
          refine r_ixSq B3.h e2 ?_
          walk_at "cg"
          rename_i p4 H4 hp4 s4 k4
          refine ⟨p, q1, q2, p4, m, los, his, ⟨z.1, .ge, at_ his z.1 - sl / -z.2⟩, rfl, B3.kp0 k4, W, s4, oz.1, oz.2.1, fun d5 refs5 H5 hd5 e5 A5 k5 => ?_⟩
          walk_at "cg"
          refine fin H5 d5 refs5 (Kp.tr0 k5 k4) e5 (by rw [et]; exact A5) (Nat.le_trans (Nat.le_of_eq (mapLenP A5)) (endsL_len _ _ _)) _ fun H6 ⟨refs6, a, b, c, d'⟩ => ?_
          walk_at "cg"
          exact ⟨refs6, _, _, rfl, a, b, c, d'⟩
      · rintro σ' H3 _ ⟨refs, x5, x6, rfl, e3, A3, l3, k3⟩
        rw [List.take_length] at A3
        walk_at "cg"
        exact ks _ _ _ _ er f1 e3 A3 (Kp.trN k3 K2 f1)
theorem ok_clause_ends {f : Addr} {fd : FuncData} (F : Fun K "clause_ends" "clause_ends" s_clause_ends f fd) (B : Bi K mg) (D_ends_wanted : Is P w K mg base CX0 1 "ends_wanted" ["box", "literal"] (spEndsW K)) (D_is_possible : Is P w K mg base CX0 1 "is_possible" ["box", "literal"] (spPoss K)) : FnOk P w K mg base CX0 2 f fd ["box", "clause"] (spClauseE K) := by
  have nd := sc_clause_ends.nd
  refine F.ok sc_clause_ends ?len (fun cdv A outer s H vs Q E hr h => ?body)
  case len =>
    rintro vs H Q E ⟨p, q1, q2, q, m, los, his, ls, rfl, _⟩
    rfl
  case body =>
    obtain ⟨p, q1, q2, q, m, los, his, ls, rfl, Bx, W, F, l60, lv, kn, ks⟩ := h
    refine ⟨_, (pss_cons (ps_setLc (i := 2) (own := [("literal", 3)]) (g := (gName 3)) rfl nd rfl rfl (sw_true rfl rfl rfl (by decide +kernel)) (pi_tup (pe_ix (ixT K) (pv 1) pe_int (fun _ _ => rfl))) (blkOk_by (N := ["box", "clause", "live", "literal"]) (sc := defScope s_clause_ends) (by decide +kernel)) (fun _ _ _ _ _ => (pg_name (i := 3) nd rfl (Or.inl rfl))) (fun _ _ _ _ _ => pts_one (pt_val (pe_is D_is_possible (hr.mono (by decide)) rfl pass0 (pa_cons (pv 0) (pa_cons (pv 3) pa_nil))))) (fun _ _ _ _ _ => (pv 3)))
      (pss_cons (ps_if (pt_cmpR op_eq (pe_callB (cgLen K) (by rfl) B.n_len PySem.boot_len (pa_cons (pv 2) pa_nil)) pe_int (nomark _))
      (pss_one (ps_ret pe_non))
      pss_nil)
      (pss_cons (ps_if (pt_cmpR op_gt (pe_callB (cgLen K) (by rfl) B.n_len PySem.boot_len (pa_cons (pv 2) pa_nil)) pe_int (nomark _))
      (pss_one (ps_ret (pe_lst pa_nil)))
      pss_nil)
      (pss_one (ps_ret (pe_is D_ends_wanted (hr.mono (by decide)) rfl pass0 (pa_cons (pv 0) (pa_cons (pe_ix (ixL K) (pv 2) pe_int (fun _ _ => rfl)) pa_nil)))))))), ?_⟩
    try dsimp only [L2.cxOf, L2.Cx.nox, L2.Cx.wish]
    rw [st_clause_ends]
    obtain ⟨ql, s0, il⟩ := any_open F
    obtain ⟨xs, s1, i1⟩ := Im.open il
    walk_at "cg"
    refine lcT_f (K := K) (xs := xs) (as := ls) (d := Lit.d) s1 i1 (fun l => if possB (at_ los l.v) (at_ his l.v) l then some l.d else none) (by omega) (fun j l x H' R R' hl k4 hx r1 r2 => ?_) (fun D H1 acc hD eD hA k1 => ?_)
    · obtain ⟨px, rfl, L⟩ := lit_at hx
      have ol := lv l (List.mem_of_getElem? hl)
      walk_at "cg"
      refine ⟨p, q1, q2, px, m, los, his, l, rfl, Bx.kp0 k4, W, L, ol.1, ol.2, fun H5 k5 => ?_⟩
      walk_at "cg"
      refine if_B (fun g => ?_) (fun g => ?_)
      · walk_at "cg"
        exact r1 _ _ l.d (by rw [if_pos g]) (k5.im hx) k5
      · exact r2 _ (by rw [g]; rfl) k5
    have hA2 : ImAll K H1 acc ((ls.filter fun l => possB (at_ los l.v) (at_ his l.v) l).map Lit.d) := by
      have e : ls.filterMap (fun l => if possB (at_ los l.v) (at_ his l.v) l then some l.d else none) = (ls.filter fun l => possB (at_ los l.v) (at_ his l.v) l).map Lit.d := by
        clear eD hA hD i1 s1 il s0 F lv l60 kn ks
        induction ls with
        | nil => rfl
        | cons l ls ih =>
          rw [List.filterMap_cons, List.filter_cons]
          by_cases g : possB (at_ los l.v) (at_ his l.v) l = true
          · rw [if_pos g, if_pos g, List.map_cons, ← ih]
          · rw [if_neg g, if_neg g, ← ih]
      rw [← e]
      exact hA
    have hal := mapLenP hA2
    have hlv : ∀ l ∈ ls.filter fun l => possB (at_ los l.v) (at_ his l.v) l, 0 ≤ l.v ∧ l.v < m := fun l hl => lv l (List.mem_filter.mp hl).1
    have ec : clauseE los his ls = (match ls.filter fun l => possB (at_ los l.v) (at_ his l.v) l with | [] => none | [l] => some (endsL (at_ los l.v) (at_ his l.v) l) | _ :: _ :: _ => some []) := rfl
    have B1 := Bx.kp0 k1
    clear hA
    generalize ls.filter (fun l => possB (at_ los l.v) (at_ his l.v) l) = fs at hA2 hal hlv ec
    match fs, hA2, hal, hlv, ec with
    | [], hA2, hal, hlv, ec =>
      simp only [List.length_nil] at hal
      walk_at "cg"
      exact kn _ ec k1
    | [l], hA2, hal, hlv, ec =>
      simp only [List.length_cons, List.length_nil] at hal
      cases hA2 with
      | cons h1 h2 =>
      cases h2
      obtain ⟨px, rfl, L⟩ := lit_at h1
      have ol := hlv l List.mem_cons_self
      walk_at "cg"
      refine ⟨p, q1, q2, px, m, los, his, l, rfl, B1, W, L, ol.1, ol.2, fun d5 refs5 H5 hd5 e5 A5 k5 => ?_⟩
      exact ks _ _ _ _ ec (k1.free0 hd5) e5 A5 (Kp.tr0 k5 k1)
    | l :: l' :: fs, hA2, hal, hlv, ec =>
      simp only [List.length_cons] at hal
      walk_at "cg"
      exact ks _ _ _ _ ec (by walk_at "cg fr") (by assumption) .nil (by walk_at "cg kp")
end
/-! ### all points of some unknowns, the others 0 -/
def putP (v : Nat) (xs : List Int) (pt : List Int) : List (List Int) := xs.map fun x => pt.take v ++ [x] ++ pt.drop (v + 1)
def chsL (n : Nat) (ws : List Int) (D : Dm) : Nat → List (List Int)
  | 0 => [List.replicate n 0]
  | i + 1 => if (i : Int) ∈ ws then (chsL n ws D i).flatMap (putP i (D i)) else chsL n ws D i
theorem put_set {pt : List Int} {i : Nat} {x : Int} (h : i < pt.length) : pt.take i ++ [x] ++ pt.drop (i + 1) = pt.set i x := by
  rw [List.set_eq_take_append_cons_drop, if_pos h]
  simp
theorem at_put {pt : List Int} {i : Nat} {x v : Int} (h : i < pt.length) (hv : 0 ≤ v) : at_ (pt.set i x) v = if v = i then x else at_ pt v := by
  unfold at_
  rw [List.getD_eq_getElem?_getD, List.getD_eq_getElem?_getD, List.getElem?_set]
  by_cases e : v = i
  · rw [if_pos e, if_pos (by omega), if_pos h]
    rfl
  · rw [if_neg e, if_neg (by omega)]
theorem chsL_snd {n : Nat} {ws : List Int} {D : Dm} : ∀ (i : Nat), i ≤ n → ∀ pt ∈ chsL n ws D i, pt.length = n ∧ ∀ v : Int, 0 ≤ v → v < i → v ∈ ws → at_ pt v ∈ D v
  | 0, _, pt, h => by
    rw [show chsL n ws D 0 = [List.replicate n 0] from rfl, List.mem_singleton] at h
    subst h
    exact ⟨by simp, fun v h0 h1 => by omega⟩
  | i + 1, hi, pt, h => by
    unfold chsL at h
    by_cases e : (i : Int) ∈ ws
    · rw [if_pos e] at h
      obtain ⟨p0, hp0, h2⟩ := List.mem_flatMap.mp h
      obtain ⟨x, hx, rfl⟩ := List.mem_map.mp h2
      obtain ⟨l0, q0⟩ := chsL_snd i (by omega) p0 hp0
      rw [put_set (by omega)]
      refine ⟨by rw [List.length_set]; exact l0, fun v h0 h1 hw => ?_⟩
      rw [at_put (by omega) h0]
      by_cases ev : v = i
      · rw [if_pos ev, ev]; exact hx
      · rw [if_neg ev]; exact q0 v h0 (by omega) hw
    · rw [if_neg e] at h
      obtain ⟨l0, q0⟩ := chsL_snd i (by omega) pt h
      refine ⟨l0, fun v h0 h1 hw => q0 v h0 ?_ hw⟩
      by_cases ev : v = i
      · exact absurd (ev ▸ hw) e
      · omega
theorem chsL_cmp {n : Nat} {ws : List Int} {D : Dm} {g : Pt} (hg : ∀ v ∈ ws, 0 ≤ v → v < n → g v ∈ D v) : ∀ (i : Nat), i ≤ n → ∃ pt ∈ chsL n ws D i, pt.length = n ∧ ∀ v : Int, 0 ≤ v → v < i → v ∈ ws → at_ pt v = g v
  | 0, _ => ⟨_, List.mem_singleton.mpr rfl, by simp, fun v h0 h1 => by omega⟩
  | i + 1, hi => by
    obtain ⟨p0, h0, l0, q0⟩ := chsL_cmp hg i (by omega)
    unfold chsL
    by_cases e : (i : Int) ∈ ws
    · rw [if_pos e]
      refine ⟨p0.set i (g i), List.mem_flatMap.mpr ⟨p0, h0, List.mem_map.mpr ⟨g i, hg i e (by omega) (by omega), put_set (by omega)⟩⟩, by rw [List.length_set]; exact l0, fun v hv0 hv1 hw => ?_⟩
      rw [at_put (by omega) hv0]
      by_cases ev : v = i
      · rw [if_pos ev, ev]
      · rw [if_neg ev]; exact q0 v hv0 (by omega) hw
    · rw [if_neg e]
      refine ⟨p0, h0, l0, fun v hv0 hv1 hw => q0 v hv0 ?_ hw⟩
      by_cases ev : v = i
      · exact absurd (ev ▸ hw) e
      · omega
theorem chs_all {n : Nat} {ws : List Int} {D : Dm} (hw : ∀ v ∈ ws, 0 ≤ v ∧ v < n) : ChAll (canon n ws) D ((chsL n ws D n).map at_) := by
  have mc : ∀ v, v ∈ canon n ws ↔ v ∈ ws := fun v => by
    unfold canon
    rw [List.mem_filter, mem_upTo, decide_eq_true_eq]
    exact ⟨fun h => h.2, fun h => ⟨hw v h, h⟩⟩
  refine ⟨fun g hg v hv => ?_, fun g hg => ?_⟩
  · obtain ⟨pt, hp, rfl⟩ := List.mem_map.mp hg
    have hv' := (mc v).mp hv
    exact (chsL_snd n (Nat.le_refl _) pt hp).2 v (hw v hv').1 (hw v hv').2 hv'
  · obtain ⟨pt, hp, _, q⟩ := chsL_cmp (n := n) (ws := ws) (D := D) (g := g) (fun v hv _ _ => hg v ((mc v).mpr hv)) n (Nat.le_refl _)
    exact ⟨at_ pt, List.mem_map.mpr ⟨pt, hp, rfl⟩, fun v hv => q v (hw v ((mc v).mp hv)).1 (hw v ((mc v).mp hv)).2 ((mc v).mp hv)⟩
theorem chsL_len {n : Nat} {ws : List Int} {D : Dm} (h : ∀ v, (D v).length ≤ 4) : ∀ i, (chsL n ws D i).length ≤ 4 ^ i
  | 0 => Nat.le_refl _
  | i + 1 => by
    have ih := chsL_len (n := n) (ws := ws) h i
    have e : ∀ L : List (List Int), (L.flatMap (putP i (D i))).length ≤ L.length * 4 := fun L => by
      induction L with
      | nil => exact Nat.le_refl _
      | cons z L ih =>
        rw [List.flatMap_cons, List.length_append, List.length_cons]
        have : (putP i (D i) z).length ≤ 4 := by
          unfold putP
          rw [List.length_map]
          exact h i
        omega
    unfold chsL
    rw [Nat.pow_succ]
    split
    · exact Nat.le_trans (e _) (Nat.mul_le_mul_right 4 ih)
    · exact Nat.le_trans ih (by omega)
theorem chsL_bd {n : Nat} {ws : List Int} {D : Dm} (hD : ∀ v a, a ∈ D v → -1000 ≤ a ∧ a ≤ 1000) : ∀ (i : Nat), i ≤ n → ∀ pt ∈ chsL n ws D i, pt.length = n ∧ ∀ v : Int, 0 ≤ v → -1000 ≤ at_ pt v ∧ at_ pt v ≤ 1000
  | 0, _, pt, h => by
    rw [show chsL n ws D 0 = [List.replicate n 0] from rfl, List.mem_singleton] at h
    subst h
    refine ⟨by simp, fun v h0 => ?_⟩
    have e : at_ (List.replicate n 0) v = 0 := by
      unfold at_
      rw [List.getD_eq_getElem?_getD, List.getElem?_replicate]
      split <;> rfl
    rw [e]
    exact ⟨by decide, by decide⟩
  | i + 1, hi, pt, h => by
    unfold chsL at h
    by_cases e : (i : Int) ∈ ws
    · rw [if_pos e] at h
      obtain ⟨p0, hp0, h2⟩ := List.mem_flatMap.mp h
      obtain ⟨x, hx, rfl⟩ := List.mem_map.mp h2
      obtain ⟨l0, q0⟩ := chsL_bd hD i (by omega) p0 hp0
      rw [put_set (by omega)]
      refine ⟨by rw [List.length_set]; exact l0, fun v h0 => ?_⟩
      rw [at_put (by omega) h0]
      by_cases ev : v = i
      · rw [if_pos ev]; exact hD _ x hx
      · rw [if_neg ev]; exact q0 v h0
    · rw [if_neg e] at h
      exact chsL_bd hD i (by omega) pt h

/-! ### the law's own reading of a box of two lists (from k66law.inc, with more told of what comes out) -/
structure BxL (H : Hp) (p q1 q2 : Addr) (los his : List Int) : Prop where
  b : H p = some (.lst [.ref q1, .ref q2])
  l : H q1 = some (.lst (los.map V.int))
  h : H q2 = some (.lst (his.map V.int))
theorem BxL.kp0 {H H' : Hp} {p q1 q2 : Addr} {los his : List Int} (k : Kp [] H H') (h : BxL H p q1 q2 los his) : BxL H' p q1 q2 los his := ⟨k.get0 h.b, k.get0 h.l, k.get0 h.h⟩
theorem BxL.kp1 {H H' : Hp} {p q1 q2 t : Addr} {los his : List Int} (k : Kp [t] H H') (h : BxL H p q1 q2 los his) (n0 : p ≠ t) (n1 : q1 ≠ t) (n2 : q2 ≠ t) : BxL H' p q1 q2 los his := ⟨k.get1 n0 h.b, k.get1 n1 h.l, k.get1 n2 h.h⟩
/-- bad ends told by the law: None, or a list that is empty or not -/
def Rs (D : PyData) (b : Bool) : Prop := (D = .none ∧ b = false) ∨ ∃ ds, D = .list ds ∧ (∀ d ∈ ds, Shp 1 d) ∧ (ds = [] ↔ b = true)
theorem Rs.shp {D : PyData} {b : Bool} (h : Rs D b) : SeqAt.shaped D = true := by
  rcases h with ⟨rfl, _⟩ | ⟨ds, rfl, h, _⟩
  · exact (Shp.none (n := 1)).ok
  · exact (Shp.list h).ok
theorem Rs.eqv {D : PyData} {b : Bool} (h : Rs D b) : PyData.eqv D (.list []) = b := by
  rcases h with ⟨rfl, rfl⟩ | ⟨ds, rfl, h, g⟩
  · simp [PyData.eqv]
  · cases ds with
    | nil =>
      rw [g.mp rfl]
      exact (Shp.list (n := 1) (ds := []) (fun d hd => by cases hd)).self
    | cons d ds =>
      have : b = false := by
        cases b with
        | false => rfl
        | true => cases g.mpr rfl
      rw [this]
      simp [PyData.eqv, PyData.eqvAll]
theorem r_eqRs {K : PySem.W.Frag} {H : Hp} {Q : VK} {x : V} {q : Addr} {D : PyData} {b : Bool} (h1 : Dp K H x D) (hr : Rs D b) (h2 : H q = some (.lst [])) (k : Q (.bl b) H) : rEqD K x (.ref q) H Q := by
  refine ⟨D, .list [], h1, .lst (SqL.of h2) .nil, hr.shp, (Shp.list (n := 1) (ds := []) (fun d hd => by cases hd)).ok, ?_⟩
  rw [hr.eqv]
  exact k
def two (v : Int) (s : Int) : PyData := .tuple [.int v, .int s]
theorem two_shp (v s : Int) : Shp 1 (two v s) := .tup fun d hd => by
  simp only [List.mem_cons, List.not_mem_nil, or_false] at hd
  rcases hd with rfl | rfl <;> exact .int _
theorem two_im {K : PySem.W.Frag} {H : Hp} {p : Addr} {v s : Int} (h : SqT K H p [.int v, .int s]) : Im K H (.ref p) (two v s) := .tup h (.cons (.int _) (.cons (.int _) .nil))
theorem im_dpL {K : PySem.W.Frag} {H : Hp} {d : Addr} {refs : List V} {ds : List PyData} (e : H d = some (.lst refs)) (A : ImAll K H refs ds) : Dp K H (.ref d) (.list ds) := .lst (SqL.of e) (ImAll.dp A)
/-! #### plain -/
theorem poss_ex {lo hi : Int} (h : lo ≤ hi) (l : Lit) : ((rgI lo (hi + 1)).map fun x => l.r.h x l.a).any id = possB lo hi l := by
  obtain ⟨v, r, a⟩ := l
  rw [Bool.eq_iff_iff, List.any_map, List.any_eq_true]
  constructor
  · rintro ⟨x, hx, hp⟩
    rw [rgI_mem] at hx
    have hp : r.h x a = true := hp
    cases r <;> simp only [Rel.h, decide_eq_true_eq, possB, Bool.and_eq_true, Bool.or_eq_true] at hp ⊢ <;> omega
  · intro hp
    cases r <;> simp only [decide_eq_true_eq, possB, Bool.and_eq_true, Bool.or_eq_true] at hp
    · exact ⟨lo, rgI_mem.mpr (by omega), by simp [Rel.h]; omega⟩
    · exact ⟨hi, rgI_mem.mpr (by omega), by simp [Rel.h]; omega⟩
    · exact ⟨a, rgI_mem.mpr (by omega), by simp [Rel.h]⟩
    · rcases hp with g | g
      · exact ⟨lo, rgI_mem.mpr (by omega), by simp [Rel.h]; omega⟩
      · exact ⟨hi, rgI_mem.mpr (by omega), by simp [Rel.h]; omega⟩
theorem sure_all {lo hi : Int} (h : lo ≤ hi) (v : Int) (r : Rel) (a : Int) : ((rgI lo (hi + 1)).map fun x => r.h x a).all id = !possB lo hi ⟨v, r.neg, r.nnum a⟩ := by
  have e := poss_ex h ⟨v, r.neg, r.nnum a⟩
  rw [← e, Bool.eq_iff_iff, List.all_map, Bool.not_eq_true', ← Bool.not_eq_true, List.any_map, List.any_eq_true, List.all_eq_true]
  have n : ∀ x, r.neg.h x (r.nnum a) = !r.h x a := fun x => by
    cases r <;> simp only [Rel.neg, Rel.nnum, Rel.h] <;> rw [Bool.eq_iff_iff] <;> simp <;> omega
  constructor
  · rintro q ⟨x, hx, hp⟩
    have h1 : r.h x a = true := q x hx
    have h2 : r.neg.h x (r.nnum a) = true := hp
    rw [n, h1] at h2
    cases h2
  · intro q x hx
    show r.h x a = true
    cases g : r.h x a with
    | true => rfl
    | false => exact absurd ⟨x, hx, by show r.neg.h x (r.nnum a) = true; rw [n, g]; rfl⟩ q
theorem min_prod {lo hi c m : Int} (h : lo ≤ hi) (hm : m ∈ (rgI lo (hi + 1)).map fun x => c * x) (hl : ∀ y ∈ (rgI lo (hi + 1)).map fun x => c * x, m ≤ y) : m = if 0 < c then c * lo else c * hi := by
  obtain ⟨x, hx, rfl⟩ := List.mem_map.mp hm
  rw [rgI_mem] at hx
  have h1 := hl (c * lo) (List.mem_map.mpr ⟨lo, rgI_mem.mpr (by omega), rfl⟩)
  have h2 := hl (c * hi) (List.mem_map.mpr ⟨hi, rgI_mem.mpr (by omega), rfl⟩)
  split
  · rename_i g
    have := Int.mul_le_mul_of_nonneg_left (show lo ≤ x by omega) (show 0 ≤ c by omega)
    omega
  · rename_i g
    have := Int.mul_le_mul_of_nonpos_left (show c ≤ 0 by omega) (show x ≤ hi by omega)
    omega
theorem max_prod {lo hi c m : Int} (h : lo ≤ hi) (hm : m ∈ (rgI lo (hi + 1)).map fun x => c * x) (hl : ∀ y ∈ (rgI lo (hi + 1)).map fun x => c * x, y ≤ m) : m = if 0 < c then c * hi else c * lo := by
  obtain ⟨x, hx, rfl⟩ := List.mem_map.mp hm
  rw [rgI_mem] at hx
  have h1 := hl (c * lo) (List.mem_map.mpr ⟨lo, rgI_mem.mpr (by omega), rfl⟩)
  have h2 := hl (c * hi) (List.mem_map.mpr ⟨hi, rgI_mem.mpr (by omega), rfl⟩)
  split
  · rename_i g
    have := Int.mul_le_mul_of_nonneg_left (show x ≤ hi by omega) (show 0 ≤ c by omega)
    omega
  · rename_i g
    have := Int.mul_le_mul_of_nonpos_left (show c ≤ 0 by omega) (show lo ≤ x by omega)
    omega
/-- the least and the greatest product -/
def mnP (los his : List Int) (z : Int × Int) : Int := if 0 < z.2 then z.2 * at_ los z.1 else z.2 * at_ his z.1
def mxP (los his : List Int) (z : Int × Int) : Int := if 0 < z.2 then z.2 * at_ his z.1 else z.2 * at_ los z.1
def badT (los his : List Int) (s : Int) (z : Int × Int) : Bool := decide (s < mxP los his z - mnP los his z)
theorem rowT_nil {los his : List Int} {s : Int} {z : Int × Int} (nz : z.2 ≠ 0) : rowT los his s z = [] ↔ badT los his s z = false := by
  unfold rowT badT mxP mnP
  rw [decide_eq_false_iff_not]
  split
  · rename_i g
    generalize at_ los z.1 = lo
    generalize at_ his z.1 = hi
    simp only [endsL]
    have e : (lo + s / z.2 < hi) ↔ s < z.2 * hi - z.2 * lo := by
      rw [← Int.mul_sub, show (lo + s / z.2 < hi) ↔ s / z.2 < hi - lo by omega, Int.ediv_lt_iff_lt_mul g, Int.mul_comm]
    split
    · rename_i g2
      have := e.mp g2
      simp
      omega
    · rename_i g2
      have : ¬ s < z.2 * hi - z.2 * lo := fun h => g2 (e.mpr h)
      simp
      omega
  · rename_i g
    generalize at_ los z.1 = lo
    generalize at_ his z.1 = hi
    simp only [endsL]
    have g : 0 < -z.2 := by omega
    have e : (lo < hi - s / -z.2) ↔ s < z.2 * lo - z.2 * hi := by
      rw [← Int.mul_sub, show (lo < hi - s / -z.2) ↔ s / -z.2 < hi - lo by omega, Int.ediv_lt_iff_lt_mul g, show (hi - lo) * -z.2 = z.2 * (lo - hi) by rw [Int.mul_neg, Int.mul_comm, ← Int.mul_neg, Int.neg_sub]]
    split
    · rename_i g2
      have := e.mp g2
      simp
      omega
    · rename_i g2
      have : ¬ s < z.2 * lo - z.2 * hi := fun h => g2 (e.mpr h)
      simp
      omega
theorem row_nil {los his : List Int} {ts : Tms} {n : Int} (nz : ∀ z ∈ ts, z.2 ≠ 0) : rowE los his ts n = some [] ↔ ¬ n < lsB los his ts ∧ ts.filter (badT los his (n - lsB los his ts)) = [] := by
  unfold rowE
  generalize lsB los his ts = L
  by_cases g : n - L < 0
  · rw [if_pos g]
    exact ⟨fun h => (by cases h), fun h => absurd g (by omega)⟩
  · rw [if_neg g, Option.some.injEq, List.filter_eq_nil_iff, List.flatMap_eq_nil_iff]
    refine ⟨fun h => ⟨by omega, fun z hz q => ?_⟩, fun h z hz => ?_⟩
    · rw [(rowT_nil (nz z hz)).mp (h z hz)] at q
      cases q
    · exact (rowT_nil (nz z hz)).mpr (by simpa using h.2 z hz)
theorem lsB_take {los his : List Int} {ts : Tms} {i : Nat} {z : Int × Int} (h : ts[i]? = some z) : lsB los his (ts.take (i + 1)) = lsB los his (ts.take i) + mnP los his z := by
  unfold lsB mnP
  rw [List.take_add_one, h, List.map_append, List.sum_append]
  simp
def spValues (K : PySem.W.Frag) : Sp := fun vs H Q _ => ∃ (p q1 q2 : Addr) (m : Nat) (los his : List Int) (v : Int), vs = [.ref p, .int v] ∧ BxL H p q1 q2 los his ∧ BxW m los his ∧ 0 ≤ v ∧ v < m ∧ ∀ (d : Addr) H', H d = none → H' d = some (.lst ((rgI (at_ los v) (at_ his v + 1)).map V.int)) → Kp [] H H' → Q (.ref d) H'
def spLLeast66 (K : PySem.W.Frag) : Sp := fun vs H Q _ => ∃ (p q1 q2 q : Addr) (m : Nat) (los his : List Int) (ts : Tms), vs = [.ref p, .ref q] ∧ BxL H p q1 q2 los his ∧ BxW m los his ∧ (∀ v : Int, 0 ≤ v → v < m → at_ his v - at_ los v ≤ 1000) ∧ Im K H (.ref q) (tmD ts) ∧ tmW m ts ∧ ∀ H', Kp [] H H' → Q (.int (lsB los his ts)) H'
/-- what is bad: None, or a list that is empty or not -/
def Ro (K : PySem.W.Frag) (H : Hp) (x : V) (b : Bool) : Prop := (x = .non ∧ b = false) ∨ ∃ (d : Addr) (refs : List V) (ds : List PyData), x = .ref d ∧ H d = some (.lst refs) ∧ ImAll K H refs ds ∧ (∀ d ∈ ds, Shp 1 d) ∧ (ds = [] ↔ b = true)
theorem Ro.rs {K : PySem.W.Frag} {H : Hp} {x : V} {b : Bool} (h : Ro K H x b) : ∃ D, Dp K H x D ∧ Rs D b := by
  rcases h with ⟨rfl, h⟩ | ⟨d, refs, ds, rfl, e, A, sh, n⟩
  · exact ⟨.none, .non, .inl ⟨rfl, h⟩⟩
  · exact ⟨.list ds, im_dpL e A, .inr ⟨ds, rfl, sh, n⟩⟩
theorem Ro.of {K : PySem.W.Frag} {H : Hp} {d : Addr} {refs : List V} {ds : List PyData} {b : Bool} (e : H d = some (.lst refs)) (A : ImAll K H refs ds) (sh : ∀ d ∈ ds, Shp 1 d) (n : ds = [] ↔ b = true) : Ro K H (.ref d) b := .inr ⟨d, refs, ds, rfl, e, A, sh, n⟩
def spBadRow (K : PySem.W.Frag) : Sp := fun vs H Q _ => ∃ (p q1 q2 q : Addr) (m : Nat) (los his : List Int) (ts : Tms) (n : Int), vs = [.ref p, .ref q] ∧ BxL H p q1 q2 los his ∧ BxW m los his ∧ (∀ v : Int, 0 ≤ v → v < m → at_ his v - at_ los v ≤ 1000) ∧ FactAt K H q (.row ts n) ∧ tmW m ts ∧ ∀ x H', Ro K H' x (decide (rowE los his ts n = some [])) → (∀ d refs, x = .ref d → H' d = some (.lst refs) → refs.length ≤ 60) → Kp [] H H' → Q x H'
def spBadKeep (K : PySem.W.Frag) : Sp := fun vs H Q _ => ∃ (p q1 q2 q : Addr) (m : Nat) (los his : List Int) (l : Lit), vs = [.ref p, .ref q] ∧ BxL H p q1 q2 los his ∧ BxW m los his ∧ LitAt K H q l.v l.r l.a ∧ 0 ≤ l.v ∧ l.v < m ∧ ∀ (d : Addr) (refs : List V) (ds : List PyData) H', H' d = some (.lst refs) → ImAll K H' refs ds → (∀ d ∈ ds, Shp 1 d) → (ds = [] ↔ endsL (at_ los l.v) (at_ his l.v) l = []) → Kp [] H H' → Q (.ref d) H'
def spBadClause (K : PySem.W.Frag) : Sp := fun vs H Q _ => ∃ (p q1 q2 q : Addr) (m : Nat) (los his : List Int) (ls : List Lit), vs = [.ref p, .ref q] ∧ BxL H p q1 q2 los his ∧ BxW m los his ∧ (∀ v : Int, 0 ≤ v → v < m → at_ his v - at_ los v ≤ 1000) ∧ FactAt K H q (.any ls) ∧ ls.length ≤ 60 ∧ (∀ l ∈ ls, 0 ≤ l.v ∧ l.v < m) ∧ ∀ x H', Ro K H' x (decide (clauseE los his ls = some [])) → Kp [] H H' → Q x H'
def spBox66 (K : PySem.W.Frag) : Sp := fun vs H Q _ => ∃ (t c l : Addr) (refs : List V) (us : List Un), vs = [.ref t, .ref l] ∧ Tp t c H ∧ H l = some (.lst refs) ∧ l ≠ t ∧ ImAll K H refs (us.map unD) ∧ us.length ≤ 60 ∧ (∀ u ∈ us, -1000 ≤ u.2.1 ∧ u.2.1 ≤ u.2.2 ∧ u.2.2 ≤ 1000) ∧
  ∀ (p q1 q2 : Addr) (los his : List Int) H', BxL H' p q1 q2 los his → H p = none → H q1 = none → H q2 = none → los.length = us.length → sidesOk us los his → Tp t c H' → Kp [t] H H' → Q (.ref p) H'
def spLaw (K : PySem.W.Frag) : Sp := fun vs H Q _ => ∃ (a : Addr) (ns : List Int), vs = [.ref a] ∧ SqL K H a (ns.map V.int) ∧ ns.length ≤ 63 ∧ ∀ H', Q (.bl true) H'

section
variable {P : Program} {w : World} {K : PySem.W.Frag} {mg : Str → Option Value} {base : Heap} {C_Model : Addr}
theorem ok_law_box {f : Addr} {fd : FuncData} (F : Fun K "_law_box" "_law_box" s_law_box f fd) (B : Bi K mg) (D_law_draw : Is P w K mg base CX0 1 "_law_draw" ["_law_tape_here", "_law_many"] spDraw) : FnOk P w K mg base CX0 2 f fd ["_law_tape_here", "_law_unknowns"] (spBox66 K) := by
  have nd := sc_law_box.nd
  refine F.ok sc_law_box ?len (fun cdv A outer s H vs Q E hr h => ?body)
  case len =>
    rintro vs H Q E ⟨t, c, l, refs, us, rfl, _⟩
    rfl
  case body =>
    obtain ⟨t, c, l, refs, us, rfl, T, el, nlt, A, few, bd, k⟩ := h
    refine ⟨_, (pss_cons (ps_set (i := 2) nd rfl (Or.inl rfl) (pe_lst pa_nil))
      (pss_cons (ps_set (i := 3) nd rfl (Or.inl rfl) (pe_lst pa_nil))
      (pss_cons (ps_for PassesOwn.never rfl ((piLst K) (pv 1)) (pg_tup (n := 3) rfl (pgs_cons (pg_name (i := 4) nd rfl (Or.inl rfl)) (pgs_cons (pg_name (i := 5) nd rfl (Or.inl rfl)) (pgs_cons (pg_name (i := 6) nd rfl (Or.inl rfl)) pgs_nil))))
      (pss_cons (ps_set (i := 7) nd rfl (Or.inl rfl) (pe_op op_add (pv 5) (pe_is D_law_draw (hr.mono (by decide)) rfl pass0 (pa_cons (pv 0) (pa_cons (pe_op op_add (pe_op op_sub (pv 6) (pv 5)) pe_int) pa_nil)))))
      (pss_cons (ps_set (i := 8) nd rfl (Or.inl rfl) (pe_op op_add (pv 5) (pe_is D_law_draw (hr.mono (by decide)) rfl pass0 (pa_cons (pv 0) (pa_cons (pe_op op_add (pe_op op_sub (pv 6) (pv 5)) pe_int) pa_nil)))))
      (pss_cons (ps_expr (pe_bm PySem.F.plainAttrs_list PySem.F.slot_list_append PySem.F.type_list_append mt_append (pv 2) (pa_cons (pe_callB (cg_min2 rfl) (by rfl) B.n_min (by decide +kernel) (pa_cons (pv 7) (pa_cons (pv 8) pa_nil))) pa_nil)))
      (pss_one (ps_expr (pe_bm PySem.F.plainAttrs_list PySem.F.slot_list_append PySem.F.type_list_append mt_append (pv 3) (pa_cons (pe_callB (cg_max2 rfl) (by rfl) B.n_max (by decide +kernel) (pa_cons (pv 7) (pa_cons (pv 8) pa_nil))) pa_nil))))))))
      (pss_one (ps_ret (pe_lst (pa_cons (pv 2) (pa_cons (pv 3) pa_nil)))))))), ?_⟩
    try dsimp only [L2.cxOf, L2.Cx.nox, L2.Cx.wish]
    rw [st_law_box]
    have hrl := mapLenP A
    walk_at "cg"
    rename_i d1 H1 hd1 ed1 k1 d2 H2 hd2 ed2 k2
    have n12 : d1 ≠ d2 := ne_newL hd2 ed1
    have n1t : d1 ≠ t := by walk_at "cg ne"
    have n1c : d1 ≠ c := by walk_at "cg ne"
    have n2t : d2 ≠ t := by walk_at "cg ne"
    have n2c : d2 ≠ c := by walk_at "cg ne"
    have T2 : Tp t c H2 := by walk_at "cg h"
    have K2 : Kp [t] H H2 := by walk_at "cg kp"
    have f1 : H d1 = none := hd1
    have f2 : H d2 = none := by walk_at "cg fr"
    have ed1 := k2.get0 ed1
    have el2 : H2 l = some (.lst refs) := by walk_at "cg h"
    clear k1 k2 hd1 hd2
    walk_at "cg"
    refine r_forL refs (fun i σ' H' => ∃ (ls hs : List Int) (x4 x5 x6 x7 x8 : Option V), σ' = [some (.ref t), some (.ref l), some (.ref d1), some (.ref d2), x4, x5, x6, x7, x8] ∧ Tp t c H' ∧ Kp [t] H H' ∧ H' d1 = some (.lst (ls.map V.int)) ∧ H' d2 = some (.lst (hs.map V.int)) ∧ ls.length = i ∧ sidesOk us ls hs)
      ⟨[], [], _, _, _, _, _, rfl, T2, K2, ed1, ed2, rfl, rfl, fun j u a b _ h => by simp at h⟩ (fun i σ' H' ⟨_, _, _, _, _, _, _, _, _, k3, _⟩ => k3.get1 nlt el) ?_ ?_
    · clear T2 K2 ed1 ed2 el2
      rintro i x σ' H3 hx ⟨ls, hs, x4, x5, x6, x7, x8, rfl, T3, k3, e1, e2, hn, ok⟩
      obtain ⟨u, hu, hxu⟩ := mapGetP (k3.imAll A) hx
      obtain ⟨px, rfl⟩ := Im.isRef hxu
      have sx : SqT K H3 px [.str u.1, .int u.2.1, .int u.2.2] := Im.sq hxu rfl
      have b0 := bd u (List.mem_of_getElem? hu)
      have hi : i < us.length := (List.getElem?_eq_some_iff.mp hu).1
      have hl1 : (ls.map V.int).length ≤ 1000 := by rw [List.length_map]; omega
      have hl2 : (hs.map V.int).length ≤ 1000 := by rw [List.length_map, ← ok.1]; omega
      have mb : LtB (u.2.2 - u.2.1 + 1) := .of (by omega)
      walk_at "cg"
      rename_i da H4 da0 da1 T4 k4 db H5 db0 db1 T5 k5 H6 e6 k6 H7 e7 k7
      refine ⟨ls ++ [_], hs ++ [_], _, _, _, _, _, rfl, by walk_at "cg h", by walk_at "cg kp", lst_snoc (by walk_at "cg h"), lst_snoc (by walk_at "cg h"), by simp [hn], ok.snoc (by rw [hn]; exact hu) ?_⟩
      repeat' split
      all_goals omega
    · clear T2 K2 ed1 ed2 el2
      rintro σ' H3 ⟨ls, hs, x4, x5, x6, x7, x8, rfl, T3, k3, e1, e2, hn, ok⟩
      walk_at "cg"
      rename_i p4 H4 hp4 e4 k4
      exact k p4 d1 d2 ls hs _ ⟨e4, k4.get0 e1, k4.get0 e2⟩ (Tp.free hp4 k3 T3) f1 f2 (by omega) ok (T3.kp0 k4) (Kp.tr0 k4 k3)
theorem ok_law_values {f : Addr} {fd : FuncData} (F : Fun K "_law_values" "_law_values" s_law_values f fd) (B : Bi K mg)  : FnOk P w K mg base CX0 1 f fd ["_law_box_here", "_law_v"] (spValues K) := by
  have nd := sc_law_values.nd
  refine F.ok sc_law_values ?len (fun cdv A outer s H vs Q E hr h => ?body)
  case len =>
    rintro vs H Q E ⟨p, q1, q2, m, los, his, v, rfl, _⟩
    rfl
  case body =>
    obtain ⟨p, q1, q2, m, los, his, v, rfl, Bx, W, v0, v1, k⟩ := h
    refine ⟨_, (pss_one (ps_ret (pe_listRg rfl (by rfl) B.n_list (prg_2 (by rfl) B.n_range (pe_ix (ixL K) (pe_ix (ixL K) (pv 0) pe_int (fun _ _ => rfl)) (pv 1) (fun _ _ => rfl)) (pe_op op_add (pe_ix (ixL K) (pe_ix (ixL K) (pv 0) pe_int (fun _ _ => rfl)) (pv 1) (fun _ _ => rfl)) pe_int))))), ?_⟩
    try dsimp only [L2.cxOf, L2.Cx.nox, L2.Cx.wish]
    rw [st_law_values]
    have hb := Bx.b
    have e1 := atS v0 (by rw [W.a]; exact v1)
    have e2 := atS v0 (by rw [W.b]; exact v1)
    have bd := W.bd v v0 v1
    walk_at "cg"
    refine r_ixL Bx.l e1 ?_
    walk_at "cg"
    refine r_ixL Bx.h e2 ?_
    walk_at "cg"
    refine r_lstRg (by omega) (by omega) fun l H1 hl el k1 => ?_
    walk_at "cg"
    exact k l H1 hl el k1
theorem ok_law_least {f : Addr} {fd : FuncData} (F : Fun K "_law_least" "_law_least" s_law_least f fd) (B : Bi K mg) (D_law_values : Is P w K mg base CX0 1 "_law_values" ["_law_box_here", "_law_v"] (spValues K)) : FnOk P w K mg base CX0 2 f fd ["_law_box_here", "_law_terms_here"] (spLLeast66 K) := by
  have nd := sc_law_least.nd
  refine F.ok sc_law_least ?len (fun cdv A outer s H vs Q E hr h => ?body)
  case len =>
    rintro vs H Q E ⟨p, q1, q2, q, m, los, his, ts, rfl, _⟩
    rfl
  case body =>
    obtain ⟨p, q1, q2, q, m, los, his, ts, rfl, Bx, W, wd, I, tw, k⟩ := h
    refine ⟨_, (pss_cons (ps_set (i := 2) nd rfl (Or.inl rfl) pe_int)
      (pss_cons (ps_for PassesOwn.never rfl (pi_tup (pv 1)) (pg_tup (n := 2) rfl (pgs_cons (pg_name (i := 3) nd rfl (Or.inl rfl)) (pgs_cons (pg_name (i := 4) nd rfl (Or.inr rfl)) pgs_nil)))
      (pss_one (ps_set (i := 2) nd rfl (Or.inl rfl) (pe_op op_add (pv 2) (pe_callB (cr_min rfl) (by rfl) B.n_min (by decide +kernel) (pa_cons (by exact pe_lc (own := [("_law_a", 5)]) (g := (gName 5)) (tt := tYes) rfl nd ((piLst K) (pe_is D_law_values (hr.mono (by decide)) rfl pass0 (pa_cons (pv 0) (pa_cons (pv 3) pa_nil)))) (blkOk_by (N := ["_law_box_here", "_law_terms_here", "_law_total", "_law_v", "_law_c", "_law_a"]) (sc := defScope s_law_least) (by decide +kernel)) (fun _ _ _ _ _ => (pg_name (i := 5) nd rfl (Or.inl rfl))) (fun _ _ _ _ _ => pts_nil) (fun _ _ _ _ _ => (pe_op op_mul (pv 4) (pv 5)))) pa_nil))))))
      (pss_one (ps_ret (pv 2))))), ?_⟩
    try dsimp only [L2.cxOf, L2.Cx.nox, L2.Cx.wish]
    rw [st_law_least]
    obtain ⟨xs, s1, i1⟩ := Im.open I
    walk_at "cg"
    refine r_forTI [] s1 i1 (fun i σ' H' => ∃ x3 x4 x5 : Option V, σ' = [some (.ref p), some (.ref q), some (.int (lsB los his (ts.take i))), x3, x4, x5] ∧ Kp [] H H') ⟨_, _, _, rfl, .refl⟩ (fun i σ' H' ⟨_, _, _, _, e⟩ => e) ?_ ?_
    · rintro i z x σ' H' hz hx k0 ⟨x3, x4, x5, rfl, _⟩
      obtain ⟨px, rfl, sx⟩ := term_at hx
      have oz := tw.2 z (List.mem_of_getElem? hz)
      have bd := W.bd z.1 oz.1 oz.2.1
      have wz := wd z.1 oz.1 oz.2.1
      walk_at "cg"
      refine ⟨p, q1, q2, m, los, his, z.1, rfl, Bx.kp0 k0, W, oz.1, oz.2.1, fun d H2 hd ed k2 => ?_⟩
      have rl : (rgI (at_ los z.1) (at_ his z.1 + 1)).length ≤ 1001 := by rw [rgI_len]; omega
      walk_at "cg"
      refine lcL_i (K := K) (xs := (rgI (at_ los z.1) (at_ his z.1 + 1)).map V.int) (as := rgI (at_ los z.1) (at_ his z.1 + 1)) (d := PyData.int) ed (imInts _) (fun a => z.2 * a) (by omega) (fun j a x H5 R R' ha k5 hxa q5 => ?_) (fun D H5 hD eD k5 => ?_)
      · cases hxa
        have ba := rgI_mem.mp (List.mem_of_getElem? ha)
        walk_at "cg"
        exact q5 _ .refl
      · walk_at "cg"
        refine ⟨D, _, rfl, SqL.of eD, by rw [List.length_map, rgI_len]; omega, fun mm hm hle => ?_⟩
        rw [min_prod bd.2.1 hm hle]
        walk_at "cg"
        rw [lsB_take hz]
        exact ⟨_, _, _, rfl, Kp.tr0 k5 (Kp.tr0 k2 k0)⟩
    · rintro σ' H' k0 ⟨x3, x4, x5, rfl, _⟩
      rw [List.take_length]
      walk_at "cg"
      exact k _ k0
theorem ok_law_bad_row {f : Addr} {fd : FuncData} (F : Fun K "_law_bad_row" "_law_bad_row" s_law_bad_row f fd) (B : Bi K mg) (D_law_least : Is P w K mg base CX0 2 "_law_least" ["_law_box_here", "_law_terms_here"] (spLLeast66 K)) (D_law_values : Is P w K mg base CX0 1 "_law_values" ["_law_box_here", "_law_v"] (spValues K)) : FnOk P w K mg base CX0 3 f fd ["_law_box_here", "_law_row"] (spBadRow K) := by
  have nd := sc_law_bad_row.nd
  refine F.ok sc_law_bad_row ?len (fun cdv A outer s H vs Q E hr h => ?body)
  case len =>
    rintro vs H Q E ⟨p, q1, q2, q, m, los, his, ts, n, rfl, _⟩
    rfl
  case body =>
    obtain ⟨p, q1, q2, q, m, los, his, ts, n, rfl, Bx, W, wd, F, tw, k⟩ := h
    refine ⟨_, (pss_cons (ps_set (i := 2) nd rfl (Or.inl rfl) (pe_is D_law_least (hr.mono (by decide)) rfl pass0 (pa_cons (pv 0) (pa_cons (pe_ix (ixT K) (pv 1) pe_int (fun _ _ => rfl)) pa_nil))))
      (pss_cons (ps_if (pt_cmpR op_gt (pv 2) (pe_ix (ixT K) (pv 1) pe_int (fun _ _ => rfl)) (nomark _))
      (pss_one (ps_ret pe_non))
      pss_nil)
      (pss_cons (ps_set (i := 3) nd rfl (Or.inl rfl) (pe_lst pa_nil))
      (pss_cons (ps_for PassesOwn.never rfl (pi_tup (pe_ix (ixT K) (pv 1) pe_int (fun _ _ => rfl))) (pg_tup (n := 2) rfl (pgs_cons (pg_name (i := 4) nd rfl (Or.inl rfl)) (pgs_cons (pg_name (i := 5) nd rfl (Or.inr rfl)) pgs_nil)))
      (pss_cons (ps_setLc (i := 6) (own := [("_law_a", 7)]) (g := (gName 7)) (tt := tYes) rfl nd rfl rfl (sw_true rfl rfl rfl (by decide +kernel)) ((piLst K) (pe_is D_law_values (hr.mono (by decide)) rfl pass0 (pa_cons (pv 0) (pa_cons (pv 4) pa_nil)))) (blkOk_by (N := ["_law_box_here", "_law_row", "_law_least_here", "_law_found", "_law_v", "_law_c", "_law_products", "_law_a"]) (sc := defScope s_law_bad_row) (by decide +kernel)) (fun _ _ _ _ _ => (pg_name (i := 7) nd rfl (Or.inl rfl))) (fun _ _ _ _ _ => pts_nil) (fun _ _ _ _ _ => (pe_op op_mul (pv 5) (pv 7))))
      (pss_one (ps_if (pt_cmpR op_gt (pe_op op_add (pe_op op_sub (pv 2) (pe_callB (cr_min rfl) (by rfl) B.n_min (by decide +kernel) (pa_cons (pv 6) pa_nil))) (pe_callB (cr_max rfl) (by rfl) B.n_max (by decide +kernel) (pa_cons (pv 6) pa_nil))) (pe_ix (ixT K) (pv 1) pe_int (fun _ _ => rfl)) (nomark _))
      (pss_one (ps_expr (pe_bm PySem.F.plainAttrs_list PySem.F.slot_list_append PySem.F.type_list_append mt_append (pv 3) (pa_cons (pe_tup (pa_cons (pv 4) (pa_cons (pe_callTy cg_int (by rfl) B.n_int PyProof.Rows.boot_int (pa_cons (pe_cmpR op_gt (pv 5) pe_int (nomark _)) pa_nil)) pa_nil))) pa_nil))))
      pss_nil))))
      (pss_one (ps_ret (pv 3))))))), ?_⟩
    try dsimp only [L2.cxOf, L2.Cx.nox, L2.Cx.wish]
    rw [st_law_bad_row]
    obtain ⟨qt, s0, it⟩ := row_open F
    obtain ⟨xs, s1, i1⟩ := Im.open it
    have nz : ∀ z ∈ ts, z.2 ≠ 0 := fun z hz => (tw.2 z hz).2.2.1
    walk_at "cg"
    refine ⟨p, q1, q2, qt, m, los, his, ts, rfl, Bx, W, wd, it, tw, fun H1 k1 => ?_⟩
    have s01 := k1.tup s0
    have rn := row_nil (los := los) (his := his) (n := n) nz
    walk_at "cg"
    refine if_S (fun g => ?_) (fun g => ?_)
    · walk_at "cg"
      refine k .non H1 (.inl ⟨rfl, decide_eq_false fun h => (rn.mp h).1 g⟩) (fun d refs e => by cases e) k1
    · have B1 := Bx.kp0 k1
      walk_at "cg"
      rename_i d H2 hd ed k2
      have fd : H d = none := k1.free0 hd
      have K2 := Kp.tr0 k2 k1
      refine r_forTI [d] (K2.tup s1) (K2.imAll i1) (fun i σ' H' => ∃ (refs : List V) (ds : List PyData) (x5 x6 x7 x8 : Option V), σ' = [some (.ref p), some (.ref q), some (.int (lsB los his ts)), some (.ref d), x5, x6, x7, x8] ∧ H' d = some (.lst refs) ∧ ImAll K H' refs ds ∧ (∀ d ∈ ds, Shp 1 d) ∧ (ds = [] ↔ (ts.take i).filter (badT los his (n - lsB los his ts)) = []) ∧ ds.length ≤ i ∧ Kp [d] H2 H') ⟨[], [], _, _, _, _, rfl, ed, .nil, (fun d hd => by cases hd), by simp, by simp, Kp.base fun b hb => by rw [List.mem_singleton] at hb; rw [hb, ed]; trivial⟩ (fun i σ' H' ⟨_, _, _, _, _, _, _, _, _, _, _, _, h⟩ => h) ?_ ?_
      · rintro i z x σ' H3 hz hx k3 ⟨refs, ds, x5, x6, x7, x8, rfl, e3, A3, sh3, ne3, l3, _⟩
        obtain ⟨px, rfl, sx⟩ := term_at hx
        have hi : i < ts.length := (List.getElem?_eq_some_iff.mp hz).1
        have h60 := tw.1
        have hrl := A3.length
        have oz := tw.2 z (List.mem_of_getElem? hz)
        have bd := W.bd z.1 oz.1 oz.2.1
        have wz := wd z.1 oz.1 oz.2.1
        have KK := Kp.trN k3 K2 fd
        walk_at "cg"
        refine ⟨p, q1, q2, m, los, his, z.1, rfl, Bx.kp0 KK, W, oz.1, oz.2.1, fun d4 H4 hd4 ed4 k4 => ?_⟩
        have rl : (rgI (at_ los z.1) (at_ his z.1 + 1)).length ≤ 1001 := by rw [rgI_len]; omega
        walk_at "cg"
        refine lcL_i (K := K) (xs := (rgI (at_ los z.1) (at_ his z.1 + 1)).map V.int) (as := rgI (at_ los z.1) (at_ his z.1 + 1)) (d := PyData.int) ed4 (imInts _) (fun a => z.2 * a) (by omega) (fun j a x H5 R R' ha k5 hxa q5 => ?_) (fun D H5 hD eD k5 => ?_)
        · cases hxa
          have ba := rgI_mem.mp (List.mem_of_getElem? ha)
          walk_at "cg"
          exact q5 _ .refl
        have K5 := Kp.tr0 k5 k4
        have e5 := K5.get0 e3
        have A5 := K5.imAll A3
        have s05 := K5.tup (KK.tup s0)
        clear k4 k5 ed4 e3 A3 hd4
        walk_at "cg"
        refine ⟨D, _, rfl, SqL.of eD, by rw [List.length_map, rgI_len]; omega, fun mm hm hle => ?_⟩
        rw [min_prod bd.2.1 hm hle]
        walk_at "cg"
        refine ⟨D, _, rfl, SqL.of eD, by rw [List.length_map, rgI_len]; omega, fun mx hm2 hle2 => ?_⟩
        rw [max_prod bd.2.1 hm2 hle2]
        have ec : (n < lsB los his ts - mnP los his z + mxP los his z) ↔ badT los his (n - lsB los his ts) z = true := by
          unfold badT
          rw [decide_eq_true_eq]
          omega
        have ft : (ts.take (i + 1)).filter (badT los his (n - lsB los his ts)) = (ts.take i).filter (badT los his (n - lsB los his ts)) ++ (if badT los his (n - lsB los his ts) z then [z] else []) := by
          rw [List.take_add_one, hz, List.filter_append]
          show _ ++ List.filter _ [z] = _
          rw [List.filter_cons, List.filter_nil]
        rw [show (if 0 < z.2 then z.2 * at_ los z.1 else z.2 * at_ his z.1) = mnP los his z from rfl, show (if 0 < z.2 then z.2 * at_ his z.1 else z.2 * at_ los z.1) = mxP los his z from rfl]
        walk_at "cg"
        refine if_S (fun gb => ?_) (fun gb => ?_)
        · rw [ec.mp gb] at ft
          walk_at "cg"
          rename_i p6 H6 hp6 s6 k6 H7 e7 k7
          refine ⟨_, ds ++ [two z.1 (if decide (0 < z.2) = true then 1 else 0)], _, _, _, _, rfl, e7, (k7.imAll (k6.imAll A5)).snoc (k7.im (two_im s6)), fun d hd => ?_, ?_, by simp; omega, Kp.tr1 k7 (Kp.tr0 k6 (Kp.tr0 K5 k3))⟩
          · rcases List.mem_append.mp hd with h | h
            · exact sh3 d h
            · rw [List.mem_singleton] at h
              rw [h]
              exact two_shp _ _
          · rw [ft]
            simp
        · have gb2 : badT los his (n - lsB los his ts) z = false := by
            cases hbt : badT los his (n - lsB los his ts) z with
            | false => rfl
            | true => exact absurd (ec.mpr hbt) gb
          rw [gb2] at ft
          walk_at "cg"
          refine ⟨refs, ds, _, _, _, _, rfl, e5, A5, sh3, ?_, by omega, Kp.tr0 K5 k3⟩
          rw [ft]
          simpa using ne3
      · rintro σ' H3 k3 ⟨refs, ds, x5, x6, x7, x8, rfl, e3, A3, sh3, ne3, l3, _⟩
        rw [List.take_length] at ne3
        walk_at "cg"
        refine k _ H3 (.of e3 A3 sh3 ?_) (fun d' refs' e e' => by cases e; rw [e3] at e'; cases e'; have := A3.length; have := tw.1; omega) (Kp.trN k3 K2 fd)
        rw [ne3, decide_eq_true_eq, rn]
        exact ⟨fun h => ⟨g, h⟩, fun h => h.2⟩
theorem ok_law_bad_keep {f : Addr} {fd : FuncData} (F : Fun K "_law_bad_keep" "_law_bad_keep" s_law_bad_keep f fd) (B : Bi K mg)  : FnOk P w K mg base CX0 1 f fd ["_law_box_here", "_law_literal_here"] (spBadKeep K) := by
  have nd := sc_law_bad_keep.nd
  refine F.ok sc_law_bad_keep ?len (fun cdv A outer s H vs Q E hr h => ?body)
  case len =>
    rintro vs H Q E ⟨p, q1, q2, q, m, los, his, l, rfl, _⟩
    rfl
  case body =>
    obtain ⟨p, q1, q2, q, m, los, his, l, rfl, Bx, W, L, v0, v1, k⟩ := h
    refine ⟨_, (pss_cons (ps_asg (pv 1) (pg_tup (n := 3) rfl (pgs_cons (pg_name (i := 2) nd rfl (Or.inl rfl)) (pgs_cons (pg_name (i := 3) nd rfl (Or.inl rfl)) (pgs_cons (pg_name (i := 4) nd rfl (Or.inl rfl)) pgs_nil)))))
      (pss_cons (ps_set (i := 5) nd rfl (Or.inl rfl) (pe_lst pa_nil))
      (pss_cons (ps_if (pt_cmpR op_ne (pv 3) pe_str (nomark _))
      (pss_cons (ps_if (PW.pt (pw_and (pt_cmpR op_ne (pv 3) pe_str (nomark _)) (pw_and1 (pt_cmpR op_lt (pe_ix (ixL K) (pe_ix (ixL K) (pv 0) pe_int (fun _ _ => rfl)) (pv 2) (fun _ _ => rfl)) (pv 4) (nomark _)))))
      (pss_one (ps_expr (pe_bm PySem.F.plainAttrs_list PySem.F.slot_list_append PySem.F.type_list_append mt_append (pv 5) (pa_cons (pe_tup (pa_cons (pv 2) (pa_cons pe_int pa_nil))) pa_nil))))
      pss_nil)
      (pss_cons (ps_if (PW.pt (pw_and (pt_cmpR op_ne (pv 3) pe_str (nomark _)) (pw_and1 (pt_cmpR op_gt (pe_ix (ixL K) (pe_ix (ixL K) (pv 0) pe_int (fun _ _ => rfl)) (pv 2) (fun _ _ => rfl)) (pv 4) (nomark _)))))
      (pss_one (ps_expr (pe_bm PySem.F.plainAttrs_list PySem.F.slot_list_append PySem.F.type_list_append mt_append (pv 5) (pa_cons (pe_tup (pa_cons (pv 2) (pa_cons pe_int pa_nil))) pa_nil))))
      pss_nil)
      (pss_one (ps_ret (pv 5)))))
      pss_nil)
      (pss_cons (ps_for PassesOwn.never rfl ((piLst K) (pe_lst (pa_cons pe_int (pa_cons pe_int pa_nil)))) (pg_name (i := 6) nd rfl (Or.inl rfl))
      (pss_one (ps_if (pt_cmpR op_eq (pe_ix (ixL K) (pe_ix (ixL K) (pv 0) (pv 6) (fun _ _ => rfl)) (pv 2) (fun _ _ => rfl)) (pv 4) (nomark _))
      (pss_one (ps_expr (pe_bm PySem.F.plainAttrs_list PySem.F.slot_list_append PySem.F.type_list_append mt_append (pv 5) (pa_cons (pe_tup (pa_cons (pv 2) (pa_cons (pv 6) pa_nil))) pa_nil))))
      pss_nil)))
      (pss_one (ps_ret (pv 5))))))), ?_⟩
    try dsimp only [L2.cxOf, L2.Cx.nox, L2.Cx.wish]
    rw [st_law_bad_keep]
    obtain ⟨v, r, a⟩ := l
    dsimp only at L v0 v1 k
    have hb := Bx.b
    have e1 := atS v0 (by rw [W.a]; exact v1)
    have e2 := atS v0 (by rw [W.b]; exact v1)
    have nil1 : ∀ (d : Addr) H', H' d = some (.lst []) → Kp [] H H' → endsL (at_ los v) (at_ his v) ⟨v, r, a⟩ = [] → Q (.ref d) H' := fun d H' e k' h => k d [] [] H' e .nil (fun d hd => by cases hd) (by simp [h]) k'
    have some1 : ∀ (d : Addr) (refs : List V) (ds : List PyData) H', H' d = some (.lst refs) → ImAll K H' refs ds → (∀ d ∈ ds, Shp 1 d) → ds ≠ [] → Kp [] H H' → ¬ endsL (at_ los v) (at_ his v) ⟨v, r, a⟩ = [] → Q (.ref d) H' := fun d refs ds H' e A sh ne k' h => k d refs ds H' e A sh (by simp [h, ne]) k'
    clear k
    cases r with
    | le =>
      walk_at "cg"
      rename_i d H1 hd ed k1
      refine r_ixL (k1.get0 Bx.h) e2 ?_
      walk_at "cg"
      refine if_S (fun g => ?_) (fun g => ?_)
      · walk_at "cg"
        rename_i p2 H2 hp2 s2 k2 H3 e3 k3
        exact some1 d _ [two v 1] _ e3 (.cons (k3.im (two_im s2)) .nil) (fun d hd => by rw [List.mem_singleton] at hd; rw [hd]; exact two_shp _ _) (by simp) (by walk_at "cg kp") (by simp only [endsL, if_pos (show a < at_ his v from g)]; simp)
      · walk_at "cg"
        exact nil1 d _ ed k1 (by simp only [endsL, if_neg (show ¬ a < at_ his v from g)])
    | ge =>
      walk_at "cg"
      rename_i d H1 hd ed k1
      refine r_ixL (k1.get0 Bx.l) e1 ?_
      walk_at "cg"
      refine if_S (fun g => ?_) (fun g => ?_)
      · walk_at "cg"
        rename_i p2 H2 hp2 s2 k2 H3 e3 k3
        exact some1 d _ [two v 0] _ e3 (.cons (k3.im (two_im s2)) .nil) (fun d hd => by rw [List.mem_singleton] at hd; rw [hd]; exact two_shp _ _) (by simp) (by walk_at "cg kp") (by simp only [endsL, if_pos (show at_ los v < a from g)]; simp)
      · walk_at "cg"
        exact nil1 d _ ed k1 (by simp only [endsL, if_neg (show ¬ at_ los v < a from g)])
    | eq =>
      walk_at "cg"
      rename_i d H1 hd ed k1
      refine r_ixL (k1.get0 Bx.l) e1 ?_
      walk_at "cg"
      refine if_S (fun g => ?_) (fun g => ?_)
      · walk_at "cg"
        rename_i p2 H2 hp2 s2 k2 H3 e3 k3
        have K3 : Kp [d] H1 H3 := Kp.tr1 k3 (Kp.tr0 k2 (Kp.base fun b hb => by rw [List.mem_singleton] at hb; rw [hb, ed]; trivial))
        have K3' : Kp [] H H3 := Kp.trN K3 k1 hd
        have h3 := K3'.get0 Bx.h
        have hb3 := K3'.get0 Bx.b
        have i2 := k3.im (two_im s2)
        clear k2 k3 K3 s2
        walk_at "cg"
        refine r_ixL h3 e2 ?_
        walk_at "cg"
        refine if_S (fun g2 => ?_) (fun g2 => ?_)
        · walk_at "cg"
          rename_i p4 H4 hp4 s4 k4 H5 e5 k5
          refine some1 d _ [two v 0, two v 1] _ e5 (.cons (k5.im (k4.im i2)) (.cons (k5.im (two_im s4)) .nil)) (fun d hd => ?_) (by simp) (Kp.trN (Kp.tr1 k5 (Kp.tr0 k4 (Kp.base (S := [d]) fun b hb => by rw [List.mem_singleton] at hb; rw [hb, e3]; trivial))) K3' hd) (by simp only [endsL, if_pos (show at_ los v < a from g)]; simp)
          simp only [List.mem_cons, List.not_mem_nil, or_false] at hd
          rcases hd with rfl | rfl <;> exact two_shp _ _
        · walk_at "cg"
          exact some1 d _ [two v 0] _ e3 (.cons i2 .nil) (fun d hd => by rw [List.mem_singleton] at hd; rw [hd]; exact two_shp _ _) (by simp) K3' (by simp only [endsL, if_pos (show at_ los v < a from g)]; simp)
      · walk_at "cg"
        refine r_ixL (k1.get0 Bx.h) e2 ?_
        walk_at "cg"
        refine if_S (fun g2 => ?_) (fun g2 => ?_)
        · walk_at "cg"
          rename_i p2 H2 hp2 s2 k2 H3 e3 k3
          exact some1 d _ [two v 1] _ e3 (.cons (k3.im (two_im s2)) .nil) (fun d hd => by rw [List.mem_singleton] at hd; rw [hd]; exact two_shp _ _) (by simp) (by walk_at "cg kp") (by simp only [endsL, if_pos (show a < at_ his v from g2)]; simp)
        · walk_at "cg"
          exact nil1 d _ ed k1 (by simp only [endsL, if_neg (show ¬ at_ los v < a from g), if_neg (show ¬ a < at_ his v from g2)]; rfl)
    | ne =>
      walk_at "cg"
      rename_i d H1 hd ed k1 l2 H2 hl2 e2l k2
      have K2 := Kp.tr0 k2 k1
      have fd : H d = none := hd
      have nld : l2 ≠ d := ne_newR hl2 ed
      have ed2 := k2.get0 ed
      have el2 : H2 l2 = some (.lst (([0, 1] : List Int).map V.int)) := e2l
      clear k1 k2 hd ed e2l hl2
      have sd : ∀ s : Int, s = 0 ∨ s = 1 → ∃ q9 ns, atI [V.ref q1, V.ref q2] s = some (.ref q9) ∧ H q9 = some (.lst (List.map V.int ns)) ∧ atI (ns.map V.int) v = some (.int (if s = 0 then at_ los v else at_ his v)) := fun s hs => by
        rcases hs with rfl | rfl
        · exact ⟨q1, los, rfl, Bx.l, e1⟩
        · exact ⟨q2, his, rfl, Bx.h, e2⟩
      refine r_forLI [0, 1] (fun i σ' H' => ∃ (refs : List V) (ds : List PyData) (x6 : Option V), σ' = [some (.ref p), some (.ref q), some (.int v), some (.str Rel.ne.s), some (.int a), some (.ref d), x6] ∧ H' d = some (.lst refs) ∧ ImAll K H' refs ds ∧ (∀ d ∈ ds, Shp 1 d) ∧ ds.length ≤ i ∧ (ds = [] ↔ ∀ s ∈ ([0, 1] : List Int).take i, ¬ (if s = 0 then at_ los v else at_ his v) = a) ∧ Kp [d] H2 H') ⟨[], [], _, rfl, ed2, .nil, (fun d hd => by cases hd), by simp, by simp, Kp.base fun b hb => by rw [List.mem_singleton] at hb; rw [hb, ed2]; trivial⟩ (fun i σ' H' ⟨_, _, _, _, _, _, _, _, _, h⟩ => h.get1 nld el2) ?_ ?_
      · rintro i s σ' H3 hs ⟨refs, ds, x6, rfl, e3, A3, sh3, l3, ne3, k3⟩
        have hi : i < 2 := (List.getElem?_eq_some_iff.mp hs).1
        have hs2 : s = 0 ∨ s = 1 := by
          have := List.mem_of_getElem? hs
          simpa using this
        have hrl := A3.length
        obtain ⟨q9, ns9, a1, a2, a3⟩ := sd s hs2
        have KK := Kp.trN k3 K2 fd
        have nt : ([0, 1] : List Int).take (i + 1) = ([0, 1] : List Int).take i ++ [s] := by rw [List.take_add_one, hs]; rfl
        walk_at "cg"
        refine r_ixL (KK.get0 hb) a1 ?_
        walk_at "cg"
        refine r_ixL (KK.get0 a2) a3 ?_
        generalize hy : (if s = 0 then at_ los v else at_ his v) = y
        walk_at "cg"
        refine if_S (fun g => ?_) (fun g => ?_)
        · walk_at "cg"
          rename_i p4 H4 hp4 s4 k4 H5 e5 k5
          refine ⟨_, ds ++ [two v s], _, rfl, e5, (k5.imAll (k4.imAll A3)).snoc (k5.im (two_im s4)), fun d hd => ?_, by simp; omega, ?_, Kp.tr1 k5 (Kp.tr0 k4 k3)⟩
          · rcases List.mem_append.mp hd with h | h
            · exact sh3 d h
            · rw [List.mem_singleton] at h
              rw [h]
              exact two_shp _ _
          · rw [nt]
            simp only [List.append_eq_nil_iff, List.cons_ne_nil, and_false, false_iff]
            intro h
            exact h s (List.mem_append_right _ List.mem_cons_self) (by rw [hy]; exact g)
        · walk_at "cg"
          refine ⟨refs, ds, _, rfl, e3, A3, sh3, by omega, ?_, k3⟩
          rw [ne3, nt]
          constructor
          · intro h s' hs'
            rcases List.mem_append.mp hs' with h' | h'
            · exact h s' h'
            · rw [List.mem_singleton] at h'
              rw [h', hy]
              exact g
          · exact fun h s' hs' => h s' (List.mem_append_left _ hs')
      · rintro σ' H3 ⟨refs, ds, x6, rfl, e3, A3, sh3, l3, ne3, k3⟩
        have KK := Kp.trN k3 K2 fd
        have en : endsL (at_ los v) (at_ his v) ⟨v, .ne, a⟩ = [] ↔ ds = [] := by
          rw [ne3]
          simp only [endsL]
          constructor
          · intro h s hs
            have hs2 : s = 0 ∨ s = 1 := by
              have hs := List.mem_of_mem_take hs
              simpa using hs
            rw [List.append_eq_nil_iff] at h
            rcases hs2 with rfl | rfl
            · intro e
              have e : at_ los v = a := e
              rw [if_pos e] at h
              exact absurd h.1 (by simp)
            · intro e
              have e : at_ his v = a := e
              rw [if_pos e] at h
              exact absurd h.2 (by simp)
          · intro h
            have h0 : ¬ at_ los v = a := h 0 (by simp)
            have h1 : ¬ at_ his v = a := h 1 (by simp)
            rw [if_neg h0, if_neg h1]
            rfl
        walk_at "cg"
        cases ds with
        | nil =>
          cases A3
          exact nil1 d _ e3 KK (en.mpr rfl)
        | cons d0 ds =>
          exact some1 d _ _ _ e3 A3 sh3 (by simp) KK (fun h => by have := en.mp h; cases this)
theorem ok_law_bad_clause {f : Addr} {fd : FuncData} (F : Fun K "_law_bad_clause" "_law_bad_clause" s_law_bad_clause f fd) (B : Bi K mg) (D_law_bad_keep : Is P w K mg base CX0 1 "_law_bad_keep" ["_law_box_here", "_law_literal_here"] (spBadKeep K)) (D_law_rel : Is P w K mg base CX0 1 "_law_rel" ["_law_relation", "_law_left", "_law_right"] spRel) (D_law_values : Is P w K mg base CX0 1 "_law_values" ["_law_box_here", "_law_v"] (spValues K)) : FnOk P w K mg base CX0 2 f fd ["_law_box_here", "_law_clause"] (spBadClause K) := by
  have nd := sc_law_bad_clause.nd
  refine F.ok sc_law_bad_clause ?len (fun cdv A outer s H vs Q E hr h => ?body)
  case len =>
    rintro vs H Q E ⟨p, q1, q2, q, m, los, his, ls, rfl, _⟩
    rfl
  case body =>
    obtain ⟨p, q1, q2, q, m, los, his, ls, rfl, Bx, W, wd, F, l60, lv, k⟩ := h
    refine ⟨_, (pss_cons (ps_set (i := 2) nd rfl (Or.inl rfl) (pe_lst pa_nil))
      (pss_cons (ps_for PassesOwn.never rfl (pi_tup (pe_ix (ixT K) (pv 1) pe_int (fun _ _ => rfl))) (pg_name (i := 3) nd rfl (Or.inr rfl))
      (pss_one (ps_if (pt_cmpR (inS K) pe_bl (by exact pe_lc (own := [("_law_a", 4)]) (g := (gName 4)) (tt := tYes) rfl nd ((piLst K) (pe_is D_law_values (hr.mono (by decide)) rfl pass0 (pa_cons (pv 0) (pa_cons (pe_ix (ixT K) (pv 3) pe_int (fun _ _ => rfl)) pa_nil)))) (blkOk_by (N := ["_law_box_here", "_law_clause", "_law_live", "_law_literal_here", "_law_a"]) (sc := defScope s_law_bad_clause) (by decide +kernel)) (fun _ _ _ _ _ => (pg_name (i := 4) nd rfl (Or.inl rfl))) (fun _ _ _ _ _ => pts_nil) (fun _ _ _ _ _ => (pe_is D_law_rel (hr.mono (by decide)) rfl pass0 (pa_cons (pe_ix (ixT K) (pv 3) pe_int (fun _ _ => rfl)) (pa_cons (pv 4) (pa_cons (pe_ix (ixT K) (pv 3) pe_int (fun _ _ => rfl)) pa_nil)))))) rfl)
      (pss_one (ps_expr (pe_bm PySem.F.plainAttrs_list PySem.F.slot_list_append PySem.F.type_list_append mt_append (pv 2) (pa_cons (pv 3) pa_nil))))
      pss_nil)))
      (pss_cons (ps_if (pt_cmpR op_eq (pe_callB (cgLen K) (by rfl) B.n_len PySem.boot_len (pa_cons (pv 2) pa_nil)) pe_int (nomark _))
      (pss_one (ps_ret pe_non))
      pss_nil)
      (pss_cons (ps_if (pt_cmpR op_gt (pe_callB (cgLen K) (by rfl) B.n_len PySem.boot_len (pa_cons (pv 2) pa_nil)) pe_int (nomark _))
      (pss_one (ps_ret (pe_lst pa_nil)))
      pss_nil)
      (pss_one (ps_ret (pe_is D_law_bad_keep (hr.mono (by decide)) rfl pass0 (pa_cons (pv 0) (pa_cons (pe_ix (ixL K) (pv 2) pe_int (fun _ _ => rfl)) pa_nil))))))))), ?_⟩
    try dsimp only [L2.cxOf, L2.Cx.nox, L2.Cx.wish]
    rw [st_law_bad_clause]
    obtain ⟨ql, s0, il⟩ := any_open F
    obtain ⟨xs, s1, i1⟩ := Im.open il
    walk_at "cg"
    rename_i d H1 hd ed k1
    have ndm : ∀ {H2 : Hp}, H2 = H1 → True := fun _ => trivial
    refine r_forTI [d] (k1.tup s1) (k1.imAll i1) (fun i σ' H' => ∃ (refs : List V) (x3 x4 : Option V), σ' = [some (.ref p), some (.ref q), some (.ref d), x3, x4] ∧ H' d = some (.lst refs) ∧ ImAll K H' refs (((ls.take i).filter fun l => possB (at_ los l.v) (at_ his l.v) l).map Lit.d) ∧ Kp [d] H1 H') ⟨[], _, _, rfl, ed, .nil, Kp.base fun b hb => by rw [List.mem_singleton] at hb; rw [hb, ed]; trivial⟩ (fun i σ' H' ⟨_, _, _, _, _, _, h⟩ => h) ?_ ?_
    · rintro i l x σ' H2 hl hx k2 ⟨refs, x3, x4, rfl, e2, A2, _⟩
      obtain ⟨px, rfl, L⟩ := lit_at hx
      have ol := lv l (List.mem_of_getElem? hl)
      have bd := W.bd l.v ol.1 ol.2
      have wz := wd l.v ol.1 ol.2
      have KK := Kp.trN k2 k1 hd
      have hi : i < ls.length := (List.getElem?_eq_some_iff.mp hl).1
      have hal := mapLenP A2
      have hf := List.length_filter_le (fun l => possB (at_ los l.v) (at_ his l.v) l) (ls.take i)
      have htl : (ls.take i).length ≤ 60 := by rw [List.length_take]; omega
      have ft : (ls.take (i + 1)).filter (fun l => possB (at_ los l.v) (at_ his l.v) l) = (ls.take i).filter (fun l => possB (at_ los l.v) (at_ his l.v) l) ++ (if possB (at_ los l.v) (at_ his l.v) l then [l] else []) := by
        rw [List.take_add_one, hl, List.filter_append]
        show _ ++ List.filter _ [l] = _
        rw [List.filter_cons, List.filter_nil]
      walk_at "cg"
      refine ⟨p, q1, q2, m, los, his, l.v, rfl, Bx.kp0 KK, W, ol.1, ol.2, fun d4 H4 hd4 ed4 k4 => ?_⟩
      have rl : (rgI (at_ los l.v) (at_ his l.v + 1)).length ≤ 1001 := by rw [rgI_len]; omega
      have L4 := k4.tup L
      walk_at "cg"
      refine lcL_b (K := K) (xs := (rgI (at_ los l.v) (at_ his l.v + 1)).map V.int) (as := rgI (at_ los l.v) (at_ his l.v + 1)) (d := PyData.int) ed4 (imInts _) (fun a => l.r.h a l.a) (by omega) (fun j a x H5 R R' ha k5 hxa q5 => ?_) (fun D H5 hD eD k5 => ?_)
      · cases hxa
        have L5 := k5.tup L4
        walk_at "cg"
        exact q5 _ .refl
      have K5 := Kp.tr0 k5 k4
      have e5 := K5.get0 e2
      have A5 := K5.imAll A2
      have I5 := K5.im hx
      clear k4 k5 ed4 hd4 L4 L
      walk_at "cg"
      refine r_inL eD rfl (flat_bls _) (inV_true _) ?_
      rw [poss_ex bd.2.1]
      cases g : possB (at_ los l.v) (at_ his l.v) l with
      | true =>
        rw [g] at ft
        walk_at "cg"
        rename_i H6 e6 k6
        refine ⟨_, _, _, rfl, e6, ?_, Kp.tr1 k6 (Kp.tr0 K5 k2)⟩
        rw [ft, List.map_append]
        exact (k6.imAll A5).snoc (k6.im I5)
      | false =>
        rw [g] at ft
        walk_at "cg"
        refine ⟨_, _, _, rfl, e5, ?_, Kp.tr0 K5 k2⟩
        rw [ft]
        simpa using A5
    · rintro σ' H2 k2 ⟨refs, x3, x4, rfl, e2, A2, _⟩
      rw [List.take_length] at A2
      have KK := Kp.trN k2 k1 hd
      have hal := mapLenP A2
      have hlv : ∀ l ∈ ls.filter fun l => possB (at_ los l.v) (at_ his l.v) l, 0 ≤ l.v ∧ l.v < m := fun l hl => lv l (List.mem_filter.mp hl).1
      have ec : clauseE los his ls = (match ls.filter fun l => possB (at_ los l.v) (at_ his l.v) l with | [] => none | [l] => some (endsL (at_ los l.v) (at_ his l.v) l) | _ :: _ :: _ => some []) := rfl
      have B2 := Bx.kp0 KK
      generalize ls.filter (fun l => possB (at_ los l.v) (at_ his l.v) l) = fs at A2 hal hlv ec
      match fs, A2, hal, hlv, ec with
      | [], A2, hal, hlv, ec =>
        simp only [List.length_nil] at hal
        walk_at "cg"
        refine k .non H2 (.inl ⟨rfl, ?_⟩) KK
        rw [ec]
        rfl
      | [l], A2, hal, hlv, ec =>
        simp only [List.length_cons, List.length_nil] at hal
        cases A2 with
        | cons h1 h2 =>
        cases h2
        obtain ⟨px, rfl, L⟩ := lit_at h1
        have ol := hlv l List.mem_cons_self
        walk_at "cg"
        refine ⟨p, q1, q2, px, m, los, his, l, rfl, B2, W, L, ol.1, ol.2, fun d5 refs5 ds5 H5 e5 A5 sh5 n5 k5 => ?_⟩
        refine k _ H5 (.of e5 A5 sh5 ?_) (Kp.tr0 k5 KK)
        rw [n5, ec, decide_eq_true_eq, Option.some.injEq]
      | l :: l' :: fs, A2, hal, hlv, ec =>
        simp only [List.length_cons] at hal
        walk_at "cg"
        rename_i p3 H3 hp3 e3 k3
        refine k _ H3 (.of e3 .nil (fun d hd => by cases hd) ?_) (Kp.tr0 k3 KK)
        rw [ec]
        simp

end
/-! ### the ends of facts and of bodies -/
/-- a box of two tuples -/
structure BoxT (K : PySem.W.Frag) (H : Hp) (p q1 q2 : Addr) (los his : List Int) : Prop where
  b : SqT K H p [.ref q1, .ref q2]
  l : SqT K H q1 (los.map V.int)
  h : SqT K H q2 (his.map V.int)
theorem BoxT.kp {K : PySem.W.Frag} {S : List Addr} {H H' : Hp} {p q1 q2 : Addr} {los his : List Int} (k : Kp S H H') (h : BoxT K H p q1 q2 los his) : BoxT K H' p q1 q2 los his := ⟨k.tup h.b, k.tup h.l, k.tup h.h⟩
theorem BoxT.pp {K : PySem.W.Frag} {H : Hp} {p q1 q2 : Addr} {los his : List Int} (h : BoxT K H p q1 q2 los his) : BoxP K H p q1 q2 los his := ⟨h.b, .inr h.l, .inr h.h⟩
def factE (los his : List Int) : Fact → Option (List Lit)
  | .row ts n => rowE los his ts n
  | .any ls => clauseE los his ls
def factW (m : Nat) : Fact → Prop
  | .row ts _ => tmW m ts
  | .any ls => ls.length ≤ 60 ∧ ∀ l ∈ ls, 0 ≤ l.v ∧ l.v < m
def nl (l : Lit) : Lit := ⟨l.v, l.r.neg, l.r.nnum l.a⟩
def exceeds (los his : List Int) : Fact → Bool
  | .row ts n => decide (n < lsB los his ts)
  | .any _ => false
def whenY (los his : List Int) (l : Lit) (ts : Tms) (r : Rel) (n : Int) : List Fact :=
  if possB (at_ los l.v) (at_ his l.v) (nl l) = true then (if (rowsOf ts r n).any (exceeds los his) = true then [.any [nl l]] else []) else rowsOf ts r n
def apC (los his : List Int) (x y : Int) : Bool := decide (x ≠ y) && (decide (at_ his x = at_ los x) && (decide (at_ los x = at_ los y) || decide (at_ los x = at_ his y)))
def apF (los : List Int) (x y : Int) : Fact := .any [⟨if y < x then y else x, .ne, at_ los x⟩, ⟨if y > x then y else x, .ne, at_ los x⟩]
def apY (los his : List Int) (us : List Int) (x : Int) : List Fact := (us.filter (apC los his x)).map (apF los x)
def apartY (los his : List Int) (us : List Int) : List Fact := us.flatMap (apY los his us)
def yieldsOf (los his : List Int) : Body → List Fact
  | .row ts r n => rowsOf ts r n
  | .any ls => [.any ls]
  | .when l ts r n => whenY los his l ts r n
  | .diff us => apartY los his us
  | _ => []
def boxD (los his : List Int) : Dm := fun v => rgI (at_ los v) (at_ his v + 1)
/-- the values at both ends of each unknown are held -/
structure SuppC (U : List Int) (los his : List Int) (b : Body) : Prop where
  ex : ∃ g, Within U (boxD los his) g ∧ b.h g = true
  lo : ∀ v ∈ U, ∃ g, Within U (boxD los his) g ∧ b.h g = true ∧ g v = at_ los v
  hi : ∀ v ∈ U, ∃ g, Within U (boxD los his) g ∧ b.h g = true ∧ g v = at_ his v
def suppK : Body → Bool
  | .table _ _ => true
  | .elem _ _ _ => true
  | .times _ _ _ => true
  | _ => false
def CleanB (m : Nat) (los his : List Int) (b : Body) : Prop :=
  if suppK b = true then 400 < costB m b (boxD los his) ∨ SuppC (canon m b.vars) los his b else ∀ f ∈ yieldsOf los his b, factE los his f = some []
def bd1 (m : Nat) (los his : List Int) : Prop := ∀ v : Int, 0 ≤ v → v < m → -1000 ≤ at_ los v ∧ at_ his v ≤ 1000
theorem negT_W {m : Nat} {ts : Tms} (h : tmW m ts) : tmW m (negT ts) := by
  refine ⟨by unfold negT; rw [List.length_map]; exact h.1, fun z hz => ?_⟩
  unfold negT at hz
  obtain ⟨y, hy, rfl⟩ := List.mem_map.mp hz
  have := h.2 y hy
  dsimp only
  omega
theorem rowsOf_W {m : Nat} {ts : Tms} {r : Rel} {n : Int} (h : tmW m ts) : ∀ f ∈ rowsOf ts r n, factW m f := fun f hf => by
  unfold rowsOf at hf
  rcases List.mem_append.mp hf with hf | hf <;> split at hf
  · cases hf
  · rw [List.mem_singleton] at hf
    rw [hf]
    exact h
  · cases hf
  · rw [List.mem_singleton] at hf
    rw [hf]
    exact negT_W h
theorem rowsOf_len (ts : Tms) (r : Rel) (n : Int) : (rowsOf ts r n).length ≤ 2 := by
  unfold rowsOf
  split <;> split <;> simp
theorem rowsOf_row {ts : Tms} {r : Rel} {n : Int} {f : Fact} (h : f ∈ rowsOf ts r n) : ∃ us k, f = .row us k := by
  unfold rowsOf at h
  rcases List.mem_append.mp h with h | h <;> split at h
  · cases h
  · rw [List.mem_singleton] at h
    exact ⟨_, _, h⟩
  · cases h
  · rw [List.mem_singleton] at h
    exact ⟨_, _, h⟩
theorem tmFit.tmW {m : Nat} {ts : Tms} (h : tmFit m ts) : CG.tmW m ts := ⟨h.1, fun z hz => by have := h.2.2 z hz; omega⟩
theorem yields_W {m : Nat} {los his : List Int} {b : Body} (h : b.fit m) : ∀ f ∈ yieldsOf los his b, factW m f := fun f hf => by
  cases b with
  | row ts r n => exact rowsOf_W h.1.tmW f hf
  | any ls =>
    have hf : f ∈ [Fact.any ls] := hf
    rw [List.mem_singleton] at hf
    subst hf
    exact ⟨by have := h.1.2; omega, fun l hl => ⟨(h.2.2 l hl).1, (h.2.2 l hl).2.1⟩⟩
  | when l ts r n =>
    have hf : f ∈ whenY los his l ts r n := hf
    unfold whenY at hf
    split at hf
    · split at hf
      · rw [List.mem_singleton] at hf
        subst hf
        exact ⟨by simp, fun l' hl => by rw [List.mem_singleton] at hl; subst hl; exact ⟨h.1.1, h.1.2.1⟩⟩
      · cases hf
    · exact rowsOf_W h.2.1.tmW f hf
  | diff us =>
    have hf : f ∈ us.flatMap (apY los his us) := hf
    obtain ⟨x, hx, hf⟩ := List.mem_flatMap.mp hf
    obtain ⟨y, hy, rfl⟩ := List.mem_map.mp hf
    have hy := (List.mem_filter.mp hy).1
    have bx := h.2.2 x hx
    have by' := h.2.2 y hy
    refine ⟨by simp, fun l hl => ?_⟩
    simp only [List.mem_cons, List.not_mem_nil, or_false] at hl
    rcases hl with rfl | rfl
    · dsimp only
      split <;> omega
    · dsimp only
      split <;> omega
  | table us rows => cases hf
  | elem x es y => cases hf
  | times x y z => cases hf
theorem factE_len {m : Nat} {los his : List Int} {f : Fact} {es : List Lit} (w : factW m f) (h : factE los his f = some es) : es.length ≤ 120 := by
  cases f with
  | row ts n =>
    have h : rowE los his ts n = some es := h
    unfold rowE at h
    split at h
    · cases h
    · obtain rfl := Option.some.inj h
      generalize n - lsB los his ts = sl
      have : ∀ us : Tms, (us.flatMap (rowT los his sl)).length ≤ 2 * us.length := fun us => by
        induction us with
        | nil => simp
        | cons z us ih =>
          rw [List.flatMap_cons, List.length_append, List.length_cons]
          have : (rowT los his sl z).length ≤ 2 := by
            unfold rowT
            split <;> exact endsL_len _ _ _
          omega
      have := this ts
      have := w.1
      omega
  | any ls =>
    have h : clauseE los his ls = some es := h
    unfold clauseE at h
    split at h
    · cases h
    · obtain rfl := Option.some.inj h
      exact Nat.le_trans (endsL_len _ _ _) (by decide)
    · obtain rfl := Option.some.inj h
      simp
theorem apY_len (los his us : List Int) (x : Int) : (apY los his us x).length ≤ us.length := by
  unfold apY
  rw [List.length_map]
  exact List.length_filter_le _ _
theorem flatMap_len {α β : Type} {f : α → List β} {n : Nat} (h : ∀ a, (f a).length ≤ n) : ∀ l : List α, (l.flatMap f).length ≤ n * l.length
  | [] => by simp
  | a :: l => by
    rw [List.flatMap_cons, List.length_append, List.length_cons, Nat.mul_succ]
    have := h a
    have := flatMap_len h l
    omega
theorem apartY_len {los his us : List Int} (h : us.length ≤ 20) : (apartY los his us).length ≤ 400 := by
  have h1 := flatMap_len (fun x => apY_len los his us x) us
  have h2 := Nat.mul_le_mul h h
  show (us.flatMap (apY los his us)).length ≤ _
  omega
theorem yields_len {m : Nat} {los his : List Int} {b : Body} (h : b.fit m) : (yieldsOf los his b).length ≤ 400 := by
  cases b with
  | row ts r n => exact Nat.le_trans (rowsOf_len _ _ _) (by decide)
  | any ls => exact (by decide : 1 ≤ 400)
  | when l ts r n =>
    show (whenY los his l ts r n).length ≤ _
    unfold whenY
    split
    · split <;> simp
    · exact Nat.le_trans (rowsOf_len _ _ _) (by decide)
  | diff us => exact apartY_len h.1.2
  | table us rows => simp [yieldsOf]
  | elem x es y => simp [yieldsOf]
  | times x y z => simp [yieldsOf]
theorem Fact.im {K : PySem.W.Frag} {H : Hp} {x : V} {f : Fact} (h : Im K H x f.d) : ∃ p, x = .ref p ∧ FactAt K H p f := fact_at h
def spFactE (K : PySem.W.Frag) : Sp := fun vs H Q _ => ∃ (p q1 q2 q : Addr) (m : Nat) (los his : List Int) (f : Fact), vs = [.ref p, .ref q] ∧ BoxT K H p q1 q2 los his ∧ BxW m los his ∧ FactAt K H q f ∧ factW m f ∧ (∀ H', factE los his f = none → Kp [] H H' → Q .non H') ∧
  ∀ (d : Addr) (refs : List V) (es : List Lit) H', factE los his f = some es → H d = none → H' d = some (.lst refs) → ImAll K H' refs (es.map Lit.d) → Kp [] H H' → Q (.ref d) H'
def spWhenY (K : PySem.W.Frag) : Sp := fun vs H Q _ => ∃ (p q1 q2 q : Addr) (m : Nat) (los his : List Int) (l : Lit) (ts : Tms) (r : Rel) (n : Int), vs = [.ref p, .ref q] ∧ BoxT K H p q1 q2 los his ∧ BxW m los his ∧ BodyAt K H q (.when l ts r n) ∧ tmW m ts ∧ 0 ≤ l.v ∧ l.v < m ∧
  ∀ (d : Addr) (refs : List V) H', H d = none → H' d = some (.lst refs) → ImAll K H' refs ((whenY los his l ts r n).map Fact.d) → Kp [] H H' → Q (.ref d) H'
def spApartY (K : PySem.W.Frag) : Sp := fun vs H Q _ => ∃ (p q1 q2 q : Addr) (m : Nat) (los his us : List Int), vs = [.ref p, .ref q] ∧ BoxT K H p q1 q2 los his ∧ BxW m los his ∧ SqT K H q (us.map V.int) ∧ us.length ≤ 20 ∧ (∀ u ∈ us, 0 ≤ u ∧ u < m) ∧
  ∀ (d : Addr) (refs : List V) H', H d = none → H' d = some (.lst refs) → ImAll K H' refs ((apartY los his us).map Fact.d) → Kp [] H H' → Q (.ref d) H'
def spYields (K : PySem.W.Frag) : Sp := fun vs H Q _ => ∃ (p q1 q2 q : Addr) (m : Nat) (los his : List Int) (b : Body), vs = [.ref p, .ref q] ∧ BoxT K H p q1 q2 los his ∧ BxW m los his ∧ BodyAt K H q b ∧ b.fit m ∧ suppK b = false ∧
  ∀ (d : Addr) (refs : List V) H', H d = none → H' d = some (.lst refs) → ImAll K H' refs ((yieldsOf los his b).map Fact.d) → Kp [] H H' → Q (.ref d) H'
def spIsSupp (K : PySem.W.Frag) : Sp := fun vs H Q _ => ∃ (q : Addr) (b : Body), vs = [.ref q] ∧ BodyAt K H q b ∧ ∀ H', Kp [] H H' → Q (.bl (suppK b)) H'
def spSuppE (K : PySem.W.Frag) : Sp := fun vs H Q _ => ∃ (p q1 q2 q : Addr) (m : Nat) (los his : List Int) (b : Body), vs = [.ref p, .ref q] ∧ BoxT K H p q1 q2 los his ∧ BxW m los his ∧ bd1 m los his ∧ m ≤ 60 ∧ BodyAt K H q b ∧ b.fit m ∧ (∀ H', ¬ (400 < costB m b (boxD los his) ∨ SuppC (canon m b.vars) los his b) → Kp [] H H' → Q .non H') ∧
  ∀ (d : Addr) (refs : List V) (es : List Lit) H', (es = [] ↔ (400 < costB m b (boxD los his) ∨ SuppC (canon m b.vars) los his b)) → H d = none → H' d = some (.lst refs) → ImAll K H' refs (es.map Lit.d) → Kp [] H H' → Q (.ref d) H'
def spBodyE (K : PySem.W.Frag) : Sp := fun vs H Q _ => ∃ (p q1 q2 q : Addr) (m : Nat) (los his : List Int) (b : Body), vs = [.ref p, .ref q] ∧ BoxT K H p q1 q2 los his ∧ BxW m los his ∧ bd1 m los his ∧ m ≤ 60 ∧ BodyAt K H q b ∧ b.fit m ∧ (∀ H', ¬ CleanB m los his b → Kp [] H H' → Q .non H') ∧
  ∀ (d : Addr) (refs : List V) (es : List Lit) H', (es = [] ↔ CleanB m los his b) → H d = none → H' d = some (.lst refs) → ImAll K H' refs (es.map Lit.d) → Kp [] H H' → Q (.ref d) H'
def spBodyC (K : PySem.W.Frag) : Sp := fun vs H Q _ => ∃ (p q1 q2 q : Addr) (m : Nat) (los his : List Int) (b : Body), vs = [.ref p, .ref q] ∧ BoxT K H p q1 q2 los his ∧ BxW m los his ∧ bd1 m los his ∧ m ≤ 60 ∧ BodyAt K H q b ∧ b.fit m ∧ ∀ (c : Bool) H', (c = true ↔ CleanB m los his b) → Kp [] H H' → Q (.bl c) H'

section
variable {P : Program} {w : World} {K : PySem.W.Frag} {mg : Str → Option Value} {base : Heap} {C_Model : Addr}
theorem ok_fact_ends {f : Addr} {fd : FuncData} (F : Fun K "fact_ends" "fact_ends" s_fact_ends f fd) (B : Bi K mg) (D_clause_ends : Is P w K mg base CX0 2 "clause_ends" ["box", "clause"] (spClauseE K)) (D_row_ends : Is P w K mg base CX0 2 "row_ends" ["box", "row"] (spRowE K)) : FnOk P w K mg base CX0 3 f fd ["box", "fact"] (spFactE K) := by
  have nd := sc_fact_ends.nd
  refine F.ok sc_fact_ends ?len (fun cdv A outer s H vs Q E hr h => ?body)
  case len =>
    rintro vs H Q E ⟨p, q1, q2, q, m, los, his, f, rfl, _⟩
    rfl
  case body =>
    obtain ⟨p, q1, q2, q, m, los, his, f, rfl, Bx, W, F, fw, k0, k1⟩ := h
    refine ⟨_, (pss_cons (ps_if (pt_cmpR op_eq (pe_ix (ixT K) (pv 1) pe_int (fun _ _ => rfl)) pe_str (nomark _))
      (pss_one (ps_ret (pe_is D_row_ends (hr.mono (by decide)) rfl pass0 (pa_cons (pv 0) (pa_cons (pv 1) pa_nil)))))
      pss_nil)
      (pss_one (ps_ret (pe_is D_clause_ends (hr.mono (by decide)) rfl pass0 (pa_cons (pv 0) (pa_cons (pv 1) pa_nil)))))), ?_⟩
    try dsimp only [L2.cxOf, L2.Cx.nox, L2.Cx.wish]
    rw [st_fact_ends]
    cases f with
    | row ts n =>
      obtain ⟨qt, s0, it⟩ := row_open F
      walk_at "cg"
      exact ⟨p, q1, q2, q, m, los, his, ts, n, rfl, Bx.pp, W, F, fw, fun H' e k => k0 H' e k, fun d refs es H' e hd ed A k => k1 d refs es H' e hd ed A k⟩
    | any ls =>
      obtain ⟨ql, s0, il⟩ := any_open F
      walk_at "cg"
      exact ⟨p, q1, q2, q, m, los, his, ls, rfl, Bx.pp, W, F, fw.1, fw.2, fun H' e k => k0 H' e k, fun d refs es H' e hd ed A k => k1 d refs es H' e hd ed A k⟩
theorem ok_when_yields {f : Addr} {fd : FuncData} (F : Fun K "when_yields" "when_yields" s_when_yields f fd) (B : Bi K mg) (D_rows_of : Is P w K mg base CX0 2 "rows_of" ["terms", "relation", "rhs"] (spRowsOf K)) (D_is_sure : Is P w K mg base CX0 2 "is_sure" ["box", "literal"] (spSure K)) (D_least_sum : Is P w K mg base CX0 1 "least_sum" ["box", "terms"] (spLeastS K)) (D_negated : Is P w K mg base CX0 1 "negated" ["literal"] (spNeg K)) : FnOk P w K mg base CX0 3 f fd ["box", "body"] (spWhenY K) := by
  have nd := sc_when_yields.nd
  refine F.ok sc_when_yields ?len (fun cdv A outer s H vs Q E hr h => ?body)
  case len =>
    rintro vs H Q E ⟨p, q1, q2, q, m, los, his, l, ts, r, n, rfl, _⟩
    rfl
  case body =>
    obtain ⟨p, q1, q2, q, m, los, his, l, ts, r, n, rfl, Bx, W, hb, tw, v0, v1, k⟩ := h
    refine ⟨_, (pss_cons (ps_set (i := 2) nd rfl (Or.inl rfl) (pe_ix (ixT K) (pv 1) pe_int (fun _ _ => rfl)))
      (pss_cons (ps_set (i := 3) nd rfl (Or.inl rfl) (pe_is D_rows_of (hr.mono (by decide)) rfl pass0 (pa_cons (pe_ix (ixT K) (pv 1) pe_int (fun _ _ => rfl)) (pa_cons (pe_ix (ixT K) (pv 1) pe_int (fun _ _ => rfl)) (pa_cons (pe_ix (ixT K) (pv 1) pe_int (fun _ _ => rfl)) pa_nil)))))
      (pss_cons (ps_if (pt_val (pe_is D_is_sure (hr.mono (by decide)) rfl pass0 (pa_cons (pv 0) (pa_cons (pv 2) pa_nil))))
      (pss_one (ps_ret (pv 3)))
      pss_nil)
      (pss_cons (ps_for PassesOwn.never rfl ((piLst K) (pv 3)) (pg_name (i := 4) nd rfl (Or.inl rfl))
      (pss_one (ps_if (pt_cmpR op_gt (pe_is D_least_sum (hr.mono (by decide)) rfl pass0 (pa_cons (pv 0) (pa_cons (pe_ix (ixT K) (pv 4) pe_int (fun _ _ => rfl)) pa_nil))) (pe_ix (ixT K) (pv 4) pe_int (fun _ _ => rfl)) (nomark _))
      (pss_one (ps_ret (pe_lst (pa_cons (pe_tup (pa_cons pe_str (pa_cons (pe_tup (pa_cons (pe_is D_negated (hr.mono (by decide)) rfl pass0 (pa_cons (pv 2) pa_nil)) pa_nil)) pa_nil))) pa_nil))))
      pss_nil)))
      (pss_one (ps_ret (pe_lst pa_nil))))))), ?_⟩
    try dsimp only [L2.cxOf, L2.Cx.nox, L2.Cx.wish]
    rw [st_when_yields]
    obtain ⟨ql, qt, s0, L, it⟩ := b_when hb
    walk_at "cg"
    refine ⟨qt, ts, r, n, rfl, it, by have := tw.1; omega, fun lr rr H1 hlr elr Ar k1 => ?_⟩
    have B1 := Bx.kp k1
    have L1 := k1.tup L
    walk_at "cg"
    refine ⟨p, q1, q2, ql, m, los, his, l, rfl, B1.pp, W, L1, v0, v1, fun H2 k2 => ?_⟩
    have K2 := Kp.tr0 k2 k1
    have el2 := k2.get0 elr
    have A2 := k2.imAll Ar
    have hw : whenY los his l ts r n = if possB (at_ los l.v) (at_ his l.v) (nl l) = true then (if (rowsOf ts r n).any (exceeds los his) = true then [.any [nl l]] else []) else rowsOf ts r n := rfl
    have fl : H lr = none := hlr
    clear k1 k2 elr Ar hlr
    cases hs : possB (at_ los l.v) (at_ his l.v) (nl l) with
    | false =>
      rw [hs] at hw
      have hs' : possB (at_ los l.v) (at_ his l.v) ⟨l.v, l.r.neg, l.r.nnum l.a⟩ = false := hs
      rw [hs']
      walk_at "cg"
      exact k lr rr H2 fl el2 (by rw [hw]; exact A2) K2
    | true =>
      rw [hs] at hw
      have hs' : possB (at_ los l.v) (at_ his l.v) ⟨l.v, l.r.neg, l.r.nnum l.a⟩ = true := hs
      rw [hs']
      walk_at "cg"
      refine r_forLD [] el2 (by simp) A2 (fun i σ' H' => ∃ x5 : Option V, σ' = [some (.ref p), some (.ref q), some (.ref ql), some (.ref lr), x5] ∧ ((rowsOf ts r n).take i).any (exceeds los his) = false ∧ Kp [] H2 H') ⟨_, rfl, rfl, .refl⟩ (fun i σ' H' ⟨_, _, _, h⟩ => h) ?_ ?_
      · rintro i f x σ' H3 hf hx k3 ⟨x5, rfl, ea, _⟩
        obtain ⟨px, rfl, F⟩ := fact_at hx
        have hm := List.mem_of_getElem? hf
        have fw := rowsOf_W (n := n) (r := r) tw f hm
        obtain ⟨us, c, rfl⟩ := rowsOf_row hm
        obtain ⟨qu, su, iu⟩ := row_open F
        have K3 := Kp.tr0 k3 K2
        have B3 := Bx.kp K3
        walk_at "cg"
        refine ⟨p, q1, q2, qu, m, los, his, us, rfl, B3.pp, W, iu, fw, fun H4 k4 => ?_⟩
        have s4 := k4.tup su
        have L4 := (Kp.tr0 k4 K3).tup L
        walk_at "cg"
        refine if_S (fun g => ?_) (fun g => ?_)
        · have e1 : (rowsOf ts r n).any (exceeds los his) = true := List.any_eq_true.mpr ⟨_, hm, decide_eq_true g⟩
          rw [e1] at hw
          walk_at "cg"
          refine ⟨ql, l.v, l.r, l.a, rfl, L4, fun pl H5 L5 k5 => ?_⟩
          have K5 := Kp.tr0 k5 (Kp.tr0 k4 K3)
          walk_at "cg"
          rename_i p6 H6 hp6 s6 k6 p7 H7 hp7 s7 k7 p8 H8 hp8 s8 k8
          have I6 : Im K H6 (.ref p6) (litsD [nl l]) := .tup s6 (.cons (litI (l := nl l) (k6.tup L5)) .nil)
          have K8 := Kp.tr0 k8 (Kp.tr0 k7 (Kp.tr0 k6 K5))
          refine k p8 _ H8 ((Kp.tr0 k7 (Kp.tr0 k6 K5)).free0 hp8) s8 ?_ K8
          rw [hw]
          exact .cons (k8.im (any_mk s7 (k7.im I6))) .nil
        · walk_at "cg"
          refine ⟨_, rfl, ?_, Kp.tr0 k4 k3⟩
          rw [List.take_add_one, hf, List.any_append, ea]
          show (false || ([Fact.row us c].any (exceeds los his))) = false
          simp only [List.any_cons, List.any_nil, Bool.or_false, Bool.false_or, exceeds, decide_eq_false_iff_not]
          exact g
      · rintro σ' H3 k3 ⟨x5, rfl, ea, _⟩
        rw [List.take_length] at ea
        rw [ea] at hw
        walk_at "cg"
        rename_i p4 H4 hp4 s4 k4
        exact k p4 [] H4 ((Kp.tr0 k3 K2).free0 hp4) s4 (by rw [hw]; exact .nil) (Kp.tr0 k4 (Kp.tr0 k3 K2))
theorem ok_apart_yields {f : Addr} {fd : FuncData} (F : Fun K "apart_yields" "apart_yields" s_apart_yields f fd) (B : Bi K mg)  : FnOk P w K mg base CX0 1 f fd ["box", "unknowns"] (spApartY K) := by
  have nd := sc_apart_yields.nd
  refine F.ok sc_apart_yields ?len (fun cdv A outer s H vs Q E hr h => ?body)
  case len =>
    rintro vs H Q E ⟨p, q1, q2, q, m, los, his, us, rfl, _⟩
    rfl
  case body =>
    obtain ⟨p, q1, q2, q, m, los, his, us, rfl, Bx, W, hu, u20, rng, k⟩ := h
    refine ⟨_, (pss_cons (ps_set (i := 2) nd rfl (Or.inl rfl) (pe_lst pa_nil))
      (pss_cons (ps_for PassesOwn.never rfl (pi_tup (pv 1)) (pg_name (i := 3) nd rfl (Or.inl rfl))
      (pss_cons (ps_set (i := 4) nd rfl (Or.inl rfl) (pe_ix (ixT K) (pe_ix (ixT K) (pv 0) pe_int (fun _ _ => rfl)) (pv 3) (fun _ _ => rfl)))
      (pss_one (ps_for PassesOwn.never rfl (pi_tup (pv 1)) (pg_name (i := 5) nd rfl (Or.inl rfl))
      (pss_one (ps_if (PW.pt (pw_and (pt_cmpR op_ne (pv 3) (pv 5) (nomark _)) (pw_and (pt_cmpR op_eq (pe_ix (ixT K) (pe_ix (ixT K) (pv 0) pe_int (fun _ _ => rfl)) (pv 3) (fun _ _ => rfl)) (pv 4) (nomark _)) (pw_and1 (pt_cmpR (inS K) (pv 4) (pe_tup (pa_cons (pe_ix (ixT K) (pe_ix (ixT K) (pv 0) pe_int (fun _ _ => rfl)) (pv 5) (fun _ _ => rfl)) (pa_cons (pe_ix (ixT K) (pe_ix (ixT K) (pv 0) pe_int (fun _ _ => rfl)) (pv 5) (fun _ _ => rfl)) pa_nil))) rfl)))))
      (pss_one (ps_expr (pe_bm PySem.F.plainAttrs_list PySem.F.slot_list_append PySem.F.type_list_append mt_append (pv 2) (pa_cons (pe_tup (pa_cons pe_str (pa_cons (pe_tup (pa_cons (pe_tup (pa_cons (pe_callB (cg_min2 rfl) (by rfl) B.n_min (by decide +kernel) (pa_cons (pv 3) (pa_cons (pv 5) pa_nil))) (pa_cons pe_str (pa_cons (pv 4) pa_nil)))) (pa_cons (pe_tup (pa_cons (pe_callB (cg_max2 rfl) (by rfl) B.n_max (by decide +kernel) (pa_cons (pv 3) (pa_cons (pv 5) pa_nil))) (pa_cons pe_str (pa_cons (pv 4) pa_nil)))) pa_nil))) pa_nil))) pa_nil))))
      pss_nil))))))
      (pss_one (ps_ret (pv 2))))), ?_⟩
    try dsimp only [L2.cxOf, L2.Cx.nox, L2.Cx.wish]
    rw [st_apart_yields]
    have sb := Bx.b
    have sl := Bx.l
    have sh := Bx.h
    walk_at "cg"
    rename_i d H1 hd ed k1
    have hap : ∀ x, (apY los his us x).length ≤ 20 := fun x => Nat.le_trans (apY_len _ _ _ _) u20
    refine r_forT (us.map V.int) (fun i σ' H' => ∃ (refs : List V) (x4 x5 x6 : Option V), σ' = [some (.ref p), some (.ref q), some (.ref d), x4, x5, x6] ∧ H' d = some (.lst refs) ∧ ImAll K H' refs (((us.take i).flatMap (apY los his us)).map Fact.d) ∧ Kp [d] H1 H') ⟨[], _, _, _, rfl, ed, .nil, Kp.base fun b hb => by rw [List.mem_singleton] at hb; rw [hb, ed]; trivial⟩ (fun i σ' H' ⟨_, _, _, _, _, _, _, kk⟩ => kk.tup (k1.tup hu)) ?_ ?_
    · rintro i x σ' H2 hx ⟨refs, x4, x5, x6, rfl, e2, A2, k2⟩
      obtain ⟨v, hv, rfl⟩ : ∃ v, us[i]? = some v ∧ x = .int v := by
        rw [List.getElem?_map] at hx
        obtain ⟨v, h1, h2⟩ := Option.map_eq_some_iff.mp hx
        exact ⟨v, h1, h2.symm⟩
      have hi : i < us.length := (List.getElem?_eq_some_iff.mp hv).1
      have rv := rng v (List.mem_of_getElem? hv)
      have a1 := atS rv.1 (by rw [W.a]; exact rv.2)
      have a2 := atS rv.1 (by rw [W.b]; exact rv.2)
      have KK := Kp.trN k2 k1 hd
      have sb2 := KK.tup sb
      walk_at "cg"
      refine r_ixT (KK.tup sl) a1 ?_
      walk_at "cg"
      refine r_forT (us.map V.int) (fun j σ' H' => ∃ (refs : List V) (x6 : Option V), σ' = [some (.ref p), some (.ref q), some (.ref d), some (.int v), some (.int (at_ los v)), x6] ∧ H' d = some (.lst refs) ∧ ImAll K H' refs (((us.take i).flatMap (apY los his us) ++ ((us.take j).filter (apC los his v)).map (apF los v)).map Fact.d) ∧ Kp [d] H1 H') ⟨refs, _, rfl, e2, by simpa using A2, k2⟩ (fun i σ' H' ⟨_, _, _, _, _, kk⟩ => kk.tup (k1.tup hu)) ?_ ?_
      · clear KK sb2
        rintro j y σ' H3 hy ⟨refs, x6, rfl, e3, A3, k3⟩
        obtain ⟨u, hu', rfl⟩ : ∃ u, us[j]? = some u ∧ y = .int u := by
          rw [List.getElem?_map] at hy
          obtain ⟨v, h1, h2⟩ := Option.map_eq_some_iff.mp hy
          exact ⟨v, h1, h2.symm⟩
        have hj : j < us.length := (List.getElem?_eq_some_iff.mp hu').1
        have ru := rng u (List.mem_of_getElem? hu')
        have b1 := atS ru.1 (by rw [W.a]; exact ru.2)
        have b2 := atS ru.1 (by rw [W.b]; exact ru.2)
        have KK := Kp.trN k3 k1 hd
        have sb3 := KK.tup sb
        have sl3 := KK.tup sl
        have sh3 := KK.tup sh
        have rl : refs.length ≤ 420 := by
          have h1 := mapLenP A3
          rw [List.length_append, List.length_map] at h1
          have h2 := flatMap_len hap (us.take i)
          rw [List.length_take] at h2
          have h3 := List.length_filter_le (apC los his v) (us.take j)
          rw [List.length_take] at h3
          omega
        have ft : ∀ c, apC los his v u = c → ((us.take (j + 1)).filter (apC los his v)).map (apF los v) = ((us.take j).filter (apC los his v)).map (apF los v) ++ (if c = true then [apF los v u] else []) := fun c hc => by
          rw [List.take_add_one, hu', List.filter_append, List.map_append]
          congr 1
          show List.map _ (List.filter _ [u]) = _
          rw [List.filter_cons, hc]
          cases c <;> simp
        have fin : ∀ H', apC los his v u = false → H' d = some (.lst refs) → ImAll K H' refs (((us.take i).flatMap (apY los his us) ++ ((us.take j).filter (apC los his v)).map (apF los v)).map Fact.d) → Kp [d] H1 H' → ∃ (refs : List V) (y6 : Option V), ([some (.ref p), some (.ref q), some (.ref d), some (.int v), some (.int (at_ los v)), some (.int u)] : St) = [some (.ref p), some (.ref q), some (.ref d), some (.int v), some (.int (at_ los v)), y6] ∧ H' d = some (.lst refs) ∧ ImAll K H' refs (((us.take i).flatMap (apY los his us) ++ ((us.take (j + 1)).filter (apC los his v)).map (apF los v)).map Fact.d) ∧ Kp [d] H1 H' := fun H' e he hA hk => ⟨refs, _, rfl, he, by rw [ft _ e, if_neg (by decide), List.append_nil]; exact hA, hk⟩
        walk_at "cg"
        refine if_S (fun g1 => ?_) (fun g1 => ?_)
        · walk_at "cg"
          refine r_ixT sh3 a2 ?_
          walk_at "cg"
          refine if_S (fun g2 => ?_) (fun g2 => ?_)
          · walk_at "cg"
            refine r_ixT sl3 b1 ?_
            walk_at "cg"
            refine r_ixT sh3 b2 ?_
            walk_at "cg"
            rename_i p4 H4 hp4 s4 k4
            refine r_inT (b := decide (at_ los v ∈ [at_ los u, at_ his u])) s4 rfl rfl (inV_ints (at_ los v) [at_ los u, at_ his u]) ?_
            have e4 := k4.get0 e3
            have A4 := k4.imAll A3
            walk_at "cg"
            refine if_S (fun g3 => ?_) (fun g3 => ?_)
            · have c1 : apC los his v u = true := by
                simp only [List.mem_cons, List.not_mem_nil, or_false] at g3
                unfold apC
                rw [decide_eq_true g1, decide_eq_true g2]
                simpa using g3
              walk_at "cg"
              rename_i p5 H5 hp5 s5 k5 p6 H6 hp6 s6 k6 p7 H7 hp7 s7 k7 p8 H8 hp8 s8 k8 H9 e9 k9
              have I7 : Im K H7 (.ref p7) (litsD [⟨if u < v then u else v, .ne, at_ los v⟩, ⟨if u > v then u else v, .ne, at_ los v⟩]) := .tup s7 (.cons ((Kp.tr0 k7 k6).im (litI (l := ⟨if u < v then u else v, .ne, at_ los v⟩) s5)) (.cons (k7.im (litI (l := ⟨if u > v then u else v, .ne, at_ los v⟩) s6)) .nil))
              have F8 : Im K H8 (.ref p8) (apF los v u).d := any_mk s8 (k8.im I7)
              have K8 := Kp.tr0 k8 (Kp.tr0 k7 (Kp.tr0 k6 k5))
              refine ⟨_, _, rfl, e9, ?_, Kp.tr1 k9 (Kp.tr0 K8 (Kp.tr0 k4 k3))⟩
              rw [ft _ c1, if_pos rfl, ← List.append_assoc, List.map_append]
              exact (k9.imAll (K8.imAll A4)).snoc (k9.im F8)
            · have c1 : apC los his v u = false := by
                simp only [List.mem_cons, List.not_mem_nil, or_false] at g3
                unfold apC
                rw [decide_eq_true g1, decide_eq_true g2]
                simpa using g3
              walk_at "cg"
              exact fin H4 c1 e4 A4 (Kp.tr0 k4 k3)
          · walk_at "cg"
            exact fin H3 (by unfold apC; rw [decide_eq_false g2]; simp) e3 A3 k3
        · walk_at "cg"
          exact fin H3 (by unfold apC; rw [decide_eq_false g1]; simp) e3 A3 k3
      · rintro σ' H3 ⟨refs, x6, rfl, e3, A3, k3⟩
        rw [List.length_map, List.take_length] at A3
        walk_at "cg"
        refine ⟨refs, _, _, _, rfl, e3, ?_, k3⟩
        have : (us.take (i + 1)).flatMap (apY los his us) = (us.take i).flatMap (apY los his us) ++ (us.filter (apC los his v)).map (apF los v) := by
          rw [List.take_add_one, hv, List.flatMap_append]
          simp [apY]
        rw [this]
        exact A3
    · rintro σ' H2 ⟨refs, x4, x5, x6, rfl, e2, A2, k2⟩
      rw [List.length_map, List.take_length] at A2
      walk_at "cg"
      exact k d refs H2 hd e2 A2 (Kp.trN k2 k1 hd)
theorem ok_yielded {f : Addr} {fd : FuncData} (F : Fun K "yielded" "yielded" s_yielded f fd) (B : Bi K mg) (D_apart_yields : Is P w K mg base CX0 1 "apart_yields" ["box", "unknowns"] (spApartY K)) (D_rows_of : Is P w K mg base CX0 2 "rows_of" ["terms", "relation", "rhs"] (spRowsOf K)) (D_when_yields : Is P w K mg base CX0 3 "when_yields" ["box", "body"] (spWhenY K)) : FnOk P w K mg base CX0 4 f fd ["box", "body"] (spYields K) := by
  have nd := sc_yielded.nd
  refine F.ok sc_yielded ?len (fun cdv A outer s H vs Q E hr h => ?body)
  case len =>
    rintro vs H Q E ⟨p, q1, q2, q, m, los, his, b, rfl, _⟩
    rfl
  case body =>
    obtain ⟨p, q1, q2, q, m, los, his, b, rfl, Bx, W, hb, fit, ns, k⟩ := h
    refine ⟨_, (pss_cons (ps_set (i := 2) nd rfl (Or.inl rfl) (pe_ix (ixT K) (pv 1) pe_int (fun _ _ => rfl)))
      (pss_cons (ps_if (pt_cmpR op_eq (pv 2) pe_str (nomark _))
      (pss_one (ps_ret (pe_is D_rows_of (hr.mono (by decide)) rfl pass0 (pa_cons (pe_ix (ixT K) (pv 1) pe_int (fun _ _ => rfl)) (pa_cons (pe_ix (ixT K) (pv 1) pe_int (fun _ _ => rfl)) (pa_cons (pe_ix (ixT K) (pv 1) pe_int (fun _ _ => rfl)) pa_nil))))))
      pss_nil)
      (pss_cons (ps_if (pt_cmpR op_eq (pv 2) pe_str (nomark _))
      (pss_one (ps_ret (pe_lst (pa_cons (pe_tup (pa_cons pe_str (pa_cons (pe_ix (ixT K) (pv 1) pe_int (fun _ _ => rfl)) pa_nil))) pa_nil))))
      pss_nil)
      (pss_cons (ps_if (pt_cmpR op_eq (pv 2) pe_str (nomark _))
      (pss_one (ps_ret (pe_is D_when_yields (hr.mono (by decide)) rfl pass0 (pa_cons (pv 0) (pa_cons (pv 1) pa_nil)))))
      pss_nil)
      (pss_one (ps_ret (pe_is D_apart_yields (hr.mono (by decide)) rfl pass0 (pa_cons (pv 0) (pa_cons (pe_ix (ixT K) (pv 1) pe_int (fun _ _ => rfl)) pa_nil))))))))), ?_⟩
    try dsimp only [L2.cxOf, L2.Cx.nox, L2.Cx.wish]
    rw [st_yielded]
    cases b with
    | row ts r n =>
      obtain ⟨qt, s0, it⟩ := b_row hb
      walk_at "cg"
      exact ⟨qt, ts, r, n, rfl, it, by have := fit.1.1; omega, fun lr rr H1 hlr elr Ar k1 => k lr rr H1 hlr elr Ar k1⟩
    | any ls =>
      obtain ⟨ql, s0, il⟩ := b_any hb
      walk_at "cg"
      rename_i p1 H1 hp1 s1 k1 p2 H2 hp2 s2 k2
      exact k p2 _ H2 (k1.free0 hp2) s2 (.cons (k2.im (any_mk s1 (k1.im il))) .nil) (Kp.tr0 k2 k1)
    | when l ts r n =>
      obtain ⟨ql, qt, s0, L, it⟩ := b_when hb
      walk_at "cg"
      exact ⟨p, q1, q2, q, m, los, his, l, ts, r, n, rfl, Bx, W, hb, fit.2.1.tmW, fit.1.1, fit.1.2.1, k⟩
    | diff us =>
      obtain ⟨qu, s0, s1⟩ := b_diff hb
      walk_at "cg"
      exact ⟨p, q1, q2, qu, m, los, his, us, rfl, Bx, W, s1, fit.1.2, fit.2.2, k⟩
    | table us rows => cases ns
    | elem x es y => cases ns
    | times x y z => cases ns
theorem ok_is_supported {f : Addr} {fd : FuncData} (F : Fun K "is_supported" "is_supported" s_is_supported f fd) (B : Bi K mg)  : FnOk P w K mg base CX0 1 f fd ["body"] (spIsSupp K) := by
  have nd := sc_is_supported.nd
  refine F.ok sc_is_supported ?len (fun cdv A outer s H vs Q E hr h => ?body)
  case len =>
    rintro vs H Q E ⟨q, b, rfl, _⟩
    rfl
  case body =>
    obtain ⟨q, b, rfl, hb, k⟩ := h
    refine ⟨_, (pss_one (ps_ret (pe_cmpR (inS K) (pe_ix (ixT K) (pv 0) pe_int (fun _ _ => rfl)) (pe_tup (pa_cons pe_str (pa_cons pe_str (pa_cons pe_str pa_nil)))) rfl))), ?_⟩
    try dsimp only [L2.cxOf, L2.Cx.nox, L2.Cx.wish]
    rw [st_is_supported]
    cases b with
    | row ts r n =>
      obtain ⟨qt, s0, it⟩ := b_row hb
      walk_at "cg"
      exact k _ (by assumption)
    | any ls =>
      obtain ⟨ql, s0, il⟩ := b_any hb
      walk_at "cg"
      exact k _ (by assumption)
    | when l ts r n =>
      obtain ⟨ql, qt, s0, L, it⟩ := b_when hb
      walk_at "cg"
      exact k _ (by assumption)
    | diff us =>
      obtain ⟨qu, s0, s1⟩ := b_diff hb
      walk_at "cg"
      exact k _ (by assumption)
    | table us rows =>
      obtain ⟨qu, qr, s0, s1, i2⟩ := b_table hb
      walk_at "cg"
      exact k _ (by assumption)
    | elem x es y =>
      obtain ⟨q1, s0, s1⟩ := b_elem hb
      walk_at "cg"
      exact k _ (by assumption)
    | times x y z =>
      have s0 := b_times hb
      walk_at "cg"
      exact k _ (by assumption)
theorem ok_support_ends {f : Addr} {fd : FuncData} (F : Fun K "support_ends" "support_ends" s_support_ends f fd) (B : Bi K mg) (D_body_choices : Is P w K mg base CX0 4 "body_choices" ["body", "domains"] (spBodyCh K (fun _ => True))) (D_unknowns_of : Is P w K mg base CX0 1 "unknowns_of" ["body"] (spUnkn K)) (D_cost_of : Is P w K mg base CX0 2 "cost_of" ["body", "domains"] (spCostOf K)) (D_ends_wanted : Is P w K mg base CX0 1 "ends_wanted" ["box", "literal"] (spEndsW K)) : FnOk P w K mg base CX0 5 f fd ["box", "body"] (spSuppE K) := by
  have nd := sc_support_ends.nd
  refine F.ok sc_support_ends ?len (fun cdv A outer s H vs Q E hr h => ?body)
  case len =>
    rintro vs H Q E ⟨p, q1, q2, q, m, los, his, b, rfl, _⟩
    rfl
  case body =>
    obtain ⟨p, q1, q2, q, m, los, his, b, rfl, Bx, W, b1, m60, hb, fit, k0, k1⟩ := h
    refine ⟨_, (pss_cons (ps_setDc (i := 2) (own := [("v", 5)]) (g := (gName 5)) (tt := tYes) rfl nd rfl rfl (sw_trueD rfl rfl rfl (by decide +kernel)) ((piLst K) (pe_is D_unknowns_of (hr.mono (by decide)) rfl pass0 (pa_cons (pv 1) pa_nil))) (blkOk_by (N := ["box", "body", "domains", "supports", "wanted", "v", "held", "choice"]) (sc := defScope s_support_ends) (by decide +kernel)) (fun _ _ _ _ _ => (pg_name (i := 5) nd rfl (Or.inl rfl))) (fun _ _ _ _ _ => pts_nil) (fun _ _ _ _ _ => (pv 5)) (fun _ _ _ _ _ => (pe_listRg rfl (by rfl) B.n_list (prg_2 (by rfl) B.n_range (pe_ix (ixT K) (pe_ix (ixT K) (pv 0) pe_int (fun _ _ => rfl)) (pv 5) (fun _ _ => rfl)) (pe_op op_add (pe_ix (ixT K) (pe_ix (ixT K) (pv 0) pe_int (fun _ _ => rfl)) (pv 5) (fun _ _ => rfl)) pe_int)))))
      (pss_cons (ps_if (pt_cmpR op_gt (pe_is D_cost_of (hr.mono (by decide)) rfl pass0 (pa_cons (pv 1) (pa_cons (pv 2) pa_nil))) (pe_gc rfl B.c_COST_MOST) (nomark _))
      (pss_one (ps_ret (pe_lst pa_nil)))
      pss_nil)
      (pss_cons (ps_set (i := 3) nd rfl (Or.inl rfl) (pe_is D_body_choices (hr.mono (by decide)) rfl pass0 (pa_cons (pv 1) (pa_cons (pv 2) pa_nil))))
      (pss_cons (ps_if (pt_cmpR op_eq (pe_callB (cgLen K) (by rfl) B.n_len PySem.boot_len (pa_cons (pv 3) pa_nil)) pe_int (nomark _))
      (pss_one (ps_ret pe_non))
      pss_nil)
      (pss_cons (ps_set (i := 4) nd rfl (Or.inl rfl) (pe_lst pa_nil))
      (pss_cons (ps_for PassesOwn.never rfl ((piLst K) (pe_is D_unknowns_of (hr.mono (by decide)) rfl pass0 (pa_cons (pv 1) pa_nil))) (pg_name (i := 5) nd rfl (Or.inr rfl))
      (pss_cons (ps_setLc (i := 6) (own := [("choice", 7)]) (g := (gName 7)) (tt := tYes) rfl nd rfl rfl (sw_true rfl rfl rfl (by decide +kernel)) ((piLst K) (pv 3)) (blkOk_by (N := ["box", "body", "domains", "supports", "wanted", "v", "held", "choice"]) (sc := defScope s_support_ends) (by decide +kernel)) (fun _ _ _ _ _ => (pg_name (i := 7) nd rfl (Or.inl rfl))) (fun _ _ _ _ _ => pts_nil) (fun _ _ _ _ _ => (pe_ix ix_dK (pv 7) (pv 5) (fun _ _ => rfl))))
      (pss_cons (ps_expr (pe_bm PySem.F.plainAttrs_list PySem.F.slot_list_extend PySem.F.type_list_extend mt_extend (pv 4) (pa_cons (pe_is D_ends_wanted (hr.mono (by decide)) rfl pass0 (pa_cons (pv 0) (pa_cons (pe_tup (pa_cons (pv 5) (pa_cons pe_str (pa_cons (pe_callB (cr_max rfl) (by rfl) B.n_max (by decide +kernel) (pa_cons (pv 6) pa_nil)) pa_nil)))) pa_nil))) pa_nil)))
      (pss_one (ps_expr (pe_bm PySem.F.plainAttrs_list PySem.F.slot_list_extend PySem.F.type_list_extend mt_extend (pv 4) (pa_cons (pe_is D_ends_wanted (hr.mono (by decide)) rfl pass0 (pa_cons (pv 0) (pa_cons (pe_tup (pa_cons (pv 5) (pa_cons pe_str (pa_cons (pe_callB (cr_min rfl) (by rfl) B.n_min (by decide +kernel) (pa_cons (pv 6) pa_nil)) pa_nil)))) pa_nil))) pa_nil)))))))
      (pss_one (ps_ret (pv 4))))))))), ?_⟩
    try dsimp only [L2.cxOf, L2.Cx.nox, L2.Cx.wish]
    rw [st_support_ends]
    have rng : ∀ v ∈ b.vars, 0 ≤ v ∧ v < m := Body.fit_vars fit
    have mc := mem_canon rng
    have bd := Body.fit_bd fit
    have l60 := Nat.le_trans (canon_len m b.vars) m60
    have nd9 := canon_nodup m b.vars
    have wk : ∀ v ∈ canon m b.vars, 0 ≤ v ∧ v < m := fun v hv => rng v ((mc v).mp hv)
    have okD : DomOk (canon m b.vars) (boxD los his) := fun v hv => by
      have r := wk v hv
      have w1 := W.bd v r.1 r.2
      have w2 := b1 v r.1 r.2
      refine ⟨fun e => ?_, rgI_asc _ _, by show (rgI _ _).length ≤ _; rw [rgI_len]; omega, fun a ha => ?_⟩
      · have : at_ los v ∈ boxD los his v := rgI_mem.mpr (by omega)
        rw [e] at this
        cases this
      · have := rgI_mem.mp ha
        omega
    have sb := Bx.b
    have sl := Bx.l
    have sh := Bx.h
    walk_at "cg"
    refine ⟨q, b, rfl, hb, bd, fun lu ns H1 hlu elu asc mem k2 => ?_⟩
    have e : ns = canon m b.vars := canon_eq asc mem rng
    subst e
    have Bx1 := Bx.kp k2
    have sb1 := Bx1.b
    have sl1 := Bx1.l
    have sh1 := Bx1.h
    generalize hU : canon m b.vars = U at *
    walk_at "cg"
    refine dc_by (walk_list (K := K) (a := lu) (xs := U.map V.int)) (fun d i H' => ∃ f : Int → Addr, H1 d = none ∧ H' d = some (.dK (ents (U.take i) fun v => .ref (f v))) ∧ (∀ v ∈ U.take i, H' (f v) = some (.lst ((boxD los his v).map V.int))) ∧ Kp [] H1 H') (fun d H2 hd e2 k2 => ⟨fun _ => d, hd, e2, fun v hv => (by simp at hv), k2⟩) (fun d i H' ⟨f, hd, e, a, kk⟩ => SqL.of (kk.get0 elu)) ?_ ?_
    · rintro d i x H' H'' hi ⟨f, hd, ed, hf, kk⟩ ⟨rfl, hx⟩
      rw [List.length_map] at hi
      obtain ⟨v, hv⟩ : ∃ v, U[i]? = some v := ⟨_, List.getElem?_eq_getElem hi⟩
      rw [List.getElem?_map, hv] at hx
      cases hx
      have hvk := List.mem_of_getElem? hv
      have r := wk v hvk
      have w1 := W.bd v r.1 r.2
      have a1 := atS r.1 (by rw [W.a]; exact r.2)
      have a2 := atS r.1 (by rw [W.b]; exact r.2)
      have hnv : ¬ v ∈ U.take i := fun hm => by
        obtain ⟨j, hj⟩ := List.getElem?_of_mem hm
        obtain ⟨hjl, ej⟩ := List.getElem?_eq_some_iff.mp hj
        rw [List.length_take] at hjl
        rw [List.getElem_take] at ej
        obtain ⟨hil, ei⟩ := List.getElem?_eq_some_iff.mp hv
        exact absurd (ej.trans ei.symm) (List.pairwise_iff_getElem.mp nd9 j i (by omega) hil (by omega))
      have sb3 := kk.tup sb1
      have sl3 := kk.tup sl1
      have sh3 := kk.tup sh1
      walk_at "cg"
      refine r_ixT sl3 a1 ?_
      walk_at "cg"
      refine r_ixT sh3 a2 ?_
      walk_at "cg"
      refine r_lstRg (by omega) (by omega) fun p4 H4 hp4 ep4 k4 => ?_
      refine r_pkE (k4.get0 ed) (by rw [List.length_take]; omega) fun H5 e5 k5 => ?_
      have npd : p4 ≠ d := ne_newR hp4 ed
      refine ⟨fun w => if w = v then p4 else f w, hd, ?_, fun w hw => ?_, Kp.trN k5 (Kp.tr0 k4 kk) hd⟩
      · rw [e5, if_neg hnv]
        have et : U.take (i + 1) = U.take i ++ [v] := by rw [List.take_add_one, hv]; rfl
        rw [et]
        congr 2
        congr 1
        funext w
        show (if w = v then V.ref p4 else V.ref (f w)) = V.ref (if w = v then p4 else f w)
        split <;> rfl
      · have et : U.take (i + 1) = U.take i ++ [v] := by rw [List.take_add_one, hv]; rfl
        rw [et, List.mem_append, List.mem_singleton] at hw
        by_cases e : w = v
        · subst e
          simp only [if_pos]
          exact k5.get1 npd ep4
        · simp only [if_neg e]
          have hw' := hw.resolve_right e
          have h1 := hf w hw'
          exact k5.get1 (fun z => by rw [z, ed] at h1; cases h1) (k4.get0 h1)
    rintro d H3 ⟨f, hd, ed, hf, kk⟩
    have et : U.take (U.map V.int).length = U := by rw [List.length_map, List.take_length]
    rw [et] at ed hf
    have D3 : DomAt H3 d U (boxD los his) := ⟨f, ed, hf⟩
    have K3 := Kp.tr0 kk k2
    have hb3 := K3.im hb
    clear hf ed kk k2 sb1 sl1 sh1 Bx1 elu asc mem sb sl sh hb
    walk_at "cg"
    refine ⟨q, d, b, m, boxD los his, rfl, hb3, fit, m60, hU ▸ D3, hU ▸ okD, fun H4 k4 => ?_⟩
    walk_at "cg"
    refine if_S (fun g => ?_) (fun g => ?_)
    · walk_at "cg"
      rename_i p5 H5 hp5 e5 k5
      exact k1 p5 [] [] H5 (by simp [g]) ((Kp.tr0 k4 K3).free0 hp5) e5 .nil (Kp.tr0 k5 (Kp.tr0 k4 K3))
    have D4 := D3.kp0 k4
    have hb4 := k4.im hb3
    have K4 := Kp.tr0 k4 K3
    clear k4 K3 D3 hb3
    walk_at "cg"
    refine ⟨q, d, b, m, boxD los his, rfl, trivial, hb4, fit, m60, hU ▸ D4, hU ▸ okD, by omega, fun lc refs gs H5 hlc elc C5 ch gsz k5 => ?_⟩
    rw [hU] at C5 ch
    have K5 := Kp.tr0 k5 K4
    have hb5 := k5.im hb4
    have cl := C5.len
    clear k5 K4 D4 hb4 hlc
    walk_at "cg"
    refine if_S (fun g2 => ?_) (fun g2 => ?_)
    · walk_at "cg"
      refine k0 H5 (fun h => ?_) K5
      rcases h with h | h
      · exact g h
      · obtain ⟨x, hx, hh⟩ := h.ex
        obtain ⟨g', hg', _⟩ := ch.cmp x hx hh
        have : gs = [] := List.length_eq_zero_iff.mp (by omega)
        rw [this] at hg'
        cases hg'
    have fl : ∀ x, H5 x = none → H x = none := fun x hx => K5.free0 hx
    walk_at "cg"
    rename_i dw H6 hdw edw k6
    have K6 := Kp.tr0 k6 K5
    have elc6 := k6.get0 elc
    have C6 := C5.kp0 k6
    have hb6 := k6.im hb5
    have fdw : H dw = none := fl dw hdw
    have nlw : lc ≠ dw := ne_newL hdw elc
    clear k6 K5 elc C5 hb5 fl
    walk_at "cg"
    refine ⟨q, b, rfl, hb6, bd, fun lu7 ns7 H7 hlu7 elu7 asc7 mem7 k7 => ?_⟩
    have e : U = ns7 := by rw [← hU]; exact (canon_eq asc7 mem7 rng).symm
    subst e
    have K7 := Kp.tr0 k7 K6
    have elc7 := k7.get0 elc6
    have C7 := C6.kp0 k7
    have edw7 := k7.get0 edw
    have nuw : lu7 ≠ dw := ne_newR hlu7 edw
    have held : ∀ v ∈ U, ∀ i, (∃ g ∈ gs, g v = i) ↔ ∃ g, Within U (boxD los his) g ∧ b.h g = true ∧ g v = i := fun v hv i => by
      constructor
      · rintro ⟨g, hg, e⟩
        have := ch.snd g hg
        exact ⟨g, this.1, this.2, e⟩
      · rintro ⟨g, h1, h2, e⟩
        obtain ⟨g', h3, h4⟩ := ch.cmp g h1 h2
        exact ⟨g', h3, by rw [h4 v hv]; exact e⟩
    clear k7 K6 elc6 C6 hb6 edw hlu7 asc7 mem7
    walk_at "cg"
    refine r_forLI U (fun i σ' H' => ∃ (refsw : List V) (es : List Lit) (x5 x6 x7 : Option V), σ' = [some (.ref p), some (.ref q), some (.ref d), some (.ref lc), some (.ref dw), x5, x6, x7] ∧ H' dw = some (.lst refsw) ∧ ImAll K H' refsw (es.map Lit.d) ∧ es.length ≤ 4 * i ∧ (es = [] ↔ ∀ v ∈ U.take i, (∃ g ∈ gs, g v = at_ his v) ∧ ∃ g ∈ gs, g v = at_ los v) ∧ Kp [dw] H7 H') ⟨[], [], _, _, _, rfl, edw7, .nil, by simp, by simp, Kp.base fun b hb => by rw [List.mem_singleton] at hb; rw [hb, edw7]; trivial⟩ (fun i σ' H' ⟨_, _, _, _, _, _, _, _, _, _, kk⟩ => kk.get1 nuw elu7) ?_ ?_
    · rintro i v σ' H8 hv ⟨refsw, es, x5, x6, x7, rfl, e8, A8, l8, n8, k8⟩
      have hvU := List.mem_of_getElem? hv
      have r := wk v hvU
      have w1 := W.bd v r.1 r.2
      have hi : i < U.length := (List.getElem?_eq_some_iff.mp hv).1
      have K8 : Kp [] H H8 := Kp.trN k8 K7 fdw
      have nod : ∀ b ∈ [dw], ∀ kvs, H7 b ≠ some (.dK kvs) := fun b hb kvs z => by
        rw [List.mem_singleton] at hb
        rw [hb, edw7] at z
        cases z
      have C8 := C7.kp k8 nod
      have elc8 := k8.get1 nlw elc7
      have sb8 := K8.tup Bx.b
      walk_at "cg"
      refine r_lcL refs (fun D3 i H' => H8 D3 = none ∧ Kp [] H8 H' ∧ H' D3 = some (.lst (((gs.take i).map fun g => g v).map V.int))) (fun D3 H3 hD3 e3 k3 => ⟨hD3, k3, e3⟩) (fun D3 i H' h => h.2.1.get0 elc8) ?_ ?_
      · rintro D3 j x H9 hx ⟨hD3, k9, e9⟩
        obtain ⟨g, pg, hg, rfl, cp⟩ := (C8.kp0 k9).get hx
        have hj : j < gs.length := (List.getElem?_eq_some_iff.mp hg).1
        obtain ⟨js, ej, mj, lj⟩ := cp.ex
        walk_at "cg"
        refine r_ixDK ej ((mj v).mpr hvU) ?_
        refine r_ap e9 (small1e4 (by simp; omega)) fun H10 e10 k10 => ⟨hD3, Kp.trN k10 k9 hD3, ?_⟩
        rw [e10, List.take_add_one, hg]
        simp
      rintro D3 H9 ⟨hD3, k9, e9⟩
      rw [cl, List.take_length] at e9
      have hne : (gs.map fun g => g v) ≠ [] := fun e => g2 (by rw [List.map_eq_nil_iff] at e; rw [cl, e]; rfl)
      have K9 : Kp [] H H9 := Kp.tr0 k9 K8
      have nDw : D3 ≠ dw := ne_newR hD3 e8
      have e98 := k9.get0 e8
      have A98 := k9.imAll A8
      have k97 : Kp [dw] H7 H9 := Kp.tr0 k9 k8
      have rl8 := mapLenP A8
      have hgs : 0 < (gs.map fun g => g v).length := List.length_pos_iff.mpr hne
      have bnd : ∀ g ∈ gs, at_ los v ≤ g v ∧ g v ≤ at_ his v := fun g hg => by
        have := rgI_mem.mp ((ch.snd g hg).1 v hvU)
        omega
      clear k9 K8 k8 e8 A8 C8 elc8 sb8 hD3
      walk_at "cg"
      refine ⟨D3, _, rfl, SqL.of e9, by omega, fun mx hm hle => ?_⟩
      walk_at "cg"
      rename_i p10 H10 hp10 s10 k10
      have K10 := Kp.tr0 k10 K9
      refine ⟨p, q1, q2, p10, m, los, his, ⟨v, .le, mx⟩, rfl, (Bx.kp K10).pp, W, s10, r.1, r.2, fun d11 refs11 H11 hd11 e11 A11 k11 => ?_⟩
      have K11 := Kp.tr0 k11 k10
      have e118 := K11.get0 e98
      have A118 := K11.imAll A98
      have e119 := K11.get0 e9
      have l11 := endsL_len (at_ los v) (at_ his v) ⟨v, .le, mx⟩
      have rl11 := mapLenP A11
      walk_at "cg"
      refine r_ext e118 e11 (by dsimp only at rl11; omega) fun H12 e12 k12 => ?_
      have k127 : Kp [dw] H7 H12 := Kp.tr1 k12 (Kp.tr0 K11 k97)
      have e129 := k12.get1 nDw e119
      have A12 : ImAll K H12 (refsw ++ refs11) ((es ++ endsL (at_ los v) (at_ his v) ⟨v, .le, mx⟩).map Lit.d) := by
        rw [List.map_append]
        exact imAll_ap (k12.imAll A118) (k12.imAll A11)
      have K12 : Kp [] H H12 := Kp.trN k127 K7 fdw
      clear k12 e11 A11 k11 e118 A118 e119 K11 K10 k10 e98 A98 k97 K9 e9 s10 hp10 hd11
      walk_at "cg"
      refine ⟨D3, _, rfl, SqL.of e129, by omega, fun mn hm2 hle2 => ?_⟩
      walk_at "cg"
      rename_i p13 H13 hp13 s13 k13
      have K13 := Kp.tr0 k13 K12
      refine ⟨p, q1, q2, p13, m, los, his, ⟨v, .ge, mn⟩, rfl, (Bx.kp K13).pp, W, s13, r.1, r.2, fun d14 refs14 H14 hd14 e14 A14 k14 => ?_⟩
      have K14 := Kp.tr0 k14 k13
      have e148 := K14.get0 e12
      have A148 := K14.imAll A12
      have l14 := endsL_len (at_ los v) (at_ his v) ⟨v, .ge, mn⟩
      have rl14 := mapLenP A14
      have rl12 := mapLenP A12
      rw [List.length_append, List.length_append] at rl12
      walk_at "cg"
      refine r_ext e148 e14 (by dsimp only at rl14; rw [List.length_append]; omega) fun H15 e15 k15 => ?_
      walk_at "cg"
      refine ⟨_, (es ++ endsL (at_ los v) (at_ his v) ⟨v, .le, mx⟩) ++ endsL (at_ los v) (at_ his v) ⟨v, .ge, mn⟩, _, _, _, rfl, e15, ?_, by rw [List.length_append, List.length_append]; omega, ?_, Kp.tr1 k15 (Kp.tr0 K14 k127)⟩
      · rw [List.map_append]
        exact imAll_ap (k15.imAll A148) (k15.imAll A14)
      have et : U.take (i + 1) = U.take i ++ [v] := by rw [List.take_add_one, hv]; rfl
      have x1 : endsL (at_ los v) (at_ his v) ⟨v, .le, mx⟩ = [] ↔ ∃ g ∈ gs, g v = at_ his v := by
        obtain ⟨g0, hg0, e0⟩ := List.mem_map.mp hm
        have b0 := bnd g0 hg0
        simp only [endsL]
        constructor
        · intro h
          split at h
          · cases h
          · exact ⟨g0, hg0, by omega⟩
        · rintro ⟨g1, hg1, e1⟩
          have := hle (g1 v) (List.mem_map.mpr ⟨g1, hg1, rfl⟩)
          rw [if_neg (by omega)]
      have x2 : endsL (at_ los v) (at_ his v) ⟨v, .ge, mn⟩ = [] ↔ ∃ g ∈ gs, g v = at_ los v := by
        obtain ⟨g0, hg0, e0⟩ := List.mem_map.mp hm2
        have b0 := bnd g0 hg0
        simp only [endsL]
        constructor
        · intro h
          split at h
          · cases h
          · exact ⟨g0, hg0, by omega⟩
        · rintro ⟨g1, hg1, e1⟩
          have := hle2 (g1 v) (List.mem_map.mpr ⟨g1, hg1, rfl⟩)
          rw [if_neg (by omega)]
      rw [List.append_eq_nil_iff, List.append_eq_nil_iff, n8, x1, x2, et]
      constructor
      · rintro ⟨⟨h1, h2⟩, h3⟩ u hu
        rcases List.mem_append.mp hu with h | h
        · exact h1 u h
        · rw [List.mem_singleton] at h
          rw [h]
          exact ⟨h2, h3⟩
      · intro h
        have hl := h v (List.mem_append_right _ List.mem_cons_self)
        exact ⟨⟨fun u hu => h u (List.mem_append_left _ hu), hl.1⟩, hl.2⟩
    · rintro σ' H8 ⟨refsw, es, x5, x6, x7, rfl, e8, A8, l8, n8, k8⟩
      rw [List.take_length] at n8
      walk_at "cg"
      refine k1 dw refsw es H8 ?_ fdw e8 A8 (Kp.trN k8 K7 fdw)
      rw [n8]
      constructor
      · intro h
        refine .inr ⟨?_, fun v hv => (held v hv _).mp (h v hv).2, fun v hv => (held v hv _).mp (h v hv).1⟩
        obtain ⟨g0, hg0⟩ := List.exists_mem_of_length_pos (l := gs) (by omega)
        have := ch.snd g0 hg0
        exact ⟨g0, this.1, this.2⟩
      · rintro (h | h)
        · exact absurd h g
        · exact fun v hv => ⟨(held v hv _).mpr (h.hi v hv), (held v hv _).mpr (h.lo v hv)⟩
theorem ok_body_ends {f : Addr} {fd : FuncData} (F : Fun K "body_ends" "body_ends" s_body_ends f fd) (B : Bi K mg) (D_is_supported : Is P w K mg base CX0 1 "is_supported" ["body"] (spIsSupp K)) (D_yielded : Is P w K mg base CX0 4 "yielded" ["box", "body"] (spYields K)) (D_support_ends : Is P w K mg base CX0 5 "support_ends" ["box", "body"] (spSuppE K)) (D_fact_ends : Is P w K mg base CX0 3 "fact_ends" ["box", "fact"] (spFactE K)) : FnOk P w K mg base CX0 6 f fd ["box", "body"] (spBodyE K) := by
  have nd := sc_body_ends.nd
  refine F.ok sc_body_ends ?len (fun cdv A outer s H vs Q E hr h => ?body)
  case len =>
    rintro vs H Q E ⟨p, q1, q2, q, m, los, his, b, rfl, _⟩
    rfl
  case body =>
    obtain ⟨p, q1, q2, q, m, los, his, b, rfl, Bx, W, b1, m60, hb, fit, k0, k1⟩ := h
    refine ⟨_, (pss_cons (ps_if (pt_val (pe_is D_is_supported (hr.mono (by decide)) rfl pass0 (pa_cons (pv 1) pa_nil)))
      (pss_one (ps_ret (pe_is D_support_ends (hr.mono (by decide)) rfl pass0 (pa_cons (pv 0) (pa_cons (pv 1) pa_nil)))))
      pss_nil)
      (pss_cons (ps_set (i := 2) nd rfl (Or.inl rfl) (pe_lst pa_nil))
      (pss_cons (ps_for PassesOwn.never rfl ((piLst K) (pe_is D_yielded (hr.mono (by decide)) rfl pass0 (pa_cons (pv 0) (pa_cons (pv 1) pa_nil)))) (pg_name (i := 3) nd rfl (Or.inl rfl))
      (pss_cons (ps_set (i := 4) nd rfl (Or.inl rfl) (pe_is D_fact_ends (hr.mono (by decide)) rfl pass0 (pa_cons (pv 0) (pa_cons (pv 3) pa_nil))))
      (pss_cons (ps_if (pt_cmpR cg_isN (pv 4) pe_non (nomark _))
      (pss_one (ps_ret pe_non))
      pss_nil)
      (pss_one (ps_expr (pe_bm PySem.F.plainAttrs_list PySem.F.slot_list_extend PySem.F.type_list_extend mt_extend (pv 2) (pa_cons (pv 4) pa_nil)))))))
      (pss_one (ps_ret (pv 2)))))), ?_⟩
    try dsimp only [L2.cxOf, L2.Cx.nox, L2.Cx.wish]
    rw [st_body_ends]
    walk_at "cg"
    refine ⟨q, b, rfl, hb, fun H1 k2 => ?_⟩
    cases hs : suppK b with
    | true =>
      have hc : CleanB m los his b ↔ (400 < costB m b (boxD los his) ∨ SuppC (canon m b.vars) los his b) := by
        unfold CleanB
        rw [if_pos hs]
      walk_at "cg"
      exact ⟨p, q1, q2, q, m, los, his, b, rfl, Bx.kp k2, W, b1, m60, k2.im hb, fit, fun H' h k => k0 H' (fun z => h (hc.mp z)) (Kp.tr0 k k2), fun d refs es H' h hd ed A k => k1 d refs es H' (h.trans hc.symm) (k2.free0 hd) ed A (Kp.tr0 k k2)⟩
    | false =>
      have hc : CleanB m los his b ↔ ∀ f ∈ yieldsOf los his b, factE los his f = some [] := by
        unfold CleanB
        rw [if_neg (by rw [hs]; decide)]
      have yl := yields_len (los := los) (his := his) fit
      have yw := yields_W (los := los) (his := his) fit
      have fr : ∀ x, H1 x = none → H x = none := fun x hx => k2.free0 hx
      walk_at "cg"
      rename_i dw H2 hdw edw k3
      have K2 := Kp.tr0 k3 k2
      have fdw := fr dw hdw
      clear k3 k2 fr hdw
      walk_at "cg"
      refine ⟨p, q1, q2, q, m, los, his, b, rfl, Bx.kp K2, W, K2.im hb, fit, hs, fun ly refsy H3 hly ely Ay k3 => ?_⟩
      have edw3 := k3.get0 edw
      have nlw : ly ≠ dw := ne_newR hly edw
      have K3 := Kp.tr0 k3 K2
      clear k3 K2 edw hly
      walk_at "cg"
      refine r_forLD [dw] ely (by simpa using nlw) Ay (fun i σ' H' => ∃ (refsw : List V) (es : List Lit) (x3 x4 : Option V), σ' = [some (.ref p), some (.ref q), some (.ref dw), x3, x4] ∧ H' dw = some (.lst refsw) ∧ ImAll K H' refsw (es.map Lit.d) ∧ es.length ≤ 120 * i ∧ (es = [] ↔ ∀ f ∈ (yieldsOf los his b).take i, factE los his f = some []) ∧ Kp [dw] H3 H') ⟨[], [], _, _, rfl, edw3, .nil, by simp, by simp, Kp.base fun b hb => by rw [List.mem_singleton] at hb; rw [hb, edw3]; trivial⟩ (fun i σ' H' ⟨_, _, _, _, _, _, _, _, _, h⟩ => h) ?_ ?_
      · rintro i f x σ' H4 hf hx k4 ⟨refsw, es, x3, x4, rfl, e4, A4, l4, n4, _⟩
        obtain ⟨pf, rfl, F⟩ := fact_at hx
        have hfm := List.mem_of_getElem? hf
        have hi : i < (yieldsOf los his b).length := (List.getElem?_eq_some_iff.mp hf).1
        have K4 := Kp.trN k4 K3 fdw
        have rl4 := mapLenP A4
        walk_at "cg"
        refine ⟨p, q1, q2, pf, m, los, his, f, rfl, Bx.kp K4, W, F, yw f hfm, fun H5 e5 k5 => ?_, fun d5 refs5 es5 H5 e5 hd5 ed5 A5 k5 => ?_⟩
        · walk_at "cg"
          refine k0 H5 (fun h => ?_) (Kp.tr0 k5 K4)
          have := hc.mp h f hfm
          rw [e5] at this
          cases this
        · have e54 := k5.get0 e4
          have A54 := k5.imAll A4
          have l5 := factE_len (yw f hfm) e5
          have rl5 := mapLenP A5
          walk_at "cg"
          refine r_ext e54 ed5 (by omega) fun H6 e6 k6 => ?_
          walk_at "cg"
          have et : (yieldsOf los his b).take (i + 1) = (yieldsOf los his b).take i ++ [f] := by rw [List.take_add_one, hf]; rfl
          refine ⟨_, es ++ es5, _, _, rfl, e6, by rw [List.map_append]; exact imAll_ap (k6.imAll A54) (k6.imAll A5), by rw [List.length_append]; omega, ?_, Kp.tr1 k6 (Kp.tr0 k5 k4)⟩
          rw [List.append_eq_nil_iff, n4, et]
          constructor
          · rintro ⟨h1, h2⟩ f' hf'
            rcases List.mem_append.mp hf' with h | h
            · exact h1 f' h
            · rw [List.mem_singleton] at h
              rw [h, e5, h2]
          · intro h
            have := h f (List.mem_append_right _ List.mem_cons_self)
            rw [e5] at this
            exact ⟨fun f' hf' => h f' (List.mem_append_left _ hf'), Option.some.inj this⟩
      · rintro σ' H4 k4 ⟨refsw, es, x3, x4, rfl, e4, A4, l4, n4, _⟩
        rw [List.take_length] at n4
        walk_at "cg"
        exact k1 dw refsw es H4 (n4.trans hc.symm) fdw e4 A4 (Kp.trN k4 K3 fdw)
theorem ok_body_consistent {f : Addr} {fd : FuncData} (F : Fun K "body_consistent" "body_consistent" s_body_consistent f fd) (B : Bi K mg) (D_body_ends : Is P w K mg base CX0 6 "body_ends" ["box", "body"] (spBodyE K)) : FnOk P w K mg base CX0 7 f fd ["box", "body"] (spBodyC K) := by
  have nd := sc_body_consistent.nd
  refine F.ok sc_body_consistent ?len (fun cdv A outer s H vs Q E hr h => ?body)
  case len =>
    rintro vs H Q E ⟨p, q1, q2, q, m, los, his, b, rfl, _⟩
    rfl
  case body =>
    obtain ⟨p, q1, q2, q, m, los, his, b, rfl, Bx, W, b1, m60, hb, fit, k⟩ := h
    refine ⟨_, (pss_cons (ps_set (i := 2) nd rfl (Or.inl rfl) (pe_is D_body_ends (hr.mono (by decide)) rfl pass0 (pa_cons (pv 0) (pa_cons (pv 1) pa_nil))))
      (pss_one (ps_ret (pe_and (pe_cmpR cg_notN (pv 2) pe_non (nomark _)) (pe_one (pe_cmpR op_eq (pe_callB (cgLen K) (by rfl) B.n_len PySem.boot_len (pa_cons (pv 2) pa_nil)) pe_int (nomark _))))))), ?_⟩
    try dsimp only [L2.cxOf, L2.Cx.nox, L2.Cx.wish]
    rw [st_body_consistent]
    walk_at "cg"
    refine ⟨p, q1, q2, q, m, los, his, b, rfl, Bx, W, b1, m60, hb, fit, fun H1 h k1 => ?_, fun d refs es H1 h hd ed A k1 => ?_⟩
    · walk_at "cg"
      exact k false H1 ⟨fun e => (by cases e), fun e => absurd e h⟩ k1
    · have hl := mapLenP A
      walk_at "cg"
      refine k _ H1 ?_ k1
      rw [decide_eq_true_eq, ← h, ← List.length_eq_zero_iff]
      omega

end
theorem ne_empty_x {los his : List Int} {x y : Int} (h : apC los his x y = true) (bx : at_ los x ≤ at_ his x) : factE los his (apF los x y) ≠ some [] := by
  unfold apC at h
  simp only [Bool.and_eq_true, Bool.or_eq_true, decide_eq_true_eq] at h
  obtain ⟨h1, h2, h3⟩ := h
  have two : ∀ u w : Int, (u = x ∧ w = y) ∨ (u = y ∧ w = x) → clauseE los his [⟨u, .ne, at_ los x⟩, ⟨w, .ne, at_ los x⟩] ≠ some [] := by
    rintro u w (⟨rfl, rfl⟩ | ⟨rfl, rfl⟩)
    · have px : possB (at_ los u) (at_ his u) ⟨u, .ne, at_ los u⟩ = false := by simp [possB, h2]
      by_cases py : possB (at_ los w) (at_ his w) ⟨w, .ne, at_ los u⟩ = true
      · unfold clauseE
        simp only [List.filter_cons, List.filter_nil, px, py, Bool.false_eq_true, if_false, if_true]
        simp only [endsL]
        rcases h3 with h3 | h3
        · rw [if_pos h3.symm]
          simp
        · rw [if_pos h3.symm]
          simp
      · unfold clauseE
        simp only [List.filter_cons, List.filter_nil, px, py, Bool.false_eq_true, if_false]
        simp
    · have px : possB (at_ los w) (at_ his w) ⟨w, .ne, at_ los w⟩ = false := by simp [possB, h2]
      by_cases py : possB (at_ los u) (at_ his u) ⟨u, .ne, at_ los w⟩ = true
      · unfold clauseE
        simp only [List.filter_cons, List.filter_nil, px, py, Bool.false_eq_true, if_false, if_true]
        simp only [endsL]
        rcases h3 with h3 | h3
        · rw [if_pos h3.symm]
          simp
        · rw [if_pos h3.symm]
          simp
      · unfold clauseE
        simp only [List.filter_cons, List.filter_nil, px, py, Bool.false_eq_true, if_false]
        simp
  refine two _ _ ?_
  by_cases g : y < x
  · rw [if_pos g, if_neg (by omega)]
    exact .inr ⟨rfl, rfl⟩
  · rw [if_neg g, if_pos (by omega)]
    exact .inl ⟨rfl, rfl⟩
theorem apart_clean {m : Nat} {los his us : List Int} (W : BxW m los his) (h : ∀ u ∈ us, 0 ≤ u ∧ u < m) : (∀ f ∈ apartY los his us, factE los his f = some []) ↔ ∀ x ∈ us, ∀ y ∈ us, apC los his x y = false := by
  constructor
  · intro a x hx y hy
    cases g : apC los his x y with
    | false => rfl
    | true =>
      have b := W.bd x (h x hx).1 (h x hx).2
      exact absurd (a (apF los x y) (List.mem_flatMap.mpr ⟨x, hx, List.mem_map.mpr ⟨y, List.mem_filter.mpr ⟨hy, g⟩, rfl⟩⟩)) (ne_empty_x g b.2.1)
  · intro a f hf
    obtain ⟨x, hx, hf⟩ := List.mem_flatMap.mp hf
    obtain ⟨y, hy, rfl⟩ := List.mem_map.mp hf
    have := (List.mem_filter.mp hy).2
    rw [a x hx y (List.mem_filter.mp hy).1] at this
    cases this
theorem boxD_bd {m : Nat} {los his : List Int} (W : BxW m los his) (b : bd1 m los his) (m1 : 1 ≤ m) (v a : Int) (h : a ∈ boxD los his v) : -1000 ≤ a ∧ a ≤ 1000 := by
  have h := rgI_mem.mp h
  by_cases g : v < m
  · by_cases g0 : 0 ≤ v
    · have := b v g0 g
      omega
    · have e1 : at_ los v = at_ los 0 := by unfold at_; rw [show v.toNat = (0 : Int).toNat by omega]
      have e2 : at_ his v = at_ his 0 := by unfold at_; rw [show v.toNat = (0 : Int).toNat by omega]
      have := b 0 (by omega) (by omega)
      omega
  · have e1 : at_ los v = 0 := by unfold at_; rw [List.getD_eq_getElem?_getD, List.getElem?_eq_none (by rw [W.a]; omega)]; rfl
    have e2 : at_ his v = 0 := by unfold at_; rw [List.getD_eq_getElem?_getD, List.getElem?_eq_none (by rw [W.b]; omega)]; rfl
    omega
/-- the points of the written unknowns at which the body holds -/
def supP (m : Nat) (los his : List Int) (b : Body) : List (List Int) := (chsL m b.vars (boxD los his) m).filter fun pt => b.h (at_ pt)
theorem Body.h_vars {b : Body} {g g' : Pt} (h : ∀ v ∈ b.vars, g v = g' v) : b.h g = b.h g' := Body.h_congr h
theorem supp_iff {m : Nat} {los his : List Int} {b : Body} (fit : b.fit m) : (supP m los his b ≠ [] ∧ ∀ v ∈ b.vars, (∃ pt ∈ supP m los his b, at_ pt v = at_ los v) ∧ ∃ pt ∈ supP m los his b, at_ pt v = at_ his v) ↔ SuppC (canon m b.vars) los his b := by
  have rng : ∀ v ∈ b.vars, 0 ≤ v ∧ v < m := Body.fit_vars fit
  have mc := mem_canon rng
  have snd : ∀ pt ∈ supP m los his b, Within (canon m b.vars) (boxD los his) (at_ pt) ∧ b.h (at_ pt) = true := fun pt hp => by
    obtain ⟨h1, h2⟩ := List.mem_filter.mp hp
    refine ⟨fun v hv => ?_, h2⟩
    have hv := (mc v).mp hv
    exact (chsL_snd m (Nat.le_refl _) pt h1).2 v (rng v hv).1 (rng v hv).2 hv
  have cmp : ∀ g, Within (canon m b.vars) (boxD los his) g → b.h g = true → ∃ pt ∈ supP m los his b, ∀ v ∈ b.vars, at_ pt v = g v := fun g w hh => by
    obtain ⟨pt, h1, _, h3⟩ := chsL_cmp (n := m) (ws := b.vars) (D := boxD los his) (g := g) (fun v hv _ _ => w v ((mc v).mpr hv)) m (Nat.le_refl _)
    have e : ∀ v ∈ b.vars, at_ pt v = g v := fun v hv => h3 v (rng v hv).1 (rng v hv).2 hv
    exact ⟨pt, List.mem_filter.mpr ⟨h1, by rw [Body.h_vars e]; exact hh⟩, e⟩
  constructor
  · rintro ⟨ne, h⟩
    obtain ⟨p0, hp0⟩ := List.exists_mem_of_ne_nil _ ne
    refine ⟨⟨_, snd p0 hp0⟩, fun v hv => ?_, fun v hv => ?_⟩
    · obtain ⟨pt, hp, e⟩ := (h v ((mc v).mp hv)).1
      exact ⟨_, (snd pt hp).1, (snd pt hp).2, e⟩
    · obtain ⟨pt, hp, e⟩ := (h v ((mc v).mp hv)).2
      exact ⟨_, (snd pt hp).1, (snd pt hp).2, e⟩
  · rintro ⟨⟨g, h1, h2⟩, lo, hi⟩
    refine ⟨fun e => ?_, fun v hv => ⟨?_, ?_⟩⟩
    · obtain ⟨pt, hp, _⟩ := cmp g h1 h2
      rw [e] at hp
      cases hp
    · obtain ⟨g, h1, h2, h3⟩ := lo v ((mc v).mpr hv)
      obtain ⟨pt, hp, e⟩ := cmp g h1 h2
      exact ⟨pt, hp, by rw [e v hv]; exact h3⟩
    · obtain ⟨g, h1, h2, h3⟩ := hi v ((mc v).mpr hv)
      obtain ⟨pt, hp, e⟩ := cmp g h1 h2
      exact ⟨pt, hp, by rw [e v hv]; exact h3⟩
def wd1 (m : Nat) (los his : List Int) : Prop := ∀ v : Int, 0 ≤ v → v < m → at_ his v - at_ los v ≤ 1000
def spStated67 (K : PySem.W.Frag) : Sp := fun vs H Q _ => ∃ (p : Addr) (ts : Tms) (r : Rel) (n : Int), vs = [.ref p] ∧ BodyAt K H p (.row ts r n) ∧ ts.length ≤ 60 ∧ r ≠ .ne ∧ ∀ (l : Addr) (refs : List V) (H' : Hp), H l = none → H' l = some (.lst refs) → ImAll K H' refs ((rowsOf ts r n).map Fact.d) → Kp [] H H' → Q (.ref l) H'
def spBadAll (K : PySem.W.Frag) : Sp := fun vs H Q _ => ∃ (p q1 q2 l : Addr) (m : Nat) (los his : List Int) (refs : List V) (fs : List Fact), vs = [.ref p, .ref l] ∧ BxL H p q1 q2 los his ∧ BxW m los his ∧ wd1 m los his ∧ H l = some (.lst refs) ∧ ImAll K H refs (fs.map Fact.d) ∧ fs.length ≤ 2 ∧ (∀ f ∈ fs, ∃ us c, f = .row us c ∧ tmW m us) ∧ ∀ x (c : Bool) H', (c = true ↔ ∀ f ∈ fs, factE los his f = some []) → Ro K H' x c → Kp [] H H' → Q x H'
def spBadWhen (K : PySem.W.Frag) : Sp := fun vs H Q _ => ∃ (p q1 q2 q : Addr) (m : Nat) (los his : List Int) (l : Lit) (ts : Tms) (r : Rel) (n : Int), vs = [.ref p, .ref q] ∧ BxL H p q1 q2 los his ∧ BxW m los his ∧ wd1 m los his ∧ BodyAt K H q (.when l ts r n) ∧ (Body.when l ts r n).fit m ∧ ∀ x (c : Bool) H', (c = true ↔ ∀ f ∈ whenY los his l ts r n, factE los his f = some []) → Ro K H' x c → Kp [] H H' → Q x H'
def spBadDiff (K : PySem.W.Frag) : Sp := fun vs H Q _ => ∃ (p q1 q2 q : Addr) (m : Nat) (los his us : List Int), vs = [.ref p, .ref q] ∧ BxL H p q1 q2 los his ∧ BxW m los his ∧ SqT K H q (us.map V.int) ∧ us.length ≤ 20 ∧ (∀ u ∈ us, 0 ≤ u ∧ u < m) ∧ ∀ x (c : Bool) H', (c = true ↔ ∀ x ∈ us, ∀ y ∈ us, apC los his x y = false) → Ro K H' x c → Kp [] H H' → Q x H'
def spSupports (K : PySem.W.Frag) : Sp := fun vs H Q _ => ∃ (p q1 q2 q : Addr) (m : Nat) (los his : List Int) (b : Body), vs = [.ref p, .ref q] ∧ BxL H p q1 q2 los his ∧ BxW m los his ∧ wd1 m los his ∧ bd1 m los his ∧ 1 ≤ m ∧ m ≤ 60 ∧ BodyAt K H q b ∧ b.fit m ∧ (∀ i, i ≤ m → (chsL m b.vars (boxD los his) i).length ≤ 2000) ∧ ∀ (d : Addr) (refs : List V) H', H' d = some (.lst refs) → Els H' refs (supP m los his b) → Kp [] H H' → Q (.ref d) H'
def spBadSupp (K : PySem.W.Frag) : Sp := fun vs H Q _ => ∃ (p q1 q2 q : Addr) (m : Nat) (los his : List Int) (b : Body), vs = [.ref p, .ref q] ∧ BxL H p q1 q2 los his ∧ BxW m los his ∧ wd1 m los his ∧ bd1 m los his ∧ 1 ≤ m ∧ m ≤ 60 ∧ BodyAt K H q b ∧ b.fit m ∧ suppK b = true ∧ (∀ i, i ≤ m → (chsL m b.vars (boxD los his) i).length ≤ 2000) ∧ ∀ x (c : Bool) H', (c = true ↔ (400 < costB m b (boxD los his) ∨ SuppC (canon m b.vars) los his b)) → Ro K H' x c → Kp [] H H' → Q x H'
def spBadBody (K : PySem.W.Frag) : Sp := fun vs H Q _ => ∃ (p q1 q2 q : Addr) (m : Nat) (los his : List Int) (b : Body), vs = [.ref p, .ref q] ∧ BxL H p q1 q2 los his ∧ BxW m los his ∧ wd1 m los his ∧ bd1 m los his ∧ 1 ≤ m ∧ m ≤ 60 ∧ BodyAt K H q b ∧ b.fit m ∧ (∀ i, i ≤ m → (chsL m b.vars (boxD los his) i).length ≤ 2000) ∧ ∀ x (c : Bool) H', (c = true ↔ CleanB m los his b) → Ro K H' x c → Kp [] H H' → Q x H'
theorem put_len (i : Nat) (xs : List Int) (L : List (List Int)) : (L.flatMap (putP i xs)).length = L.length * xs.length := by
  induction L with
  | nil => simp
  | cons z L ih => rw [List.flatMap_cons, List.length_append, List.length_cons, ih, Nat.succ_mul, Nat.add_comm]; unfold putP; rw [List.length_map]
theorem SqL.kpL {K : PySem.W.Frag} {H H' : Hp} {p : Addr} {xs : List V} (h : SqL K H p xs) (k : Kp [] H H') : SqL K H' p xs := by
  rcases h with (h | ⟨u, h⟩) | h
  · exact .inl (.inl (k.get0 h))
  · exact .inl (.inr ⟨u, k.get0 h⟩)
  · exact .inr h
mutual
theorem Dp.kpD {K : PySem.W.Frag} {H H' : Hp} (k : Kp [] H H') : ∀ {x : V} {d : PyData}, Dp K H x d → Dp K H' x d
  | _, _, .non => .non
  | _, _, .bl b => .bl b
  | _, _, .int i => .int i
  | _, _, .str z => .str z
  | _, _, .lst h a => .lst (SqL.kpL h k) (DpAll.kpD k a)
  | _, _, .tup h a => .tup (k.tup h) (DpAll.kpD k a)
theorem DpAll.kpD {K : PySem.W.Frag} {H H' : Hp} (k : Kp [] H H') : ∀ {xs : List V} {ds : List PyData}, DpAll K H xs ds → DpAll K H' xs ds
  | _, _, .nil => .nil
  | _, _, .cons h a => .cons (Dp.kpD k h) (DpAll.kpD k a)
end
theorem cost_times {m : Nat} {x y z : Int} {D : Dm} (hx : 0 ≤ x ∧ x < m) (hy : 0 ≤ y ∧ y < m) : costB m (.times x y z) D = if x = y then ((D x).length : Int) else ((D x).length : Int) * ((D y).length : Int) := by
  show prodL (canon m [x, y]) D = _
  have rng : ∀ v ∈ [x, y], 0 ≤ v ∧ v < (m : Int) := fun v hv => by
    simp only [List.mem_cons, List.not_mem_nil, or_false] at hv
    rcases hv with rfl | rfl
    · exact hx
    · exact hy
  by_cases e : x = y
  · subst e
    have : [x] = canon m [x, x] := canon_eq (by simp) (fun k => by simp) rng
    rw [← this, if_pos rfl]
    simp [prodL]
  · rw [if_neg e]
    by_cases l : x < y
    · have : [x, y] = canon m [x, y] := canon_eq (by simp [l]) (fun k => by simp) rng
      rw [← this]
      simp [prodL]
    · have l2 : y < x := by omega
      have : [y, x] = canon m [x, y] := canon_eq (by simp [l2]) (fun k => by simp [or_comm]) rng
      rw [← this]
      simp [prodL, Int.mul_comm]
structure LawOk (m : Nat) (los his : List Int) (b : Body) : Prop where
  W : BxW m los his
  wd : wd1 m los his
  bd : bd1 m los his
  m1 : 1 ≤ m
  m60 : m ≤ 60
  fit : b.fit m
  cnt : ∀ i, i ≤ m → (chsL m b.vars (boxD los his) i).length ≤ 2000
structure LargeOk (x : Int) (los his : List Int) : Prop where
  x : x = 0 ∨ x = 1
  ex : ∃ l0 l1 l2 h1 h2 : Int, los = [l0, l1, l2] ∧ his = [l0 + 19, h1, h2] ∧ -4 ≤ l0 ∧ l0 ≤ 0 ∧ -2 ≤ l1 ∧ l1 ≤ 0 ∧ l1 + 18 ≤ h1 ∧ h1 ≤ l1 + 20 ∧ -20 ≤ l2 ∧ l2 ≤ 0 ∧ l2 ≤ h2 ∧ h2 ≤ l2 + 3
theorem chsL_step {n : Nat} {ws : List Int} {D : Dm} {i c w : Nat} (h : (chsL n ws D i).length ≤ c) (hw : (D i).length ≤ w) (w1 : 1 ≤ w) : (chsL n ws D (i + 1)).length ≤ c * w := by
  unfold chsL
  split
  · rw [put_len]
    exact Nat.mul_le_mul h hw
  · exact Nat.le_trans h (Nat.le_mul_of_pos_right c w1)
theorem LargeOk.law {x : Int} {los his : List Int} (h : LargeOk x los his) : LawOk 3 los his (.times x 1 2) := by
  obtain ⟨hx, l0, l1, l2, h1, h2, rfl, rfl, b⟩ := h
  have v3 : ∀ v : Int, 0 ≤ v → v < 3 → v = 0 ∨ v = 1 ∨ v = 2 := fun v _ _ => by omega
  have a0 : at_ [l0, l1, l2] 0 = l0 := rfl
  have a1 : at_ [l0, l1, l2] 1 = l1 := rfl
  have a2 : at_ [l0, l1, l2] 2 = l2 := rfl
  have b0 : at_ [l0 + 19, h1, h2] 0 = l0 + 19 := rfl
  have b1 : at_ [l0 + 19, h1, h2] 1 = h1 := rfl
  have b2 : at_ [l0 + 19, h1, h2] 2 = h2 := rfl
  refine ⟨⟨rfl, rfl, fun v h0 h1' => ?_⟩, fun v h0 h1' => ?_, fun v h0 h1' => ?_, by decide, by decide, ?_, fun i hi => ?_⟩
  · rcases v3 v h0 h1' with rfl | rfl | rfl
    · rw [a0, b0]; omega
    · rw [a1, b1]; omega
    · rw [a2, b2]; omega
  · rcases v3 v h0 h1' with rfl | rfl | rfl
    · rw [a0, b0]; omega
    · rw [a1, b1]; omega
    · rw [a2, b2]; omega
  · rcases v3 v h0 h1' with rfl | rfl | rfl
    · rw [a0, b0]; omega
    · rw [a1, b1]; omega
    · rw [a2, b2]; omega
  · exact ⟨by omega, by decide, by decide⟩
  · have e0 : (chsL 3 (Body.times x 1 2).vars (boxD [l0, l1, l2] [l0 + 19, h1, h2]) 0).length ≤ 1 := Nat.le_refl _
    have e1 := chsL_step (w := 20) e0 (by show (rgI (at_ [l0, l1, l2] 0) (at_ [l0 + 19, h1, h2] 0 + 1)).length ≤ 20; rw [a0, b0, rgI_len]; omega) (by decide)
    have e2 := chsL_step (w := 21) e1 (by show (rgI (at_ [l0, l1, l2] 1) (at_ [l0 + 19, h1, h2] 1 + 1)).length ≤ 21; rw [a1, b1, rgI_len]; omega) (by decide)
    have e3 := chsL_step (w := 4) e2 (by show (rgI (at_ [l0, l1, l2] 2) (at_ [l0 + 19, h1, h2] 2 + 1)).length ≤ 4; rw [a2, b2, rgI_len]; omega) (by decide)
    have : i = 0 ∨ i = 1 ∨ i = 2 ∨ i = 3 := by omega
    rcases this with rfl | rfl | rfl | rfl
    · omega
    · exact Nat.le_trans e1 (by decide)
    · exact Nat.le_trans e2 (by decide)
    · exact Nat.le_trans e3 (by decide)
def spLarge (K : PySem.W.Frag) : Sp := fun vs H Q _ => ∃ (t c : Addr), vs = [.ref t] ∧ Tp t c H ∧ ∀ (d p pb q1 q2 : Addr) (los his : List Int) (x : Int) H', H' d = some (.lst [.ref p, .ref pb]) → BxL H' p q1 q2 los his → BodyAt K H' pb (.times x 1 2) → LargeOk x los his → Q (.ref d) H'

section
variable {P : Program} {w : World} {K : PySem.W.Frag} {mg : Str → Option Value} {base : Heap} {C_Model : Addr}
theorem ok_law_stated {f : Addr} {fd : FuncData} (F : Fun K "_law_stated" "_law_stated" s_law_stated f fd) (B : Bi K mg)  : FnOk P w K mg base CX0 1 f fd ["_law_body_here"] (spStated67 K) := by
  have nd := sc_law_stated.nd
  refine F.ok sc_law_stated ?len (fun cdv A outer s H vs Q E hr h => ?body)
  case len =>
    rintro vs H Q E ⟨p, ts, r, n, rfl, _⟩
    rfl
  case body =>
    obtain ⟨p, ts, r, n, rfl, hb, hl, hr9, k⟩ := h
    refine ⟨_, (pss_cons (ps_if (pt_cmpR op_eq (pe_ix (ixT K) (pv 0) pe_int (fun _ _ => rfl)) pe_str (nomark _))
      (pss_one (ps_ret (pe_lst (pa_cons (pv 0) pa_nil))))
      pss_nil)
      (pss_cons (ps_set (i := 1) nd rfl (Or.inl rfl) (pe_lst pa_nil))
      (pss_cons (ps_if (pt_cmpR op_ne (pe_ix (ixT K) (pv 0) pe_int (fun _ _ => rfl)) pe_str (nomark _))
      (pss_one (ps_expr (pe_bm PySem.F.plainAttrs_list PySem.F.slot_list_append PySem.F.type_list_append mt_append (pv 1) (pa_cons (pe_tup (pa_cons pe_str (pa_cons (pe_ix (ixT K) (pv 0) pe_int (fun _ _ => rfl)) (pa_cons (pe_ix (ixT K) (pv 0) pe_int (fun _ _ => rfl)) pa_nil)))) pa_nil))))
      pss_nil)
      (pss_cons (ps_if (pt_cmpR op_ne (pe_ix (ixT K) (pv 0) pe_int (fun _ _ => rfl)) pe_str (nomark _))
      (pss_one (ps_expr (pe_bm PySem.F.plainAttrs_list PySem.F.slot_list_append PySem.F.type_list_append mt_append (pv 1) (pa_cons (pe_tup (pa_cons pe_str (pa_cons (pe_callTy (cgTuple K) (by rfl) B.n_tuple (by decide +kernel) (pa_cons (by exact pe_lc (own := [("_law_v", 2), ("_law_c", 3)]) (g := (gTup K 2 (gCons (gName 2) (gCons (gName 3) gNil)))) (tt := tYes) rfl nd (pi_tup (pe_ix (ixT K) (pv 0) pe_int (fun _ _ => rfl))) (blkOk_by (N := ["_law_body_here", "_law_found", "_law_v", "_law_c"]) (sc := defScope s_law_stated) (by decide +kernel)) (fun _ _ _ _ _ => (pg_tup (n := 2) rfl (pgs_cons (pg_name (i := 2) nd rfl (Or.inl rfl)) (pgs_cons (pg_name (i := 3) nd rfl (Or.inl rfl)) pgs_nil)))) (fun _ _ _ _ _ => pts_nil) (fun _ _ _ _ _ => (pe_tup (pa_cons (pv 2) (pa_cons (pe_op op_sub pe_int (pv 3)) pa_nil))))) pa_nil)) (pa_cons (pe_op op_sub pe_int (pe_ix (ixT K) (pv 0) pe_int (fun _ _ => rfl))) pa_nil)))) pa_nil))))
      pss_nil)
      (pss_one (ps_ret (pv 1))))))), ?_⟩
    try dsimp only [L2.cxOf, L2.Cx.nox, L2.Cx.wish]
    rw [st_law_stated]
    obtain ⟨qt, s0, hI⟩ := b_row hb
    obtain ⟨xs, h1, h2⟩ := hI.open
    have z9 : (0 : Int) - n = -n := by omega
    cases r with
    | ne => exact absurd rfl hr9
    | le =>
      walk_at "cg"
      rename_i l1 H1 hl1 el1 k1 p7 H7 hp7 s7 k7 H8 e8 k8
      have K8 : Kp [] H H8 := Kp.trN k8 (Kp.tr0 k7 k1) hl1
      exact k l1 _ H8 hl1 e8 (.cons (k8.im (row_mk s7 ((Kp.tr0 k7 k1).im hI))) .nil) K8
    | ge =>
      walk_at "cg"
      rename_i l1 H1 hl1 el1 k1
      refine lcT_m (xs := xs) (as := ts) (d := tD) (k1.tup h1) (k1.imAll h2) (fun z => tD (z.1, -z.2)) (by omega) (fun i z x H' R R' hz k2 hx q => ?_) (fun D H' acc hD eD hA k2 => ?_)
      · obtain ⟨px, rfl, hs⟩ := term_at hx
        have z8 : (0 : Int) - z.2 = -z.2 := by omega
        walk_at "cg"
        rename_i p3 H3 hp3 s3 k3
        rw [z8] at s3
        exact q _ _ (.tup s3 (.cons (.int _) (.cons (.int _) .nil))) k3
      · have hN : ImAll K H' acc ((negT ts).map tD) := by
          rw [negT, List.map_map]
          exact hA
        have el2 := k2.get0 el1
        have K2 := Kp.tr0 k2 k1
        have s02 := K2.tup s0
        clear k1 k2 el1
        walk_at "cg"
        rename_i p4 H4 hp4 s4 k4 p5 H5 hp5 s5 k5 H6 e6 k6
        rw [z9] at s5
        have N5 : Im K H5 (.ref p4) (tmD (negT ts)) := .tup (k5.tup s4) (k5.imAll (k4.imAll hN))
        have K6 : Kp [] H H6 := Kp.trN k6 (Kp.tr0 k5 (Kp.tr0 k4 K2)) hl1
        exact k l1 _ H6 hl1 e6 (.cons (k6.im (row_mk s5 N5)) .nil) K6
    | eq =>
      walk_at "cg"
      rename_i l1 H1 hl1 el1 k1 p7 H7 hp7 s7 k7 H8 e8 k8
      have K8 : Kp [] H H8 := Kp.trN k8 (Kp.tr0 k7 k1) hl1
      have F8 : Im K H8 (.ref p7) (Fact.d (.row ts n)) := row_mk (k8.tup s7) (K8.im hI)
      have s08 := K8.tup s0
      have h18 := K8.tup h1
      have h28 := K8.imAll h2
      clear k1 k7 k8 el1 s7 hp7
      refine lcT_m (xs := xs) (as := ts) (d := tD) h18 h28 (fun z => tD (z.1, -z.2)) (by omega) (fun i z x H' R R' hz k2 hx q => ?_) (fun D H' acc hD eD hA k2 => ?_)
      · obtain ⟨px, rfl, hs⟩ := term_at hx
        have z8 : (0 : Int) - z.2 = -z.2 := by omega
        walk_at "cg"
        rename_i p3 H3 hp3 s3 k3
        rw [z8] at s3
        exact q _ _ (.tup s3 (.cons (.int _) (.cons (.int _) .nil))) k3
      · have hN : ImAll K H' acc ((negT ts).map tD) := by
          rw [negT, List.map_map]
          exact hA
        have e82 := k2.get0 e8
        have K2 := Kp.tr0 k2 K8
        have s02 := k2.tup s08
        have F2 := k2.im F8
        clear k2 e8 K8 s08 F8
        walk_at "cg"
        rename_i p4 H4 hp4 s4 k4 p5 H5 hp5 s5 k5 H6 e6 k6
        rw [z9] at s5
        have N5 : Im K H5 (.ref p4) (tmD (negT ts)) := .tup (k5.tup s4) (k5.imAll (k4.imAll hN))
        have K6 : Kp [] H H6 := Kp.trN k6 (Kp.tr0 k5 (Kp.tr0 k4 K2)) hl1
        exact k l1 _ H6 hl1 e6 (.cons (k6.im (k5.im (k4.im F2))) (.cons (k6.im (row_mk s5 N5)) .nil)) K6
theorem ok_law_bad_all {f : Addr} {fd : FuncData} (F : Fun K "_law_bad_all" "_law_bad_all" s_law_bad_all f fd) (B : Bi K mg) (D_law_bad_row : Is P w K mg base CX0 3 "_law_bad_row" ["_law_box_here", "_law_row"] (spBadRow K)) : FnOk P w K mg base CX0 4 f fd ["_law_box_here", "_law_rows"] (spBadAll K) := by
  have nd := sc_law_bad_all.nd
  refine F.ok sc_law_bad_all ?len (fun cdv A outer s H vs Q E hr h => ?body)
  case len =>
    rintro vs H Q E ⟨p, q1, q2, l, m, los, his, refs, fs, rfl, _⟩
    rfl
  case body =>
    obtain ⟨p, q1, q2, l, m, los, his, refs, fs, rfl, Bx, W, wd, hl, A, f2, hrow, k⟩ := h
    refine ⟨_, (pss_cons (ps_set (i := 2) nd rfl (Or.inl rfl) (pe_lst pa_nil))
      (pss_cons (ps_for PassesOwn.never rfl ((piLst K) (pv 1)) (pg_name (i := 3) nd rfl (Or.inl rfl))
      (pss_cons (ps_set (i := 4) nd rfl (Or.inl rfl) (pe_is D_law_bad_row (hr.mono (by decide)) rfl pass0 (pa_cons (pv 0) (pa_cons (pv 3) pa_nil))))
      (pss_cons (ps_if (pt_cmpR cg_isN (pv 4) pe_non (nomark _))
      (pss_one (ps_ret pe_non))
      pss_nil)
      (pss_one (ps_set (i := 2) nd rfl (Or.inl rfl) (pe_op (op_catL K) (pv 2) (pv 4)))))))
      (pss_one (ps_ret (pv 2))))), ?_⟩
    try dsimp only [L2.cxOf, L2.Cx.nox, L2.Cx.wish]
    rw [st_law_bad_all]
    walk_at "cg"
    rename_i d0 H1 hd0 ed0 k1
    have hl1 := k1.get0 hl
    have A1 := k1.imAll A
    refine r_forLD [] hl1 (by simp) A1 (fun i σ' H' => ∃ (df : Addr) (rf : List V) (ds : List PyData) (x4 x5 : Option V), σ' = [some (.ref p), some (.ref l), some (.ref df), x4, x5] ∧ H' df = some (.lst rf) ∧ ImAll K H' rf ds ∧ (∀ d ∈ ds, Shp 1 d) ∧ (ds = [] ↔ ∀ f ∈ fs.take i, factE los his f = some []) ∧ rf.length ≤ 60 * i ∧ Kp [] H1 H') ⟨d0, [], [], _, _, rfl, ed0, .nil, (fun d hd => by cases hd), by simp, by simp, .refl⟩ (fun i σ' H' ⟨_, _, _, _, _, _, _, _, _, _, _, h⟩ => h) ?_ ?_
    · rintro i f x σ' H2 hf hx k2 ⟨df, rf, ds, x4, x5, rfl, e2, A2, sh2, n2, l2, _⟩
      obtain ⟨px, rfl, F⟩ := fact_at hx
      have hfm := List.mem_of_getElem? hf
      obtain ⟨us, c, rfl, tw⟩ := hrow f hfm
      have hi : i < fs.length := (List.getElem?_eq_some_iff.mp hf).1
      have K2 := Kp.tr0 k2 k1
      walk_at "cg"
      refine ⟨p, q1, q2, px, m, los, his, us, c, rfl, Bx.kp0 K2, W, wd, F, tw, fun x2 H3 ro few k3 => ?_⟩
      have K3 := Kp.tr0 k3 K2
      rcases ro with ⟨rfl, hb⟩ | ⟨d3, refs3, ds3, rfl, e3, A3, sh3, n3⟩
      · walk_at "cg"
        refine k .non false H3 ⟨fun e => (by cases e), fun h => ?_⟩ (.inl ⟨rfl, rfl⟩) K3
        have h1 : rowE los his us c = some [] := h _ hfm
        rw [decide_eq_true h1] at hb
        cases hb
      · have l3 := few d3 refs3 rfl e3
        have e23 := k3.get0 e2
        have A23 := k3.imAll A2
        walk_at "cg"
        refine r_cat e23 e3 (by omega) fun d4 H4 hd4 e4 k4 => ?_
        walk_at "cg"
        refine ⟨d4, _, ds ++ ds3, _, _, rfl, e4, imAll_ap (k4.imAll A23) (k4.imAll A3), fun d hd => ?_, ?_, by rw [List.length_append]; omega, Kp.tr0 k4 (Kp.tr0 k3 k2)⟩
        · rcases List.mem_append.mp hd with h | h
          · exact sh2 d h
          · exact sh3 d h
        · have et : fs.take (i + 1) = fs.take i ++ [.row us c] := by rw [List.take_add_one, hf]; rfl
          rw [List.append_eq_nil_iff, n2, n3, decide_eq_true_eq, et]
          constructor
          · rintro ⟨h1, h2⟩ f' hf'
            rcases List.mem_append.mp hf' with h | h
            · exact h1 f' h
            · rw [List.mem_singleton] at h
              rw [h]
              exact h2
          · intro h
            exact ⟨fun f' hf' => h f' (List.mem_append_left _ hf'), h _ (List.mem_append_right _ List.mem_cons_self)⟩
    · rintro σ' H2 k2 ⟨df, rf, ds, x4, x5, rfl, e2, A2, sh2, n2, l2, _⟩
      rw [List.take_length] at n2
      walk_at "cg"
      cases ds with
      | nil => exact k _ true H2 ⟨fun _ => n2.mp rfl, fun _ => rfl⟩ (.of e2 A2 sh2 (by simp)) (Kp.tr0 k2 k1)
      | cons z zs => exact k _ false H2 ⟨fun e => (by cases e), fun h => (by cases n2.mpr h)⟩ (.of e2 A2 sh2 (by simp)) (Kp.tr0 k2 k1)

end
section
variable {P : Program} {w : World} {K : PySem.W.Frag} {mg : Str → Option Value} {base : Heap} {C_Model : Addr}
theorem ok_law_bad_when {f : Addr} {fd : FuncData} (F : Fun K "_law_bad_when" "_law_bad_when" s_law_bad_when f fd) (B : Bi K mg) (D_law_stated : Is P w K mg base CX0 1 "_law_stated" ["_law_body_here"] (spStated67 K)) (D_law_bad_all : Is P w K mg base CX0 4 "_law_bad_all" ["_law_box_here", "_law_rows"] (spBadAll K)) (D_law_rel : Is P w K mg base CX0 1 "_law_rel" ["_law_relation", "_law_left", "_law_right"] spRel) (D_law_least : Is P w K mg base CX0 2 "_law_least" ["_law_box_here", "_law_terms_here"] (spLLeast66 K)) (D_law_bad_keep : Is P w K mg base CX0 1 "_law_bad_keep" ["_law_box_here", "_law_literal_here"] (spBadKeep K)) (D_law_values : Is P w K mg base CX0 1 "_law_values" ["_law_box_here", "_law_v"] (spValues K)) (D_law_negation : Is P w K mg base CX0 1 "_law_negation" ["_law_fact"] (spNegF K)) : FnOk P w K mg base CX0 5 f fd ["_law_box_here", "_law_body_here"] (spBadWhen K) := by
  have nd := sc_law_bad_when.nd
  refine F.ok sc_law_bad_when ?len (fun cdv A outer s H vs Q E hr h => ?body)
  case len =>
    rintro vs H Q E ⟨p, q1, q2, q, m, los, his, l, ts, r, n, rfl, _⟩
    rfl
  case body =>
    obtain ⟨p, q1, q2, q, m, los, his, l, ts, r, n, rfl, Bx, W, wd, hb, fit, k⟩ := h
    refine ⟨_, (pss_cons (ps_set (i := 2) nd rfl (Or.inr rfl) (pe_ix (ixT K) (pv 1) pe_int (fun _ _ => rfl)))
      (pss_cons (ps_set (i := 3) nd rfl (Or.inl rfl) (pe_is D_law_stated (hr.mono (by decide)) rfl pass0 (pa_cons (pe_tup (pa_cons pe_str (pa_cons (pe_ix (ixT K) (pv 1) pe_int (fun _ _ => rfl)) (pa_cons (pe_ix (ixT K) (pv 1) pe_int (fun _ _ => rfl)) (pa_cons (pe_ix (ixT K) (pv 1) pe_int (fun _ _ => rfl)) pa_nil))))) pa_nil)))
      (pss_cons (ps_if (pt_cmpR (notInS K) pe_bl (by exact pe_lc (own := [("_law_a", 5)]) (g := (gName 5)) (tt := tYes) rfl nd ((piLst K) (pe_is D_law_values (hr.mono (by decide)) rfl pass0 (pa_cons (pv 0) (pa_cons (pe_ix (ixT K) (pv 2) pe_int (fun _ _ => rfl)) pa_nil)))) (blkOk_by (N := ["_law_box_here", "_law_body_here", "_law_literal_here", "_law_rows", "_law_row", "_law_a"]) (sc := defScope s_law_bad_when) (by decide +kernel)) (fun _ _ _ _ _ => (pg_name (i := 5) nd rfl (Or.inl rfl))) (fun _ _ _ _ _ => pts_nil) (fun _ _ _ _ _ => (pe_is D_law_rel (hr.mono (by decide)) rfl pass0 (pa_cons (pe_ix (ixT K) (pv 2) pe_int (fun _ _ => rfl)) (pa_cons (pv 5) (pa_cons (pe_ix (ixT K) (pv 2) pe_int (fun _ _ => rfl)) pa_nil)))))) rfl)
      (pss_one (ps_ret (pe_is D_law_bad_all (hr.mono (by decide)) rfl pass0 (pa_cons (pv 0) (pa_cons (pv 3) pa_nil)))))
      pss_nil)
      (pss_cons (ps_for PassesOwn.never rfl ((piLst K) (pv 3)) (pg_name (i := 4) nd rfl (Or.inl rfl))
      (pss_one (ps_if (pt_cmpR op_gt (pe_is D_law_least (hr.mono (by decide)) rfl pass0 (pa_cons (pv 0) (pa_cons (pe_ix (ixT K) (pv 4) pe_int (fun _ _ => rfl)) pa_nil))) (pe_ix (ixT K) (pv 4) pe_int (fun _ _ => rfl)) (nomark _))
      (pss_one (ps_ret (pe_is D_law_bad_keep (hr.mono (by decide)) rfl pass0 (pa_cons (pv 0) (pa_cons (pe_ix (ixT K) (pe_ix (ixT K) (pe_is D_law_negation (hr.mono (by decide)) rfl pass0 (pa_cons (pe_tup (pa_cons pe_str (pa_cons (pe_tup (pa_cons (pv 2) pa_nil)) pa_nil))) pa_nil)) pe_int (fun _ _ => rfl)) pe_int (fun _ _ => rfl)) pa_nil)))))
      pss_nil)))
      (pss_one (ps_ret (pe_lst pa_nil))))))), ?_⟩
    try dsimp only [L2.cxOf, L2.Cx.nox, L2.Cx.wish]
    rw [st_law_bad_when]
    obtain ⟨ql, qt, s0, L, it⟩ := b_when hb
    have tw : tmW m ts := fit.2.1.tmW
    have v0 := fit.1.1
    have v1 := fit.1.2.1
    have bd := W.bd l.v v0 v1
    have wv := wd l.v v0 v1
    walk_at "cg"
    rename_i p1 H1 hp1 s1 k1
    have B1 : BodyAt K H1 p1 (.row ts r n) := .tup s1 (.cons (.str _) (.cons (k1.im it) (.cons (.str _) (.cons (.int _) .nil))))
    refine ⟨p1, ts, r, n, rfl, B1, tw.1, fit.2.2.1, fun lr rr H2 hlr elr Ar k2 => ?_⟩
    have K2 := Kp.tr0 k2 k1
    have L2 := K2.tup L
    have s02 := K2.tup s0
    clear k1 k2 s1 hp1 B1
    walk_at "cg"
    refine ⟨p, q1, q2, m, los, his, l.v, rfl, Bx.kp0 K2, W, v0, v1, fun l3 H3 hl3 e3 k3 => ?_⟩
    have rl : (rgI (at_ los l.v) (at_ his l.v + 1)).length ≤ 1001 := by rw [rgI_len]; omega
    have L3 := k3.tup L2
    walk_at "cg"
    refine lcL_b (K := K) (xs := (rgI (at_ los l.v) (at_ his l.v + 1)).map V.int) (as := rgI (at_ los l.v) (at_ his l.v + 1)) (d := PyData.int) e3 (imInts _) (fun x => l.r.h x l.a) (by omega) (fun j x y H5 R R' ha k5 hxa q5 => ?_) (fun D0 H4 hD eD k4 => ?_)
    · cases hxa
      have L5 := k5.tup L3
      walk_at "cg"
      exact q5 _ .refl
    have K4 := Kp.tr0 k4 (Kp.tr0 k3 K2)
    have elr4 := k4.get0 (k3.get0 elr)
    have Ar4 := k4.imAll (k3.imAll Ar)
    have s04 := K4.tup s0
    have hw : whenY los his l ts r n = if possB (at_ los l.v) (at_ his l.v) (nl l) = true then (if (rowsOf ts r n).any (exceeds los his) = true then [.any [nl l]] else []) else rowsOf ts r n := rfl
    have hwW : ∀ f ∈ rowsOf ts r n, ∃ us c, f = .row us c ∧ tmW m us := fun f hf => by
      obtain ⟨us, c, rfl⟩ := rowsOf_row hf
      exact ⟨us, c, rfl, rowsOf_W tw _ hf⟩
    clear k3 k4 K2 elr Ar L2 L3 e3 hl3 s02 hlr
    walk_at "cg"
    refine r_inL eD rfl (flat_bls _) (inV_false _) ?_
    rw [sure_all bd.2.1 l.v l.r l.a]
    cases hs : possB (at_ los l.v) (at_ his l.v) (nl l) with
    | false =>
      rw [hs] at hw
      have hs' : possB (at_ los l.v) (at_ his l.v) ⟨l.v, l.r.neg, l.r.nnum l.a⟩ = false := hs
      rw [hs']
      walk_at "cg"
      refine ⟨p, q1, q2, lr, m, los, his, rr, rowsOf ts r n, rfl, Bx.kp0 K4, W, wd, elr4, Ar4, rowsOf_len ts r n, hwW, fun x c H5 hc ro k5 => k x c H5 (by rw [hw]; exact hc) ro (Kp.tr0 k5 K4)⟩
    | true =>
      rw [hs] at hw
      have hs' : possB (at_ los l.v) (at_ his l.v) ⟨l.v, l.r.neg, l.r.nnum l.a⟩ = true := hs
      rw [hs']
      walk_at "cg"
      refine r_forLD [] elr4 (by simp) Ar4 (fun i σ' H' => ∃ x5 : Option V, σ' = [some (.ref p), some (.ref q), some (.ref ql), some (.ref lr), x5, none] ∧ ((rowsOf ts r n).take i).any (exceeds los his) = false ∧ Kp [] H4 H') ⟨_, rfl, rfl, .refl⟩ (fun i σ' H' ⟨_, _, _, h⟩ => h) ?_ ?_
      · rintro i f x σ' H5 hf hx k5 ⟨x5, rfl, ea, _⟩
        obtain ⟨px, rfl, F⟩ := fact_at hx
        have hm := List.mem_of_getElem? hf
        obtain ⟨us, c, rfl, uw⟩ := hwW f hm
        obtain ⟨qu, su, iu⟩ := row_open F
        have K5 := Kp.tr0 k5 K4
        walk_at "cg"
        refine ⟨p, q1, q2, qu, m, los, his, us, rfl, Bx.kp0 K5, W, wd, iu, uw, fun H6 k6 => ?_⟩
        have s6 := k6.tup su
        have K6 := Kp.tr0 k6 K5
        have L6 := K6.tup L
        walk_at "cg"
        refine if_S (fun g => ?_) (fun g => ?_)
        · have e1 : (rowsOf ts r n).any (exceeds los his) = true := List.any_eq_true.mpr ⟨_, hm, decide_eq_true g⟩
          rw [e1] at hw
          walk_at "cg"
          rename_i p7 H7 hp7 s7 k7 p8 H8 hp8 s8 k8
          have F8 : FactAt K H8 p8 (.any [l]) := any_mk s8 (.tup (k8.tup s7) (.cons ((Kp.tr0 k8 k7).im (litI L6)) .nil))
          have K8 := Kp.tr0 k8 (Kp.tr0 k7 K6)
          refine ⟨p8, .any [l], rfl, F8, (fun _ _ e => by cases e), fun x H9 fo k9 => ?_⟩
          have K9 := Kp.tr0 k9 K8
          cases fo with
          | some F9 =>
          obtain ⟨q9, s9, i9⟩ := any_open F9
          obtain ⟨xs, s10, i10⟩ := Im.open i9
          cases i10 with
          | cons hz hn =>
          cases hn
          obtain ⟨pz, rfl, Lz⟩ := lit_at hz
          walk_at "cg"
          refine ⟨p, q1, q2, pz, m, los, his, nl l, rfl, Bx.kp0 K9, W, Lz, v0, v1, fun d refs ds H10 e10 A10 sh10 n10 k10 => ?_⟩
          have cl : factE los his (.any [nl l]) = some [] ↔ ds = [] := by
            have px : possB (at_ los (nl l).v) (at_ his (nl l).v) (nl l) = true := hs
            show clauseE los his [nl l] = some [] ↔ _
            unfold clauseE
            simp only [List.filter_cons, List.filter_nil, px, if_true]
            rw [Option.some.injEq, n10]
          cases ds with
          | nil => exact k _ true H10 ⟨fun _ f hf => (by rw [hw] at hf; simp only [if_true, List.mem_singleton] at hf; rw [hf]; exact cl.mpr rfl), fun _ => rfl⟩ (.of e10 A10 sh10 (by simp)) (Kp.tr0 k10 K9)
          | cons z zs => exact k _ false H10 ⟨fun e => (by cases e), fun h => (by cases cl.mp (h _ (by rw [hw]; simp)))⟩ (.of e10 A10 sh10 (by simp)) (Kp.tr0 k10 K9)
        · walk_at "cg"
          refine ⟨_, rfl, ?_, Kp.tr0 k6 k5⟩
          rw [List.take_add_one, hf, List.any_append, ea]
          show (false || ([Fact.row us c].any (exceeds los his))) = false
          simp only [List.any_cons, List.any_nil, Bool.or_false, Bool.false_or, exceeds, decide_eq_false_iff_not]
          exact g
      · rintro σ' H5 k5 ⟨x5, rfl, ea, _⟩
        rw [List.take_length] at ea
        rw [ea] at hw
        walk_at "cg"
        rename_i p6 H6 hp6 e6 k6
        exact k _ true H6 ⟨fun _ f hf => (by rw [hw] at hf; cases hf), fun _ => rfl⟩ (.of e6 .nil (fun d hd => by cases hd) (by simp)) (Kp.tr0 k6 (Kp.tr0 k5 K4))
theorem ok_law_bad_different {f : Addr} {fd : FuncData} (F : Fun K "_law_bad_different" "_law_bad_different" s_law_bad_different f fd) (B : Bi K mg)  : FnOk P w K mg base CX0 1 f fd ["_law_box_here", "_law_numbers"] (spBadDiff K) := by
  have nd := sc_law_bad_different.nd
  refine F.ok sc_law_bad_different ?len (fun cdv A outer s H vs Q E hr h => ?body)
  case len =>
    rintro vs H Q E ⟨p, q1, q2, q, m, los, his, us, rfl, _⟩
    rfl
  case body =>
    obtain ⟨p, q1, q2, q, m, los, his, us, rfl, Bx, W, hu, u20, rng, k⟩ := h
    refine ⟨_, (pss_cons (ps_set (i := 2) nd rfl (Or.inl rfl) (pe_lst pa_nil))
      (pss_cons (ps_for PassesOwn.never rfl (pi_tup (pv 1)) (pg_name (i := 3) nd rfl (Or.inl rfl))
      (pss_one (ps_if (pt_cmpR op_eq (pe_ix (ixL K) (pe_ix (ixL K) (pv 0) pe_int (fun _ _ => rfl)) (pv 3) (fun _ _ => rfl)) (pe_ix (ixL K) (pe_ix (ixL K) (pv 0) pe_int (fun _ _ => rfl)) (pv 3) (fun _ _ => rfl)) (nomark _))
      (pss_one (ps_for PassesOwn.never rfl (pi_tup (pv 1)) (pg_name (i := 4) nd rfl (Or.inl rfl))
      (pss_one (ps_for PassesOwn.never rfl ((piLst K) (pe_lst (pa_cons pe_int (pa_cons pe_int pa_nil)))) (pg_name (i := 5) nd rfl (Or.inl rfl))
      (pss_one (ps_if (PW.pt (pw_and (pt_cmpR op_ne (pv 4) (pv 3) (nomark _)) (pw_and1 (pt_cmpR op_eq (pe_ix (ixL K) (pe_ix (ixL K) (pv 0) (pv 5) (fun _ _ => rfl)) (pv 4) (fun _ _ => rfl)) (pe_ix (ixL K) (pe_ix (ixL K) (pv 0) pe_int (fun _ _ => rfl)) (pv 3) (fun _ _ => rfl)) (nomark _)))))
      (pss_one (ps_expr (pe_bm PySem.F.plainAttrs_list PySem.F.slot_list_append PySem.F.type_list_append mt_append (pv 2) (pa_cons (pe_tup (pa_cons (pv 4) (pa_cons (pv 5) pa_nil))) pa_nil))))
      pss_nil))))))
      pss_nil)))
      (pss_one (ps_ret (pv 2))))), ?_⟩
    try dsimp only [L2.cxOf, L2.Cx.nox, L2.Cx.wish]
    rw [st_law_bad_different]
    walk_at "cg"
    rename_i d H1 hd ed k1
    have bs : Kp [d] H1 H1 := Kp.base fun b hb => by rw [List.mem_singleton] at hb; rw [hb, ed]; trivial
    have end_ : ∀ (i j : Nat), 2 * j ≤ 40 → 40 * i + 2 * j ≤ 840 → True := fun _ _ _ _ => trivial
    refine r_forT (us.map V.int) (fun i σ' H' => ∃ (rf : List V) (ds : List PyData) (x4 x5 x6 : Option V), σ' = [some (.ref p), some (.ref q), some (.ref d), x4, x5, x6] ∧ H' d = some (.lst rf) ∧ ImAll K H' rf ds ∧ (∀ d ∈ ds, Shp 1 d) ∧ (ds = [] ↔ ∀ x ∈ us.take i, ∀ y ∈ us, apC los his x y = false) ∧ rf.length ≤ 40 * i ∧ Kp [d] H1 H') ⟨[], [], _, _, _, rfl, ed, .nil, (fun d hd => by cases hd), by simp, by simp, bs⟩ (fun i σ' H' ⟨_, _, _, _, _, _, _, _, _, _, _, kk⟩ => kk.tup (k1.tup hu)) ?_ ?_
    · clear bs
      rintro i x σ' H2 hx ⟨rf, ds, x4, x5, x6, rfl, e2, A2, sh2, n2, l2, k2⟩
      obtain ⟨v, hv, rfl⟩ : ∃ v, us[i]? = some v ∧ x = .int v := by
        rw [List.getElem?_map] at hx
        obtain ⟨v, h1, h2⟩ := Option.map_eq_some_iff.mp hx
        exact ⟨v, h1, h2.symm⟩
      have hi : i < us.length := (List.getElem?_eq_some_iff.mp hv).1
      have rv := rng v (List.mem_of_getElem? hv)
      have a1 := atS rv.1 (by rw [W.a]; exact rv.2)
      have a2 := atS rv.1 (by rw [W.b]; exact rv.2)
      have K2 := Kp.trN k2 k1 hd
      have Bx2 := Bx.kp0 K2
      have hb2 := Bx2.b
      have et : us.take (i + 1) = us.take i ++ [v] := by rw [List.take_add_one, hv]; rfl
      walk_at "cg"
      refine r_ixL Bx2.l a1 ?_
      walk_at "cg"
      refine r_ixL Bx2.h a2 ?_
      walk_at "cg"
      refine if_S (fun g => ?_) (fun g => ?_)
      · walk_at "cg"
        refine r_forT (us.map V.int) (fun j σ' H' => ∃ (rf : List V) (ds : List PyData) (x5 x6 : Option V), σ' = [some (.ref p), some (.ref q), some (.ref d), some (.int v), x5, x6] ∧ H' d = some (.lst rf) ∧ ImAll K H' rf ds ∧ (∀ d ∈ ds, Shp 1 d) ∧ (ds = [] ↔ (∀ x ∈ us.take i, ∀ y ∈ us, apC los his x y = false) ∧ ∀ y ∈ us.take j, apC los his v y = false) ∧ rf.length ≤ 40 * i + 2 * j ∧ Kp [d] H1 H') ⟨rf, ds, _, _, rfl, e2, A2, sh2, by rw [n2]; simp, by omega, k2⟩ (fun i σ' H' ⟨_, _, _, _, _, _, _, _, _, _, kk⟩ => kk.tup (k1.tup hu)) ?_ ?_
        · clear k2 K2 Bx2 hb2 e2 A2 sh2 n2 l2
          rintro j y σ' H3 hy ⟨rf, ds, x5, x6, rfl, e3, A3, sh3, n3, l3, k3⟩
          obtain ⟨u, hu', rfl⟩ : ∃ u, us[j]? = some u ∧ y = .int u := by
            rw [List.getElem?_map] at hy
            obtain ⟨v, h1, h2⟩ := Option.map_eq_some_iff.mp hy
            exact ⟨v, h1, h2.symm⟩
          have hj : j < us.length := (List.getElem?_eq_some_iff.mp hu').1
          have ru := rng u (List.mem_of_getElem? hu')
          have b1 := atS ru.1 (by rw [W.a]; exact ru.2)
          have b2 := atS ru.1 (by rw [W.b]; exact ru.2)
          have etj : us.take (j + 1) = us.take j ++ [u] := by rw [List.take_add_one, hu']; rfl
          walk_at "cg"
          rename_i ls H4 hls els k4
          have k41 := Kp.tr0 k4 k3
          have e4 := k4.get0 e3
          have A4 := k4.imAll A3
          have nls : ls ≠ d := ne_newR hls e3
          have els' : H4 ls = some (.lst (([0, 1] : List Int).map V.int)) := els
          clear k3 k4 e3 A3 hls els
          refine r_forLI [0, 1] (fun s σ' H' => ∃ (rf : List V) (ds : List PyData) (x6 : Option V), σ' = [some (.ref p), some (.ref q), some (.ref d), some (.int v), some (.int u), x6] ∧ H' d = some (.lst rf) ∧ ImAll K H' rf ds ∧ (∀ d ∈ ds, Shp 1 d) ∧ (ds = [] ↔ ((∀ x ∈ us.take i, ∀ y ∈ us, apC los his x y = false) ∧ ∀ y ∈ us.take j, apC los his v y = false) ∧ ∀ s' ∈ ([0, 1] : List Int).take s, ¬ (u ≠ v ∧ (if s' = 0 then at_ los u else at_ his u) = at_ los v)) ∧ rf.length ≤ 40 * i + 2 * j + s ∧ Kp [d] H4 H') ⟨rf, ds, _, rfl, e4, A4, sh3, by rw [n3]; simp, by omega, Kp.base fun b hb => by rw [List.mem_singleton] at hb; rw [hb, e4]; trivial⟩ (fun i σ' H' ⟨_, _, _, _, _, _, _, _, _, h⟩ => h.get1 nls els') ?_ ?_
          · clear e4 A4 sh3 n3 l3
            rintro s sd σ' H5 hs ⟨rf, ds, x6, rfl, e5, A5, sh5, n5, l5, k5⟩
            have hs2 : sd = 0 ∨ sd = 1 := by
              have := List.mem_of_getElem? hs
              simpa using this
            have hsl : s < 2 := (List.getElem?_eq_some_iff.mp hs).1
            have ets : ([0, 1] : List Int).take (s + 1) = ([0, 1] : List Int).take s ++ [sd] := by rw [List.take_add_one, hs]; rfl
            have KK := Kp.trN (Kp.tr1 k5 k41) k1 hd
            have Bx5 := Bx.kp0 KK
            have hb5 := Bx5.b
            obtain ⟨q9, ns9, c1, c2, c3⟩ : ∃ q9 ns, atI [V.ref q1, V.ref q2] sd = some (.ref q9) ∧ H5 q9 = some (.lst (List.map V.int ns)) ∧ atI (ns.map V.int) u = some (.int (if sd = 0 then at_ los u else at_ his u)) := by
              rcases hs2 with rfl | rfl
              · exact ⟨q1, los, rfl, Bx5.l, b1⟩
              · exact ⟨q2, his, rfl, Bx5.h, b2⟩
            have rfl5 : rf.length ≤ 900 := by omega
            have stay : ¬ (u ≠ v ∧ (if sd = 0 then at_ los u else at_ his u) = at_ los v) → ∃ (rf2 : List V) (ds2 : List PyData) (z6 : Option V), ([some (.ref p), some (.ref q), some (.ref d), some (.int v), some (.int u), some (.int sd)] : St) = [some (.ref p), some (.ref q), some (.ref d), some (.int v), some (.int u), z6] ∧ H5 d = some (.lst rf2) ∧ ImAll K H5 rf2 ds2 ∧ (∀ d ∈ ds2, Shp 1 d) ∧ (ds2 = [] ↔ ((∀ x ∈ us.take i, ∀ y ∈ us, apC los his x y = false) ∧ ∀ y ∈ us.take j, apC los his v y = false) ∧ ∀ s' ∈ ([0, 1] : List Int).take (s + 1), ¬ (u ≠ v ∧ (if s' = 0 then at_ los u else at_ his u) = at_ los v)) ∧ rf2.length ≤ 40 * i + 2 * j + (s + 1) ∧ Kp [d] H4 H5 := fun h => ⟨rf, ds, _, rfl, e5, A5, sh5, by
              rw [n5, ets]
              constructor
              · rintro ⟨h1, h2⟩
                refine ⟨h1, fun s' hs' => ?_⟩
                rcases List.mem_append.mp hs' with h' | h'
                · exact h2 s' h'
                · rw [List.mem_singleton] at h'
                  rw [h']
                  exact h
              · rintro ⟨h1, h2⟩
                exact ⟨h1, fun s' hs' => h2 s' (List.mem_append_left _ hs')⟩, by omega, k5⟩
            walk_at "cg"
            refine if_S (fun g1 => ?_) (fun g1 => ?_)
            · walk_at "cg"
              refine r_ixL hb5 c1 ?_
              walk_at "cg"
              refine r_ixL c2 c3 ?_
              walk_at "cg"
              refine r_ixL Bx5.l a1 ?_
              generalize hyy : (if sd = 0 then at_ los u else at_ his u) = yy at stay
              walk_at "cg"
              refine if_S (fun g2 => ?_) (fun g2 => ?_)
              · walk_at "cg"
                rename_i p6 H6 hp6 s6 k6 H7 e7 k7
                refine ⟨_, ds ++ [two u sd], _, rfl, e7, (k7.imAll (k6.imAll A5)).snoc (k7.im (two_im s6)), fun d hd => ?_, ?_, by simp; omega, Kp.tr1 k7 (Kp.tr0 k6 k5)⟩
                · rcases List.mem_append.mp hd with h | h
                  · exact sh5 d h
                  · rw [List.mem_singleton] at h
                    rw [h]
                    exact two_shp _ _
                · rw [ets]
                  simp only [List.append_eq_nil_iff, List.cons_ne_nil, and_false, false_iff]
                  rintro ⟨_, h⟩
                  exact h sd (List.mem_append_right _ List.mem_cons_self) ⟨g1, by rw [hyy]; exact g2⟩
              · walk_at "cg"
                exact stay fun h => g2 h.2
            · walk_at "cg"
              exact stay fun h => h.1 (by omega)
          · rintro σ' H5 ⟨rf, ds, x6, rfl, e5, A5, sh5, n5, l5, k5⟩
            walk_at "cg"
            refine ⟨rf, ds, _, _, rfl, e5, A5, sh5, ?_, by rw [show ([0, 1] : List Int).length = 2 from rfl] at l5; omega, Kp.tr1 k5 k41⟩
            have ee : (∀ s' ∈ ([0, 1] : List Int).take 2, ¬ (u ≠ v ∧ (if s' = 0 then at_ los u else at_ his u) = at_ los v)) ↔ apC los his v u = false := by
              simp only [List.take_succ_cons, List.take_zero, List.mem_cons, List.not_mem_nil, or_false, forall_eq_or_imp, forall_eq, if_true]
              have : ¬ ((1 : Int) = 0) := by decide
              rw [if_neg this]
              unfold apC
              rw [← Bool.not_eq_true, Bool.and_eq_true, Bool.and_eq_true, Bool.or_eq_true, decide_eq_true_eq, decide_eq_true_eq, decide_eq_true_eq, decide_eq_true_eq]
              omega
            rw [n5, show ([0, 1] : List Int).length = 2 from rfl, ee, etj]
            constructor
            · rintro ⟨⟨h1, h2⟩, h3⟩
              refine ⟨h1, fun y hy => ?_⟩
              rcases List.mem_append.mp hy with h | h
              · exact h2 y h
              · rw [List.mem_singleton] at h
                rw [h]
                exact h3
            · rintro ⟨h1, h2⟩
              exact ⟨⟨h1, fun y hy => h2 y (List.mem_append_left _ hy)⟩, h2 u (List.mem_append_right _ List.mem_cons_self)⟩
        · rintro σ' H3 ⟨rf, ds, x5, x6, rfl, e3, A3, sh3, n3, l3, k3⟩
          rw [List.length_map, List.take_length] at n3
          walk_at "cg"
          refine ⟨rf, ds, _, _, _, rfl, e3, A3, sh3, ?_, by rw [List.length_map] at l3; omega, k3⟩
          rw [n3, et]
          constructor
          · rintro ⟨h1, h2⟩ x hx
            rcases List.mem_append.mp hx with h | h
            · exact h1 x h
            · rw [List.mem_singleton] at h
              rw [h]
              exact h2
          · intro h
            exact ⟨fun x hx => h x (List.mem_append_left _ hx), h v (List.mem_append_right _ List.mem_cons_self)⟩
      · walk_at "cg"
        refine ⟨rf, ds, _, _, _, rfl, e2, A2, sh2, ?_, by omega, k2⟩
        rw [n2, et]
        constructor
        · intro h x hx
          rcases List.mem_append.mp hx with h' | h'
          · exact h x h'
          · rw [List.mem_singleton] at h'
            intro y _
            rw [h']
            unfold apC
            rw [decide_eq_false (show ¬ at_ his v = at_ los v from fun e => g e.symm)]
            simp
        · exact fun h x hx => h x (List.mem_append_left _ hx)
    · rintro σ' H2 ⟨rf, ds, x4, x5, x6, rfl, e2, A2, sh2, n2, l2, k2⟩
      rw [List.length_map, List.take_length] at n2
      walk_at "cg"
      cases ds with
      | nil => exact k _ true H2 ⟨fun _ => n2.mp rfl, fun _ => rfl⟩ (.of e2 A2 sh2 (by simp)) (Kp.trN k2 k1 hd)
      | cons z zs => exact k _ false H2 ⟨fun e => (by cases e), fun h => (by cases n2.mpr h)⟩ (.of e2 A2 sh2 (by simp)) (Kp.trN k2 k1 hd)

end
section
variable {P : Program} {w : World} {K : PySem.W.Frag} {mg : Str → Option Value} {base : Heap} {C_Model : Addr}
theorem ok_law_supports {f : Addr} {fd : FuncData} (F : Fun K "_law_supports" "_law_supports" s_law_supports f fd) (B : Bi K mg) (D_law_written : Is P w K mg base CX0 1 "_law_written" ["_law_body_here"] (spWritten K)) (D_law_holds : Is P w K mg base CX0 3 "_law_holds" ["_law_body_here", "_law_point"] (spHolds K)) (D_law_values : Is P w K mg base CX0 1 "_law_values" ["_law_box_here", "_law_v"] (spValues K)) : FnOk P w K mg base CX0 4 f fd ["_law_box_here", "_law_body_here"] (spSupports K) := by
  have nd := sc_law_supports.nd
  refine F.ok sc_law_supports ?len (fun cdv A outer s H vs Q E hr h => ?body)
  case len =>
    rintro vs H Q E ⟨p, q1, q2, q, m, los, his, b, rfl, _⟩
    rfl
  case body =>
    obtain ⟨p, q1, q2, q, m, los, his, b, rfl, Bx, W, wd, bd9, m1, m60, hb, fit, cnt, k⟩ := h
    refine ⟨_, (pss_cons (ps_set (i := 2) nd rfl (Or.inl rfl) (pe_lst (pa_cons (by exact pe_lc (own := [("_law_low", 7)]) (g := (gName 7)) (tt := tYes) rfl nd ((piLst K) (pe_ix (ixL K) (pv 0) pe_int (fun _ _ => rfl))) (blkOk_by (N := ["_law_box_here", "_law_body_here", "_law_points", "_law_v", "_law_longer", "_law_point", "_law_a", "_law_low"]) (sc := defScope s_law_supports) (by decide +kernel)) (fun _ _ _ _ _ => (pg_name (i := 7) nd rfl (Or.inl rfl))) (fun _ _ _ _ _ => pts_nil) (fun _ _ _ _ _ => pe_int)) pa_nil)))
      (pss_cons (ps_for PassesOwn.never rfl (pi_range1 rfl B.n_range (pa_cons (pe_callB (cgLen K) (by rfl) B.n_len PySem.boot_len (pa_cons (pe_ix (ixL K) (pv 0) pe_int (fun _ _ => rfl)) pa_nil)) pa_nil)) (pg_name (i := 3) nd rfl (Or.inl rfl))
      (pss_one (ps_if (pt_cmpR (inS K) (pv 3) (pe_is D_law_written (hr.mono (by decide)) rfl pass0 (pa_cons (pv 1) pa_nil)) rfl)
      (pss_cons (ps_set (i := 4) nd rfl (Or.inl rfl) (pe_lst pa_nil))
      (pss_cons (ps_for PassesOwn.never rfl ((piLst K) (pe_callTy (cgList K) (by rfl) B.n_list (by decide +kernel) (pa_cons (pv 2) pa_nil))) (pg_name (i := 5) nd rfl (Or.inl rfl))
      (pss_one (ps_for PassesOwn.never rfl ((piLst K) (pe_is D_law_values (hr.mono (by decide)) rfl pass0 (pa_cons (pv 0) (pa_cons (pv 3) pa_nil)))) (pg_name (i := 6) nd rfl (Or.inl rfl))
      (pss_one (ps_expr (pe_bm PySem.F.plainAttrs_list PySem.F.slot_list_append PySem.F.type_list_append mt_append (pv 4) (pa_cons (pe_op (op_catL K) (pe_op (op_catL K) (pe_slice (slL K) (pv 5) po_none (po_some (pv 3))) (pe_lst (pa_cons (pv 6) pa_nil))) (pe_slice (slL K) (pv 5) (po_some (pe_op op_add (pv 3) pe_int)) po_none)) pa_nil)))))))
      (pss_one (ps_set (i := 2) nd rfl (Or.inl rfl) (pe_callTy (cgList K) (by rfl) B.n_list (by decide +kernel) (pa_cons (pv 4) pa_nil))))))
      pss_nil)))
      (pss_one (ps_ret (by exact pe_lc (own := [("_law_point", 5)]) (g := (gName 5)) rfl nd ((piLst K) (pv 2)) (blkOk_by (N := ["_law_box_here", "_law_body_here", "_law_points", "_law_v", "_law_longer", "_law_point", "_law_a", "_law_low"]) (sc := defScope s_law_supports) (by decide +kernel)) (fun _ _ _ _ _ => (pg_name (i := 5) nd rfl (Or.inl rfl))) (fun _ _ _ _ _ => pts_one (pt_val (pe_is D_law_holds (hr.mono (by decide)) rfl pass0 (pa_cons (pv 1) (pa_cons (pv 5) pa_nil))))) (fun _ _ _ _ _ => (pv 5))))))), ?_⟩
    try dsimp only [L2.cxOf, L2.Cx.nox, L2.Cx.wish]
    rw [st_law_supports]
    have bd := Body.fit_bd fit
    have rng : ∀ v ∈ b.vars, 0 ≤ v ∧ v < m := Body.fit_vars fit
    have ll : (los.map V.int).length = m := by rw [List.length_map, W.a]
    have hb0 := Bx.b
    have hl0 := Bx.l
    walk_at "cg"
    refine lcL_i (as := los) (d := PyData.int) Bx.l (imInts _) (fun _ => 0) (by have := W.a; omega) (fun i z x H' R R' hz k1 hx q1 => ?_) (fun D1 H1 hD1 eD1 k1 => ?_)
    · walk_at "cg"
      exact q1 _ .refl
    walk_at "cg"
    rename_i P0 H2 hP0 eP k2
    have e0 : H1 D1 = some (.lst ((List.replicate m (0 : Int)).map V.int)) := by
      rw [eD1, ← W.a]
      congr 3
      rw [List.map_const']
    have K2 : Kp [] H H2 := Kp.tr0 k2 k1
    have E2 : Els H2 [.ref D1] (chsL m b.vars (boxD los his) 0) := .cons (k2.get0 e0) .nil
    have Bx2 := Bx.kp0 K2
    have hb2 := Bx2.b
    have l2 := Bx2.l
    clear k1 k2 e0 eD1 hD1 hP0
    refine r_forR (fun i σ' H' => ∃ (P : Addr) (refs : List V) (x4 x5 x6 x7 : Option V), σ' = [some (.ref p), some (.ref q), some (.ref P), x4, x5, x6, x7, none] ∧ Kp [] H H' ∧ H' P = some (.lst refs) ∧ Els H' refs (chsL m b.vars (boxD los his) i)) ⟨P0, _, _, _, _, _, rfl, K2, eP, E2⟩ ?_ ?_
    · clear K2 eP E2 Bx2 hb2 l2
      rintro i σ' H3 hi ⟨P, refs, x4, x5, x6, x7, rfl, K3, eP, E3⟩
      have hi : i < m := by omega
      have z0 : (0 : Int) + (i : Int) = i := by omega
      rw [z0]
      have cnt1 := cnt (i + 1) (by omega)
      have cnt0 := cnt i (by omega)
      have rl := E3.length
      have ptl : ∀ pt ∈ chsL m b.vars (boxD los his) i, pt.length = m := fun pt h => (chsL_snd i (by omega) pt h).1
      walk_at "cg"
      refine ⟨q, b, rfl, K3.im hb, bd, fun lw H4 elw k4 => ?_⟩
      walk_at "cg"
      refine r_inL elw rfl (flat_ints _) (inV_ints _ _) ?_
      have K4 := Kp.tr0 k4 K3
      have eP4 := k4.get0 eP
      have E4 := E3.kp0 k4
      clear k4 eP E3 K3 elw
      walk_at "cg"
      refine if_S (fun g => ?_) (fun g => ?_)
      · have hin : (i : Int) ∈ b.vars := by first | exact g | simpa using g
        have enx : chsL m b.vars (boxD los his) (i + 1) = (chsL m b.vars (boxD los his) i).flatMap (putP i (boxD los his i)) := by
          show (if (i : Int) ∈ b.vars then _ else _) = _
          rw [if_pos hin]
        rw [enx, put_len] at cnt1
        rw [enx]
        generalize hL : chsL m b.vars (boxD los his) i = L at E4 cnt0 cnt1 rl ptl
        have bi := W.bd i (by omega) (by omega)
        walk_at "cg"
        rename_i D H5 hD eD k5
        refine r_listL (SqL.of (k5.get0 eP4)) fun C H6 hC eC k6 => ?_
        have nCD : C ≠ D := ne_newR hC eD
        have eD6 := k6.get0 eD
        have K6 : Kp [] H H6 := Kp.tr0 k6 (Kp.tr0 k5 K4)
        have fD : H D = none := K4.free0 hD
        have oD : V.ref D ∉ refs := E4.off hD
        have E6 : Els H6 refs L := (E4.kp0 k5).kp0 k6
        clear k5 k6 hC eP4 E4 K4 eD
        walk_at "cg"
        refine r_forL refs (fun j σ' H' => ∃ (refs2 : List V) (x6 x7 : Option V), σ' = [some (.ref p), some (.ref q), some (.ref P), some (.int (i : Int)), some (.ref D), x6, x7, none] ∧ Kp [D] H6 H' ∧ H' D = some (.lst refs2) ∧ V.ref D ∉ refs2 ∧ Els H' refs2 ((L.take j).flatMap (putP i (boxD los his i))))
          ⟨[], _, _, rfl, .base (fun b hb => by rw [List.mem_singleton] at hb; subst hb; rw [eD6]; trivial), eD6, (fun h => by cases h), .nil⟩ (fun j σ' H' ⟨_, _, _, _, k6, _⟩ => k6.get1 nCD eC) ?_ ?_
        · rintro j x σ' H7 hx ⟨refs2, x6, x7, rfl, k7, e7, o7, E7⟩
          have hj : j < refs.length := (List.getElem?_eq_some_iff.mp hx).1
          obtain ⟨qp, pt, rfl, hpt, eq⟩ := E6.get hx
          have nqD : qp ≠ D := fun e => oD (e ▸ List.mem_of_getElem? hx)
          have K7 : Kp [] H H7 := Kp.trN k7 K6 fD
          have lpt := ptl pt (List.mem_of_getElem? hpt)
          have jw : (j + 1) * (boxD los his i).length ≤ 2000 := Nat.le_trans (Nat.mul_le_mul_right _ (by omega)) cnt1
          rw [Nat.succ_mul] at jw
          walk_at "cg"
          refine ⟨p, q1, q2, m, los, his, i, rfl, Bx.kp0 K7, W, by omega, by omega, fun lv H8 hlv elv k8 => ?_⟩
          have nlv : lv ≠ D := ne_newR hlv e7
          have k86 := Kp.tr0 k8 k7
          walk_at "cg"
          refine r_forLI (rgI (at_ los i) (at_ his i + 1)) (fun s σ' H' => ∃ (refs3 : List V) (x7 : Option V), σ' = [some (.ref p), some (.ref q), some (.ref P), some (.int (i : Int)), some (.ref D), some (.ref qp), x7, none] ∧ Kp [D] H8 H' ∧ Kp [D] H6 H' ∧ H' D = some (.lst refs3) ∧ V.ref D ∉ refs3 ∧ Els H' refs3 ((L.take j).flatMap (putP i (boxD los his i)) ++ ((rgI (at_ los i) (at_ his i + 1)).take s).map fun x => pt.take i ++ [x] ++ pt.drop (i + 1)))
            ⟨refs2, _, rfl, Kp.base (fun b hb => by rw [List.mem_singleton] at hb; subst hb; rw [k8.get0 e7]; trivial), k86, k8.get0 e7, o7, by rw [List.take_zero, List.map_nil, List.append_nil]; exact E7.kp0 k8⟩ (fun s σ' H' ⟨_, _, _, h, _⟩ => h.get1 nlv elv) ?_ ?_
          · clear k7 e7 o7 E7 K7
            rintro s a σ' H9 ha ⟨refs3, x7, rfl, k98, k96, e9, o9, E9⟩
            have hs : s < (boxD los his i).length := (List.getElem?_eq_some_iff.mp ha).1
            have eq9 := k96.get1 nqD eq
            have c9 : refs3.length ≤ 2000 := by
              rw [E9.length, List.length_append, put_len, List.length_take, List.length_map, List.length_take]
              have : min j L.length * (boxD los his i).length ≤ j * (boxD los his i).length := Nat.mul_le_mul_right _ (by omega)
              omega
            walk_at "cg"
            rename_i q8 Ha hq8 e8 k8 q9 Hb hq9 e9' k9
            rw [cut_to] at e8
            refine r_cat (k9.get0 e8) e9' (by simp; omega) fun q10 H10 hq10 e10 k10 => ?_
            walk_at "cg"
            rename_i q11 H11 hq11 e11 k11
            rw [cut_from (by omega)] at e11
            refine r_cat (k11.get0 e10) e11 (by simp; omega) fun q12 H12 hq12 e12 k12 => ?_
            have K12 := Kp.tr0 k12 (Kp.tr0 k11 (Kp.tr0 k10 (Kp.tr0 k9 k8)))
            have e912 := K12.get0 e9
            have n12D : q12 ≠ D := ne_newR hq12 (k11.get0 (k10.get0 (k9.get0 (k8.get0 e9))))
            have E912 := E9.kp0 K12
            clear k8 k9 k10 k11 k12 e8 e9' e10 e11 hq8 hq9 hq10 hq11
            walk_at "cg"
            refine r_app (xs := refs3) e912 (by rw [sizeLine_eq]; omega) fun H13 e13 k13 => ?_
            refine ⟨_, _, rfl, ⟨fun b o hb e => k13.k b o hb (K12.get0 (k98.k b o hb e)), k98.mu⟩, ⟨fun b o hb e => k13.k b o hb (K12.get0 (k96.k b o hb e)), k96.mu⟩, e13, ?_, ?_⟩
            · intro hm
              rcases List.mem_append.mp hm with h | h
              · exact o9 h
              · rw [List.mem_singleton] at h
                cases h
                exact n12D rfl
            · rw [map_take_snoc ha, ← List.append_assoc]
              refine Els.snoc ?_ (Els.kp k13 E912 fun b hb => ?_)
              · rw [k13.get1 n12D e12]
                have e5 : ((i : Int) + 1).toNat = i + 1 := by omega
                rw [e5]
                simp [List.map_take, List.map_drop]
              · rw [List.mem_singleton] at hb
                subst hb
                exact o9
          · rintro σ' H9 ⟨refs3, x7, rfl, k98, k96, e9, o9, E9⟩
            rw [List.take_length] at E9
            walk_at "cg"
            refine ⟨refs3, _, _, rfl, k96, e9, o9, ?_⟩
            rw [flat_take hpt]
            exact E9
        · rintro σ' H7 ⟨refs2, x6, x7, rfl, k7, e7, o7, E7⟩
          have K7 : Kp [] H H7 := Kp.trN k7 K6 fD
          rw [List.take_of_length_le (by omega)] at E7
          walk_at "cg"
          refine r_listL (SqL.of e7) fun C2 H8 hC2 eC2 k8 => ?_
          walk_at "cg"
          exact ⟨C2, refs2, _, _, _, _, rfl, Kp.tr0 k8 K7, eC2, E7.kp0 k8⟩
      · have enx : chsL m b.vars (boxD los his) (i + 1) = chsL m b.vars (boxD los his) i := by
          show (if (i : Int) ∈ b.vars then _ else _) = _
          rw [if_neg (by first | exact g | simpa using g)]
        rw [enx]
        walk_at "cg"
        exact ⟨P, refs, _, _, _, _, rfl, K4, eP4, E4⟩
    · clear K2 eP E2 Bx2 hb2 l2
      rintro σ' H3 ⟨P, refs, x4, x5, x6, x7, rfl, K3, eP, E3⟩
      have eul : (((los.map V.int).length : Int) - 0).toNat = m := by omega
      have E3 : Els H3 refs (chsL m b.vars (boxD los his) m) := by first | exact E3 | (rw [ll] at E3; exact E3) | (rw [eul] at E3; exact E3) | simpa [ll] using E3
      have cm := cnt m (Nat.le_refl _)
      have rl := E3.length
      have cbd := chsL_bd (n := m) (ws := b.vars) (boxD_bd W bd9 m1) m (Nat.le_refl _)
      have kk : ∀ (d : Addr) (refs : List V) H', H' d = some (.lst refs) → Els H' refs ((chsL m b.vars (boxD los his) m).filter fun pt => b.h (at_ pt)) → Kp [] H H' → Q (.ref d) H' := k
      generalize chsL m b.vars (boxD los his) m = L at E3 cm rl cbd kk
      walk_at "cg"
      refine r_lcL refs (fun D3 i H' => H3 D3 = none ∧ Kp [] H3 H' ∧ ∃ r2, H' D3 = some (.lst r2) ∧ (∀ x ∈ r2, x ∈ refs) ∧ r2.length ≤ i ∧ Els H' r2 ((L.take i).filter fun pt => b.h (at_ pt))) (fun D3 H4 hD3 e4 k4 => ⟨hD3, k4, [], e4, (fun x hx => by cases hx), Nat.le_refl _, .nil⟩) (fun D3 i H' h => h.2.1.get0 eP) ?_ ?_
      · rintro D3 i x H4 hx ⟨hD3, k4, r2, e4, s4, l4, E4⟩
        obtain ⟨qp, pt, rfl, hpt, eq⟩ := (E3.kp0 k4).get hx
        have hi : i < refs.length := (List.getElem?_eq_some_iff.mp hx).1
        have cb := cbd pt (List.mem_of_getElem? hpt)
        have oD : V.ref D3 ∉ refs := E3.off hD3
        have et : ∀ c, b.h (at_ pt) = c → ((L.take (i + 1)).filter fun pt => b.h (at_ pt)) = ((L.take i).filter fun pt => b.h (at_ pt)) ++ (if c = true then [pt] else []) := fun c hc => by
          rw [List.take_add_one, hpt, List.filter_append]
          congr 1
          simp only [Option.toList_some, List.filter_cons, List.filter_nil, hc]
        walk_at "cg"
        refine ⟨q, qp, b, at_ pt, _, rfl, (Kp.tr0 k4 K3).im hb, bd, PtAt.ofL eq, fun v hv => by have := cb.2 v hv.1; omega, fun v hv => by have := rng v hv; rw [cb.1]; exact this, fun H5 k5 => ?_⟩
        walk_at "cg"
        cases eh : b.h (at_ pt)
        · walk_at "cg"
          refine ⟨hD3, Kp.tr0 k5 k4, r2, k5.get0 e4, s4, by omega, ?_⟩
          rw [et _ eh, if_neg (by decide), List.append_nil]
          exact E4.kp0 k5
        · walk_at "cg"
          have e5 := k5.get0 e4
          refine r_ap e5 (small1e4 (by omega)) fun H6 e6 k6 => ⟨hD3, Kp.trN k6 (Kp.tr0 k5 k4) hD3, _, e6, fun x hx' => ?_, by simp; omega, ?_⟩
          · rcases List.mem_append.mp hx' with h | h
            · exact s4 x h
            · rw [List.mem_singleton] at h
              rw [h]
              exact List.mem_of_getElem? hx
          · rw [et _ eh, if_pos rfl]
            have nq : qp ≠ D3 := fun e => oD (e ▸ List.mem_of_getElem? hx)
            refine Els.snoc (k6.get1 nq (k5.get0 eq)) (Els.kp k6 (E4.kp0 k5) fun b hb => ?_)
            rw [List.mem_singleton] at hb
            subst hb
            exact fun hm => oD (s4 _ hm)
      · rintro D3 H4 ⟨hD3, k4, r2, e4, s4, l4, E4⟩
        rw [rl, List.take_length] at E4
        walk_at "cg"
        exact kk D3 r2 H4 e4 E4 (Kp.tr0 k4 K3)

end
section
variable {P : Program} {w : World} {K : PySem.W.Frag} {mg : Str → Option Value} {base : Heap} {C_Model : Addr}
theorem ok_law_bad_supports {f : Addr} {fd : FuncData} (F : Fun K "_law_bad_supports" "_law_bad_supports" s_law_bad_supports f fd) (B : Bi K mg) (D_law_supports : Is P w K mg base CX0 4 "_law_supports" ["_law_box_here", "_law_body_here"] (spSupports K)) (D_law_values : Is P w K mg base CX0 1 "_law_values" ["_law_box_here", "_law_v"] (spValues K)) (D_law_written : Is P w K mg base CX0 1 "_law_written" ["_law_body_here"] (spWritten K)) : FnOk P w K mg base CX0 5 f fd ["_law_box_here", "_law_body_here"] (spBadSupp K) := by
  have nd := sc_law_bad_supports.nd
  refine F.ok sc_law_bad_supports ?len (fun cdv A outer s H vs Q E hr h => ?body)
  case len =>
    rintro vs H Q E ⟨p, q1, q2, q, m, los, his, b, rfl, _⟩
    rfl
  case body =>
    obtain ⟨p, q1, q2, q, m, los, his, b, rfl, Bx, W, wd, bd9, m1, m60, hb, fit, sk, cnt, k⟩ := h
    refine ⟨_, (Evl.pss_cut (ps_if (pt_cmpR op_eq (pe_ix (ixT K) (pv 1) pe_int (fun _ _ => rfl)) pe_str (nomark _))
      (pss_cons (ps_set (i := 2) nd rfl (Or.inl rfl) (pe_callB (cgLen K) (by rfl) B.n_len PySem.boot_len (pa_cons (pe_is D_law_values (hr.mono (by decide)) rfl pass0 (pa_cons (pv 0) (pa_cons (pe_ix (ixT K) (pv 1) pe_int (fun _ _ => rfl)) pa_nil))) pa_nil)))
      (pss_cons (ps_if (pt_cmpR op_ne (pe_ix (ixT K) (pv 1) pe_int (fun _ _ => rfl)) (pe_ix (ixT K) (pv 1) pe_int (fun _ _ => rfl)) (nomark _))
      (pss_one (ps_set (i := 2) nd rfl (Or.inl rfl) (pe_op op_mul (pv 2) (pe_callB (cgLen K) (by rfl) B.n_len PySem.boot_len (pa_cons (pe_is D_law_values (hr.mono (by decide)) rfl pass0 (pa_cons (pv 0) (pa_cons (pe_ix (ixT K) (pv 1) pe_int (fun _ _ => rfl)) pa_nil))) pa_nil)))))
      pss_nil)
      (pss_one (ps_if (pt_cmpR op_gt (pv 2) pe_int (nomark _))
      (pss_one (ps_ret (pe_lst pa_nil)))
      pss_nil))))
      pss_nil)
      (pss_cons (ps_set (i := 3) nd rfl (Or.inl rfl) (pe_is D_law_supports (hr.mono (by decide)) rfl pass0 (pa_cons (pv 0) (pa_cons (pv 1) pa_nil))))
      (pss_cons (ps_if (pt_cmpR op_eq (pe_callB (cgLen K) (by rfl) B.n_len PySem.boot_len (pa_cons (pv 3) pa_nil)) pe_int (nomark _))
      (pss_one (ps_ret pe_non))
      pss_nil)
      (pss_cons (ps_set (i := 4) nd rfl (Or.inl rfl) (pe_lst pa_nil))
      (pss_cons (ps_for PassesOwn.never rfl (pi_range1 rfl B.n_range (pa_cons (pe_callB (cgLen K) (by rfl) B.n_len PySem.boot_len (pa_cons (pe_ix (ixL K) (pv 0) pe_int (fun _ _ => rfl)) pa_nil)) pa_nil)) (pg_name (i := 5) nd rfl (Or.inr rfl))
      (pss_one (ps_for PassesOwn.never rfl ((piLst K) (pe_lst (pa_cons pe_int (pa_cons pe_int pa_nil)))) (pg_name (i := 6) nd rfl (Or.inl rfl))
      (pss_one (ps_if (PW.pt (pw_and (pt_cmpR (inS K) (pv 5) (pe_is D_law_written (hr.mono (by decide)) rfl pass0 (pa_cons (pv 1) pa_nil)) rfl) (pw_and1 (pt_cmpR (notInS K) (pe_ix (ixL K) (pe_ix (ixL K) (pv 0) (pv 6) (fun _ _ => rfl)) (pv 5) (fun _ _ => rfl)) (by exact pe_lc (own := [("_law_point", 7)]) (g := (gName 7)) (tt := tYes) rfl nd ((piLst K) (pv 3)) (blkOk_by (N := ["_law_box_here", "_law_body_here", "_law_many", "_law_points", "_law_found", "_law_v", "_law_side", "_law_point"]) (sc := defScope s_law_bad_supports) (by decide +kernel)) (fun _ _ _ _ _ => (pg_name (i := 7) nd rfl (Or.inl rfl))) (fun _ _ _ _ _ => pts_nil) (fun _ _ _ _ _ => (pe_ix (ixL K) (pv 7) (pv 5) (fun _ _ => rfl)))) rfl))))
      (pss_one (ps_expr (pe_bm PySem.F.plainAttrs_list PySem.F.slot_list_append PySem.F.type_list_append mt_append (pv 4) (pa_cons (pe_tup (pa_cons (pv 5) (pa_cons (pv 6) pa_nil))) pa_nil))))
      pss_nil)))))
      (pss_one (ps_ret (pv 4)))))))), ?_⟩
    try dsimp only [L2.cxOf, L2.Cx.nox, L2.Cx.wish]
    rw [st_law_bad_supports]
    have bd := Body.fit_bd fit
    have rng : ∀ v ∈ b.vars, 0 ≤ v ∧ v < m := Body.fit_vars fit
    have ll : (los.map V.int).length = m := by rw [List.length_map, W.a]
    walk_at "cg"
    refine ⟨fun σ' H' => ∃ x2 : Option V, σ' = [some (.ref p), some (.ref q), x2, none, none, none, none, none] ∧ ¬ 400 < costB m b (boxD los his) ∧ Kp [] H H', ?_, ?_⟩
    · cases b with
      | row ts r n => cases sk
      | any ls => cases sk
      | when l ts r n => cases sk
      | diff us => cases sk
      | table us rows =>
        obtain ⟨qu, qr, s0, s1, i2⟩ := b_table hb
        walk_at "cg"
        exact ⟨_, rfl, (by show ¬ (400 : Int) < 0; decide), .refl⟩
      | elem x es y =>
        obtain ⟨qe, s0, s1⟩ := b_elem hb
        walk_at "cg"
        exact ⟨_, rfl, (by show ¬ (400 : Int) < 0; decide), .refl⟩
      | times x y z =>
        have s0 := b_times hb
        have ct := cost_times (m := m) (z := z) (D := boxD los his) fit.1 fit.2.1
        have wx := wd x fit.1.1 fit.1.2
        have wy := wd y fit.2.1.1 fit.2.1.2
        have lx : (boxD los his x).length ≤ 1001 := by show (rgI _ _).length ≤ _; rw [rgI_len]; omega
        have ly : (boxD los his y).length ≤ 1001 := by show (rgI _ _).length ≤ _; rw [rgI_len]; omega
        have big : ∀ H', 400 < costB m (.times x y z) (boxD los his) → ∀ d, H' d = some (.lst []) → Kp [] H H' → Q (.ref d) H' := fun H' h d e kk => k _ true H' ⟨fun _ => .inl h, fun _ => rfl⟩ (.of e .nil (fun d hd => by cases hd) (by simp)) kk
        walk_at "cg"
        refine ⟨p, q1, q2, m, los, his, x, rfl, Bx, W, fit.1.1, fit.1.2, fun d2 H2 hd2 ed2 k2 => ?_⟩
        have s2 := k2.tup s0
        have ed2 : H2 d2 = some (.lst ((boxD los his x).map V.int)) := ed2
        have lmx : ((boxD los his x).map V.int).length = (boxD los his x).length := List.length_map ..
        generalize boxD los his x = Dx at ct lx ed2 lmx
        walk_at "cg"
        refine if_S (fun g => ?_) (fun g => ?_)
        · rw [if_neg g] at ct
          walk_at "cg"
          refine ⟨p, q1, q2, m, los, his, y, rfl, Bx.kp0 k2, W, fit.2.1.1, fit.2.1.2, fun d3 H3 hd3 ed3 k3 => ?_⟩
          have ed3 : H3 d3 = some (.lst ((boxD los his y).map V.int)) := ed3
          have lmy : ((boxD los his y).map V.int).length = (boxD los his y).length := List.length_map ..
          generalize boxD los his y = Dy at ct ly ed3 lmy
          have cm : CMul ((Dx.map V.int).length : Int) ((Dy.map V.int).length : Int) := .inl ⟨by omega, by omega⟩
          have eq : ((Dx.map V.int).length : Int) * ((Dy.map V.int).length : Int) = costB m (.times x y z) (boxD los his) := by rw [ct, lmx, lmy]
          walk_at "cg"
          rw [eq]
          refine if_S (fun g2 => ?_) (fun g2 => ?_)
          · walk_at "cg"
            rename_i d4 H4 hd4 e4 k4
            exact big H4 g2 d4 e4 (Kp.tr0 k4 (Kp.tr0 k3 k2))
          · walk_at "cg"
            exact ⟨_, rfl, g2, Kp.tr0 k3 k2⟩
        · rw [if_pos (by omega)] at ct
          walk_at "cg"
          refine if_S (fun g2 => ?_) (fun g2 => ?_)
          · walk_at "cg"
            rename_i d4 H4 hd4 e4 k4
            exact big H4 (by rw [ct]; omega) d4 e4 (Kp.tr0 k4 k2)
          · walk_at "cg"
            exact ⟨_, rfl, by rw [ct]; omega, k2⟩
    rintro σ' H2 ⟨x2, rfl, nc, K2⟩
    have Bx2 := Bx.kp0 K2
    walk_at "cg"
    refine ⟨p, q1, q2, q, m, los, his, b, rfl, Bx2, W, wd, bd9, m1, m60, K2.im hb, fit, cnt, fun dP refs H3 eP E3 k3 => ?_⟩
    have K3 := Kp.tr0 k3 K2
    have Bx3 := Bx2.kp0 k3
    have hb3 := K3.im hb
    have sp := supp_iff (los := los) (his := his) fit
    have Ll : (supP m los his b).length ≤ 2000 := Nat.le_trans (List.length_filter_le _ _) (cnt m (Nat.le_refl _))
    have Lm : ∀ pt ∈ supP m los his b, pt.length = m := fun pt hp => (chsL_snd m (Nat.le_refl _) pt (List.mem_filter.mp hp).1).1
    have rl := E3.length
    generalize supP m los his b = L at E3 sp Ll Lm rl
    clear k3 K2 Bx2
    walk_at "cg"
    refine if_S (fun g => ?_) (fun g => ?_)
    · walk_at "cg"
      refine k .non false H3 ⟨fun e => (by cases e), fun h => ?_⟩ (.inl ⟨rfl, rfl⟩) K3
      exact absurd (List.length_eq_zero_iff.mp (by omega)) (sp.mpr (h.resolve_left nc)).1
    have Lne : L ≠ [] := fun e => g (by rw [rl, e]; rfl)
    have hb0 := Bx3.b
    have hl0 := Bx3.l
    walk_at "cg"
    rename_i d H4 hd ed k4
    have bs : Kp [d] H4 H4 := Kp.base fun b hb => by rw [List.mem_singleton] at hb; rw [hb, ed]; trivial
    have fd : H d = none := K3.free0 hd
    have od : V.ref d ∉ refs := E3.off hd
    have E4 := E3.kp0 k4
    have eP4 := k4.get0 eP
    have K4 := Kp.tr0 k4 K3
    have Bx4 := Bx3.kp0 k4
    have hb04 := Bx4.b
    have hl04 := Bx4.l
    have npd : dP ≠ d := ne_newL hd eP
    clear k4 hb0 hl0 Bx3 E3 eP K3 hd
    walk_at "cg"
    refine r_forR (fun i σ' H' => ∃ (rf : List V) (ds : List PyData) (x2 x5 x6 x7 : Option V), σ' = [some (.ref p), some (.ref q), x2, some (.ref dP), some (.ref d), x5, x6, x7] ∧ H' d = some (.lst rf) ∧ ImAll K H' rf ds ∧ (∀ d ∈ ds, Shp 1 d) ∧ (ds = [] ↔ ∀ v ∈ b.vars, v < i → (∃ pt ∈ L, at_ pt v = at_ los v) ∧ ∃ pt ∈ L, at_ pt v = at_ his v) ∧ rf.length ≤ 2 * i ∧ Kp [d] H4 H') ⟨[], [], _, _, _, _, rfl, ed, .nil, (fun d hd => by cases hd), ⟨fun _ v hv h => by have := rng v hv; omega, fun _ => rfl⟩, by simp, bs⟩ ?_ ?_
    · clear bs hb04 hl04
      rintro i σ' H5 hi ⟨rf, ds, x2, x5, x6, x7, rfl, e5, A5, sh5, n5, l5, k5⟩
      have hi : i < m := by omega
      have z0 : (0 : Int) + (i : Int) = i := by omega
      rw [z0]
      have a1 := atS (xs := los) (v := (i : Int)) (by omega) (by rw [W.a]; omega)
      have a2 := atS (xs := his) (v := (i : Int)) (by omega) (by rw [W.b]; omega)
      walk_at "cg"
      rename_i ls H6 hls els k6
      have k64 := Kp.tr0 k6 k5
      have e6 := k6.get0 e5
      have A6 := k6.imAll A5
      have nls : ls ≠ d := ne_newR hls e5
      have els' : H6 ls = some (.lst (([0, 1] : List Int).map V.int)) := els
      clear k5 k6 e5 A5 hls els
      refine r_forLI [0, 1] (fun s σ' H' => ∃ (rf : List V) (ds : List PyData) (x6 x7 : Option V), σ' = [some (.ref p), some (.ref q), x2, some (.ref dP), some (.ref d), some (.int (i : Int)), x6, x7] ∧ H' d = some (.lst rf) ∧ ImAll K H' rf ds ∧ (∀ d ∈ ds, Shp 1 d) ∧ (ds = [] ↔ (∀ v ∈ b.vars, v < i → (∃ pt ∈ L, at_ pt v = at_ los v) ∧ ∃ pt ∈ L, at_ pt v = at_ his v) ∧ ∀ s' ∈ ([0, 1] : List Int).take s, (i : Int) ∈ b.vars → ∃ pt ∈ L, at_ pt i = (if s' = 0 then at_ los i else at_ his i)) ∧ rf.length ≤ 2 * i + s ∧ Kp [d] H6 H') ⟨rf, ds, _, _, rfl, e6, A6, sh5, by rw [n5]; simp, by omega, Kp.base fun b hb => by rw [List.mem_singleton] at hb; rw [hb, e6]; trivial⟩ (fun i σ' H' ⟨_, _, _, _, _, _, _, _, _, _, h⟩ => h.get1 nls els') ?_ ?_
      · clear e6 A6 sh5 n5 l5
        rintro s sd σ' H7 hs ⟨rf, ds, x6, x7, rfl, e7, A7, sh7, n7, l7, k7⟩
        have hs2 : sd = 0 ∨ sd = 1 := by
          have := List.mem_of_getElem? hs
          simpa using this
        have hsl : s < 2 := (List.getElem?_eq_some_iff.mp hs).1
        have ets : ([0, 1] : List Int).take (s + 1) = ([0, 1] : List Int).take s ++ [sd] := by rw [List.take_add_one, hs]; rfl
        have k74 := Kp.tr1 k7 k64
        have K7 := Kp.trN k74 K4 fd
        have rfl7 : rf.length ≤ 200 := by omega
        have stay : ∀ H', Kp [] H7 H' → ∀ x7, ((i : Int) ∈ b.vars → ∃ pt ∈ L, at_ pt i = (if sd = 0 then at_ los i else at_ his i)) → ∃ (rf2 : List V) (ds2 : List PyData) (z6 z7 : Option V), ([some (.ref p), some (.ref q), x2, some (.ref dP), some (.ref d), some (.int (i : Int)), some (.int sd), x7] : St) = [some (.ref p), some (.ref q), x2, some (.ref dP), some (.ref d), some (.int (i : Int)), z6, z7] ∧ H' d = some (.lst rf2) ∧ ImAll K H' rf2 ds2 ∧ (∀ d ∈ ds2, Shp 1 d) ∧ (ds2 = [] ↔ (∀ v ∈ b.vars, v < i → (∃ pt ∈ L, at_ pt v = at_ los v) ∧ ∃ pt ∈ L, at_ pt v = at_ his v) ∧ ∀ s' ∈ ([0, 1] : List Int).take (s + 1), (i : Int) ∈ b.vars → ∃ pt ∈ L, at_ pt i = (if s' = 0 then at_ los i else at_ his i)) ∧ rf2.length ≤ 2 * i + (s + 1) ∧ Kp [d] H6 H' := fun H' k8 x7 h => ⟨rf, ds, _, _, rfl, k8.get0 e7, k8.imAll A7, sh7, by
          rw [n7, ets]
          constructor
          · rintro ⟨h1, h2⟩
            refine ⟨h1, fun s' hs' => ?_⟩
            rcases List.mem_append.mp hs' with h' | h'
            · exact h2 s' h'
            · rw [List.mem_singleton] at h'
              rw [h']
              exact h
          · rintro ⟨h1, h2⟩
            exact ⟨h1, fun s' hs' => h2 s' (List.mem_append_left _ hs')⟩, by omega, Kp.tr0 k8 k7⟩
        walk_at "cg"
        refine ⟨q, b, rfl, K7.im hb, bd, fun lw H8 elw k8 => ?_⟩
        walk_at "cg"
        refine r_inL elw rfl (flat_ints _) (inV_ints _ _) ?_
        walk_at "cg"
        refine if_S (fun g1 => ?_) (fun g1 => ?_)
        · have hin : (i : Int) ∈ b.vars := by first | exact g1 | simpa using g1
          have K8 := Kp.tr0 k8 K7
          have Bx8 := Bx.kp0 K8
          have hb8 := Bx8.b
          obtain ⟨q9, ns9, c1, c2, c3⟩ : ∃ q9 ns, atI [V.ref q1, V.ref q2] sd = some (.ref q9) ∧ H8 q9 = some (.lst (List.map V.int ns)) ∧ atI (ns.map V.int) i = some (.int (if sd = 0 then at_ los i else at_ his i)) := by
            rcases hs2 with rfl | rfl
            · exact ⟨q1, los, rfl, Bx8.l, a1⟩
            · exact ⟨q2, his, rfl, Bx8.h, a2⟩
          have eP8 := k8.get0 (k74.get1 npd eP4)
          have E8 : Els H8 refs L := (E4.kp k74 (fun b hb => by rw [List.mem_singleton] at hb; subst hb; exact od)).kp0 k8
          have e8 := k8.get0 e7
          have A8 := k8.imAll A7
          clear elw
          walk_at "cg"
          refine r_ixL hb8 c1 ?_
          walk_at "cg"
          refine r_ixL c2 c3 ?_
          generalize hyy : (if sd = 0 then at_ los i else at_ his i) = yy at stay
          walk_at "cg"
          refine r_lcL refs (fun D3 j H' => H8 D3 = none ∧ Kp [] H8 H' ∧ H' D3 = some (.lst (((L.take j).map fun pt => at_ pt i).map V.int))) (fun D3 H3 hD3 e3 k3 => ⟨hD3, k3, e3⟩) (fun D3 i H' h => h.2.1.get0 eP8) ?_ ?_
          · rintro D3 j x H9 hx ⟨hD3, k9, e9⟩
            obtain ⟨qp, pt, rfl, hpt, eq⟩ := (E8.kp0 k9).get hx
            have hj : j < refs.length := (List.getElem?_eq_some_iff.mp hx).1
            walk_at "cg"
            refine r_ixL eq (atS (by omega) (by rw [Lm pt (List.mem_of_getElem? hpt)]; omega)) ?_
            refine r_ap e9 (small1e4 (by simp; omega)) fun H10 e10 k10 => ⟨hD3, Kp.trN k10 k9 hD3, ?_⟩
            rw [e10, List.take_add_one, hpt]
            simp
          rintro D3 H9 ⟨hD3, k9, e9⟩
          rw [rl, List.take_length] at e9
          walk_at "cg"
          refine r_inL (b := !decide (yy ∈ L.map fun pt => at_ pt i)) e9 rfl (flat_ints _) (by rw [inV_ints]; rfl) ?_
          have e98 := k9.get0 e8
          have A98 := k9.imAll A8
          walk_at "cg"
          refine if_NS (fun g2 => ?_) (fun g2 => ?_)
          · walk_at "cg"
            rename_i p6 H10 hp6 s6 k10 H11 e11 k11
            refine ⟨_, ds ++ [two i sd], _, _, rfl, e11, (k11.imAll (k10.imAll A98)).snoc (k11.im (two_im s6)), fun d hd => ?_, ?_, by simp; omega, Kp.tr1 k11 (Kp.tr0 k10 (Kp.tr0 k9 (Kp.tr0 k8 k7)))⟩
            · rcases List.mem_append.mp hd with h | h
              · exact sh7 d h
              · rw [List.mem_singleton] at h
                rw [h]
                exact two_shp _ _
            · rw [ets]
              simp only [List.append_eq_nil_iff, List.cons_ne_nil, and_false, false_iff]
              rintro ⟨_, h⟩
              obtain ⟨pt, hp, e⟩ := h sd (List.mem_append_right _ List.mem_cons_self) hin
              rw [hyy] at e
              exact g2 (List.mem_map.mpr ⟨pt, hp, e⟩)
          · walk_at "cg"
            refine stay H9 (Kp.tr0 k9 k8) _ fun _ => ?_
            obtain ⟨pt, hp, e⟩ := List.mem_map.mp g2
            exact ⟨pt, hp, e⟩
        · walk_at "cg"
          exact stay H8 k8 _ fun h => absurd h (by first | exact g1 | simpa using g1)
      · rintro σ' H7 ⟨rf, ds, x6, x7, rfl, e7, A7, sh7, n7, l7, k7⟩
        walk_at "cg"
        refine ⟨rf, ds, _, _, _, _, rfl, e7, A7, sh7, ?_, by rw [show ([0, 1] : List Int).length = 2 from rfl] at l7; omega, Kp.tr1 k7 k64⟩
        rw [n7, show ([0, 1] : List Int).length = 2 from rfl]
        constructor
        · rintro ⟨h1, h2⟩ v hv hvi
          by_cases e : v = i
          · subst e
            have x1 := h2 0 (by simp) hv
            have x2 := h2 1 (by simp) hv
            rw [if_pos rfl] at x1
            rw [if_neg (by decide)] at x2
            exact ⟨x1, x2⟩
          · exact h1 v hv (by omega)
        · intro h
          refine ⟨fun v hv hvi => h v hv (by omega), fun s' hs' hv => ?_⟩
          have hh := h i hv (by omega)
          split
          · exact hh.1
          · exact hh.2
    · rintro σ' H5 ⟨rf, ds, x2, x5, x6, x7, rfl, e5, A5, sh5, n5, l5, k5⟩
      have n5 : ds = [] ↔ (400 < costB m b (boxD los his) ∨ SuppC (canon m b.vars) los his b) := by
        rw [n5]
        constructor
        · intro h
          exact .inr (sp.mp ⟨Lne, fun v hv => h v hv (by have := rng v hv; omega)⟩)
        · intro h v hv _
          exact (sp.mpr (h.resolve_left nc)).2 v hv
      walk_at "cg"
      cases ds with
      | nil => exact k _ true H5 ⟨fun _ => n5.mp rfl, fun _ => rfl⟩ (.of e5 A5 sh5 (by simp)) (Kp.trN k5 K4 fd)
      | cons z zs => exact k _ false H5 ⟨fun e => (by cases e), fun h => (by cases n5.mpr h)⟩ (.of e5 A5 sh5 (by simp)) (Kp.trN k5 K4 fd)

end
section
variable {P : Program} {w : World} {K : PySem.W.Frag} {mg : Str → Option Value} {base : Heap} {C_Model : Addr}
theorem ok_law_bad_body {f : Addr} {fd : FuncData} (F : Fun K "_law_bad_body" "_law_bad_body" s_law_bad_body f fd) (B : Bi K mg) (D_law_bad_supports : Is P w K mg base CX0 5 "_law_bad_supports" ["_law_box_here", "_law_body_here"] (spBadSupp K)) (D_law_bad_all : Is P w K mg base CX0 4 "_law_bad_all" ["_law_box_here", "_law_rows"] (spBadAll K)) (D_law_bad_clause : Is P w K mg base CX0 2 "_law_bad_clause" ["_law_box_here", "_law_clause"] (spBadClause K)) (D_law_bad_when : Is P w K mg base CX0 5 "_law_bad_when" ["_law_box_here", "_law_body_here"] (spBadWhen K)) (D_law_bad_different : Is P w K mg base CX0 1 "_law_bad_different" ["_law_box_here", "_law_numbers"] (spBadDiff K)) (D_law_stated : Is P w K mg base CX0 1 "_law_stated" ["_law_body_here"] (spStated67 K)) : FnOk P w K mg base CX0 6 f fd ["_law_box_here", "_law_body_here"] (spBadBody K) := by
  have nd := sc_law_bad_body.nd
  refine F.ok sc_law_bad_body ?len (fun cdv A outer s H vs Q E hr h => ?body)
  case len =>
    rintro vs H Q E ⟨p, q1, q2, q, m, los, his, b, rfl, _⟩
    rfl
  case body =>
    obtain ⟨p, q1, q2, q, m, los, his, b, rfl, Bx, W, wd, bd9, m1, m60, hb, fit, cnt, k⟩ := h
    refine ⟨_, (pss_cons (ps_if (pt_cmpR op_eq (pe_ix (ixT K) (pv 1) pe_int (fun _ _ => rfl)) pe_str (nomark _))
      (pss_one (ps_ret (pe_is D_law_bad_all (hr.mono (by decide)) rfl pass0 (pa_cons (pv 0) (pa_cons (pe_is D_law_stated (hr.mono (by decide)) rfl pass0 (pa_cons (pv 1) pa_nil)) pa_nil)))))
      pss_nil)
      (pss_cons (ps_if (pt_cmpR op_eq (pe_ix (ixT K) (pv 1) pe_int (fun _ _ => rfl)) pe_str (nomark _))
      (pss_one (ps_ret (pe_is D_law_bad_clause (hr.mono (by decide)) rfl pass0 (pa_cons (pv 0) (pa_cons (pv 1) pa_nil)))))
      pss_nil)
      (pss_cons (ps_if (pt_cmpR op_eq (pe_ix (ixT K) (pv 1) pe_int (fun _ _ => rfl)) pe_str (nomark _))
      (pss_one (ps_ret (pe_is D_law_bad_when (hr.mono (by decide)) rfl pass0 (pa_cons (pv 0) (pa_cons (pv 1) pa_nil)))))
      pss_nil)
      (pss_cons (ps_if (pt_cmpR op_eq (pe_ix (ixT K) (pv 1) pe_int (fun _ _ => rfl)) pe_str (nomark _))
      (pss_one (ps_ret (pe_is D_law_bad_different (hr.mono (by decide)) rfl pass0 (pa_cons (pv 0) (pa_cons (pe_ix (ixT K) (pv 1) pe_int (fun _ _ => rfl)) pa_nil)))))
      pss_nil)
      (pss_one (ps_ret (pe_is D_law_bad_supports (hr.mono (by decide)) rfl pass0 (pa_cons (pv 0) (pa_cons (pv 1) pa_nil))))))))), ?_⟩
    try dsimp only [L2.cxOf, L2.Cx.nox, L2.Cx.wish]
    rw [st_law_bad_body]
    have cl : suppK b = false → (CleanB m los his b ↔ ∀ f ∈ yieldsOf los his b, factE los his f = some []) := fun h => by
      unfold CleanB
      rw [if_neg (by rw [h]; decide)]
    have cs : suppK b = true → (CleanB m los his b ↔ (400 < costB m b (boxD los his) ∨ SuppC (canon m b.vars) los his b)) := fun h => by
      unfold CleanB
      rw [if_pos h]
    cases b with
    | row ts r n =>
      obtain ⟨qt, s0, it⟩ := b_row hb
      walk_at "cg"
      refine ⟨q, ts, r, n, rfl, hb, fit.1.1, fit.2.1, fun lr rr H1 hlr elr Ar k1 => ?_⟩
      walk_at "cg"
      exact ⟨p, q1, q2, lr, m, los, his, rr, rowsOf ts r n, rfl, Bx.kp0 k1, W, wd, elr, Ar, rowsOf_len ts r n, fun f hf => by
        obtain ⟨us, c, rfl⟩ := rowsOf_row hf
        exact ⟨us, c, rfl, rowsOf_W fit.1.tmW _ hf⟩, fun x c H2 hc ro k2 => k x c H2 (hc.trans (cl rfl).symm) ro (Kp.tr0 k2 k1)⟩
    | any ls =>
      obtain ⟨ql, s0, il⟩ := b_any hb
      walk_at "cg"
      refine ⟨p, q1, q2, q, m, los, his, ls, rfl, Bx, W, wd, hb, by have := fit.1.2; omega, fun l hl => ⟨(fit.2.2 l hl).1, (fit.2.2 l hl).2.1⟩, fun x H2 ro k2 => k x _ H2 ?_ ro k2⟩
      rw [cl rfl, decide_eq_true_eq]
      constructor
      · intro h f hf
        have hf : f ∈ [Fact.any ls] := hf
        rw [List.mem_singleton] at hf
        rw [hf]
        exact h
      · intro h
        exact h (.any ls) (List.mem_singleton.mpr rfl)
    | when l ts r n =>
      obtain ⟨ql, qt, s0, L, it⟩ := b_when hb
      walk_at "cg"
      exact ⟨p, q1, q2, q, m, los, his, l, ts, r, n, rfl, Bx, W, wd, hb, fit, fun x c H2 hc ro k2 => k x c H2 (hc.trans (cl rfl).symm) ro k2⟩
    | diff us =>
      obtain ⟨qu, s0, s1⟩ := b_diff hb
      walk_at "cg"
      exact ⟨p, q1, q2, qu, m, los, his, us, rfl, Bx, W, s1, fit.1.2, fit.2.2, fun x c H2 hc ro k2 => k x c H2 (hc.trans ((apart_clean W fit.2.2).symm.trans (cl rfl).symm)) ro k2⟩
    | table us rows =>
      obtain ⟨qu, qr, s0, s1, i2⟩ := b_table hb
      walk_at "cg"
      exact ⟨p, q1, q2, q, m, los, his, _, rfl, Bx, W, wd, bd9, m1, m60, hb, fit, rfl, cnt, fun x c H2 hc ro k2 => k x c H2 (hc.trans (cs rfl).symm) ro k2⟩
    | elem x es y =>
      obtain ⟨qe, s0, s1⟩ := b_elem hb
      walk_at "cg"
      exact ⟨p, q1, q2, q, m, los, his, _, rfl, Bx, W, wd, bd9, m1, m60, hb, fit, rfl, cnt, fun x c H2 hc ro k2 => k x c H2 (hc.trans (cs rfl).symm) ro k2⟩
    | times x y z =>
      have s0 := b_times hb
      walk_at "cg"
      exact ⟨p, q1, q2, q, m, los, his, _, rfl, Bx, W, wd, bd9, m1, m60, hb, fit, rfl, cnt, fun x c H2 hc ro k2 => k x c H2 (hc.trans (cs rfl).symm) ro k2⟩
theorem ok_law_large {f : Addr} {fd : FuncData} (F : Fun K "_law_large" "_law_large" s_law_large f fd) (B : Bi K mg) (D_law_draw : Is P w K mg base CX0 1 "_law_draw" ["_law_tape_here", "_law_many"] spDraw) : FnOk P w K mg base CX0 2 f fd ["_law_tape_here"] (spLarge K) := by
  have nd := sc_law_large.nd
  refine F.ok sc_law_large ?len (fun cdv A outer s H vs Q E hr h => ?body)
  case len =>
    rintro vs H Q E ⟨t, c, rfl, _⟩
    rfl
  case body =>
    obtain ⟨t, c, rfl, T, k⟩ := h
    refine ⟨_, (pss_cons (ps_set (i := 1) nd rfl (Or.inl rfl) (pe_op op_sub (pe_is D_law_draw (hr.mono (by decide)) rfl pass0 (pa_cons (pv 0) (pa_cons pe_int pa_nil))) pe_int))
      (pss_cons (ps_set (i := 2) nd rfl (Or.inl rfl) (pe_op op_add pe_int (pe_is D_law_draw (hr.mono (by decide)) rfl pass0 (pa_cons (pv 0) (pa_cons pe_int pa_nil)))))
      (pss_cons (ps_set (i := 3) nd rfl (Or.inl rfl) (pe_op op_mul (pv 1) (pe_is D_law_draw (hr.mono (by decide)) rfl pass0 (pa_cons (pv 0) (pa_cons pe_int pa_nil)))))
      (pss_cons (ps_set (i := 4) nd rfl (Or.inl rfl) (pe_lst (pa_cons (pe_lst (pa_cons (pv 1) (pa_cons (pe_op op_sub pe_int (pe_is D_law_draw (hr.mono (by decide)) rfl pass0 (pa_cons (pv 0) (pa_cons pe_int pa_nil)))) (pa_cons (pv 3) pa_nil)))) (pa_cons (pe_lst (pa_cons (pe_op op_add (pv 1) pe_int) (pa_cons pe_int (pa_cons (pe_op op_add (pv 3) (pe_is D_law_draw (hr.mono (by decide)) rfl pass0 (pa_cons (pv 0) (pa_cons pe_int pa_nil)))) pa_nil)))) pa_nil))))
      (pss_cons (ps_asg (pe_op op_sub (pe_op op_add (pe_ix (ixL K) (pe_ix (ixL K) (pv 4) pe_int (fun _ _ => rfl)) pe_int (fun _ _ => rfl)) (pv 2)) pe_int) (pg_sub (pe_ix (ixL K) (pv 4) pe_int (fun _ _ => rfl)) pe_int set_list))
      (pss_one (ps_ret (pe_lst (pa_cons (pv 4) (pa_cons (pe_tup (pa_cons pe_str (pa_cons (pe_is D_law_draw (hr.mono (by decide)) rfl pass0 (pa_cons (pv 0) (pa_cons pe_int pa_nil))) (pa_cons pe_int (pa_cons pe_int pa_nil))))) pa_nil)))))))))), ?_⟩
    try dsimp only [L2.cxOf, L2.Cx.nox, L2.Cx.wish]
    rw [st_law_large]
    walk_at "cg"
    intro H9 e9 k9
    rename_i dA HA a0 a1 TA kA dB HB b0 b1 TB kB dC HC c0 c1 TC kC dD HD d0 d1 TD kD pE HE hE eE kE dF HF f0 f1 TF kF pG HG hG eG kG pH HH hH eH kH
    have nEt : pE ≠ t := Tp.nef hE TD
    have nGt : pG ≠ t := Tp.nef hG TF
    have nGc : pG ≠ c := Tp.nefc hG TF
    have nHt : pH ≠ t := Tp.nef hH (TF.kp0 kG)
    have eEF := kF.get1 nEt eE
    have nEG : pE ≠ pG := ne_newL hG eEF
    have nHG : pH ≠ pG := ne_newR hH eG
    have e9E := k9.get1 nEG (kH.get0 (kG.get0 eEF))
    have e9H := k9.get1 nHG eH
    have T9 : Tp t c H9 := Tp.kp1 k9 ((TF.kp0 kG).kp0 kH) nGt.symm nGc.symm
    have l2 : -20 ≤ (dA - 4) * dC ∧ (dA - 4) * dC ≤ 0 := by
      have : dC = 0 ∨ dC = 1 ∨ dC = 2 := by omega
      rcases this with rfl | rfl | rfl <;> omega
    generalize (dA - 4) * dC = m2 at e9E e9 l2
    clear kA kB kC kD kE kF kG kH k9 eE eG eH hE hG hH eEF TA TB TC TD TF T
    walk_at "cg"
    rename_i dI HI i0 i1 TI kI pJ HJ hJ sJ kJ pK HK hK eK kK
    have KI := Kp.tr0 kK (Kp.tr0 kJ kI)
    exact k pK pH pJ pE pG [dA - 4, 0 - dD, m2] [dA - 4 + 19, 0 - dD + (19 + dB) - 1, m2 + dF] dI HK eK ⟨KI.get1 nHt e9H, KI.get1 nEt e9E, KI.get1 nGt e9⟩ (.tup (kK.tup sJ) (.cons (.str _) (.cons (.int _) (.cons (.int _) (.cons (.int _) .nil))))) ⟨by omega, _, _, _, _, _, rfl, rfl, by omega, by omega, by omega, by omega, by omega, by omega, by omega, by omega, by omega, by omega⟩
theorem ok_law {f : Addr} {fd : FuncData} (F : Fun K "law" "law" s_law f fd) (B : Bi K mg) (D_law_tape : Is P w K mg base CX0 1 "_law_tape" ["_law_script"] (spTape K)) (D_law_same : Is P w K mg base CX0 1 "_law_same" ["_law_answer", "_law_due"] spSame) (D_law_draw : Is P w K mg base CX0 1 "_law_draw" ["_law_tape_here", "_law_many"] spDraw) (D_law_large : Is P w K mg base CX0 2 "_law_large" ["_law_tape_here"] (spLarge K)) (D_law_box : Is P w K mg base CX0 2 "_law_box" ["_law_tape_here", "_law_unknowns"] (spBox66 K)) (D_law_body : Is P w K mg base CX0 3 "_law_body" ["_law_tape_here", "_law_many"] (spLawBody K)) (D_body_consistent : Is P w K mg base CX0 7 "body_consistent" ["box", "body"] (spBodyC K)) (D_law_world : Is P w K mg base CX0 4 "_law_world" ["_law_tape_here", "_law_most", "_law_width", "_law_bodies"] (spWorld K)) (D_law_bad_body : Is P w K mg base CX0 6 "_law_bad_body" ["_law_box_here", "_law_body_here"] (spBadBody K)) : FnOk P w K mg base CX0 8 f fd ["_law_script"] (spLaw K) := by
  have nd := sc_law.nd
  refine F.ok sc_law ?len (fun cdv A outer s H vs Q E hr h => ?body)
  case len =>
    rintro vs H Q E ⟨a, ns, rfl, _⟩
    rfl
  case body =>
    obtain ⟨a, ns, rfl, hS, hl, q⟩ := h
    refine ⟨_, (pss_cons (ps_set (i := 1) nd rfl (Or.inl rfl) (pe_is D_law_tape (hr.mono (by decide)) rfl pass0 (pa_cons (pv 0) pa_nil)))
      (Evl.pss_cut (ps_if (pt_cmpR op_eq (pe_is D_law_draw (hr.mono (by decide)) rfl pass0 (pa_cons (pv 1) (pa_cons pe_int pa_nil))) pe_int (nomark _))
      (pss_one (ps_asg (pe_is D_law_large (hr.mono (by decide)) rfl pass0 (pa_cons (pv 1) pa_nil)) (pg_lst (n := 2) rfl (pgs_cons (pg_name (i := 2) nd rfl (Or.inl rfl)) (pgs_cons (pg_name (i := 3) nd rfl (Or.inl rfl)) pgs_nil)))))
      (pss_cons (ps_set (i := 4) nd rfl (Or.inl rfl) (pe_ix (ixL K) (pe_is D_law_world (hr.mono (by decide)) rfl pass0 (pa_cons (pv 1) (pa_cons pe_int (pa_cons pe_int (pa_cons pe_int pa_nil))))) pe_int (fun _ _ => rfl)))
      (pss_cons (ps_set (i := 2) nd rfl (Or.inl rfl) (pe_is D_law_box (hr.mono (by decide)) rfl pass0 (pa_cons (pv 1) (pa_cons (pv 4) pa_nil))))
      (pss_one (ps_set (i := 3) nd rfl (Or.inl rfl) (pe_is D_law_body (hr.mono (by decide)) rfl pass0 (pa_cons (pv 1) (pa_cons (pe_callB (cgLen K) (by rfl) B.n_len PySem.boot_len (pa_cons (pv 4) pa_nil)) pa_nil))))))))
      (pss_cons (ps_set (i := 5) nd rfl (Or.inl rfl) (pe_tup (pa_cons (pe_callTy (cgTuple K) (by rfl) B.n_tuple (by decide +kernel) (pa_cons (pe_ix (ixL K) (pv 2) pe_int (fun _ _ => rfl)) pa_nil)) (pa_cons (pe_callTy (cgTuple K) (by rfl) B.n_tuple (by decide +kernel) (pa_cons (pe_ix (ixL K) (pv 2) pe_int (fun _ _ => rfl)) pa_nil)) pa_nil))))
      (pss_one (ps_ret (pe_is D_law_same (hr.mono (by decide)) rfl pass0 (pa_cons (pe_is D_body_consistent (hr.mono (by decide)) rfl pass0 (pa_cons (pv 5) (pa_cons (pv 3) pa_nil))) (pa_cons (pe_cmpR (eqD K hr) (pe_is D_law_bad_body (hr.mono (by decide)) rfl pass0 (pa_cons (pv 2) (pa_cons (pv 3) pa_nil))) (pe_lst pa_nil) (nomark _)) pa_nil)))))))), ?_⟩
    try dsimp only [L2.cxOf, L2.Cx.nox, L2.Cx.wish]
    rw [st_law]
    walk_at "cg"
    refine ⟨a, ns, rfl, hS, fun t c H1 ht hc T1 k1 => ?_⟩
    walk_at "cg"
    refine ⟨fun σ' H' => ∃ (p q1 q2 pb : Addr) (m : Nat) (los his : List Int) (b : Body) (x : Option V), σ' = [some (.ref a), some (.ref t), some (.ref p), some (.ref pb), x, none] ∧ BxL H' p q1 q2 los his ∧ BodyAt K H' pb b ∧ LawOk m los his b, ?_, ?_⟩
    · walk_at "cg"
      rename_i d2 H2 d20 d21 T2 k2
      refine if_S (fun g => ?_) (fun g => ?_)
      · walk_at "cg"
        refine ⟨t, c, rfl, T2, fun d p pb q1 q2 los his x H3 e3 B3 b3 ok => ?_⟩
        walk_at "cg"
        refine ⟨d, _, rfl, SqL.of e3, rfl, ?_⟩
        walk_at "cg"
        exact ⟨p, q1, q2, pb, 3, los, his, _, _, rfl, B3, b3, ok.law⟩
      · walk_at "cg"
        refine ⟨t, c, 4, 4, 0, rfl, T2, by decide, by decide, by decide, by decide, by decide, by decide, fun wa M H3 W3 ok sm fw T3 k3 => ?_⟩
        obtain ⟨pg, w1, w2⟩ := W3.w
        obtain ⟨r1, w3, w4⟩ := W3.u
        have nut : wa.u ≠ t := Tp.nef (fw wa.u (by simp [WA.all])) T2
        have n1 := ok.n0
        have n4 : M.us.length ≤ 4 := by have := sm.n; omega
        have hrl := mapLenP w4
        have ub : ∀ u ∈ M.us, -2 ≤ u.2.1 ∧ u.2.1 ≤ u.2.2 ∧ u.2.2 ≤ u.2.1 + 3 ∧ u.2.1 ≤ 2 := fun u hu => by
          have s1 := sm.u u hu
          have s2 := (ok.un u hu).2.2
          omega
        clear k1 k2 fw T1 k3
        walk_at "cg"
        refine ⟨t, c, wa.u, r1, M.us, rfl, T3, w3, nut, w4, by omega, (fun u hu => by have := ub u hu; omega), fun p q1 q2 los his H4 B4 fp f1 f2 hlen sd T4 k4 => ?_⟩
        have npt : p ≠ t := Tp.nef fp T3
        have n1t : q1 ≠ t := Tp.nef f1 T3
        have n2t : q2 ≠ t := Tp.nef f2 T3
        have w34 := k4.get1 nut w3
        have bw : ∀ v : Int, 0 ≤ v → v < M.us.length → -2 ≤ at_ los v ∧ at_ los v ≤ at_ his v ∧ at_ his v ≤ at_ los v + 3 ∧ at_ los v ≤ 5 := fun v h0 h1 => by
          obtain ⟨u, hu⟩ : ∃ u, M.us[v.toNat]? = some u := ⟨_, List.getElem?_eq_getElem (by omega)⟩
          have s1 := sd.at hlen hu
          have s2 := ub u (List.mem_of_getElem? hu)
          rw [Int.toNat_of_nonneg h0] at s1
          omega
        have BW : BxW M.us.length los his := ⟨hlen, by rw [← sd.1]; exact hlen, fun v h0 h1 => by have := bw v h0 h1; omega⟩
        have w1' : wd1 M.us.length los his := fun v h0 h1 => by have := bw v h0 h1; omega
        have b1' : bd1 M.us.length los his := fun v h0 h1 => by have := bw v h0 h1; omega
        clear w1 w2 w3 w4 W3 k4 T3 fp f1 f2 sd ub sm ok
        walk_at "cg"
        refine ⟨t, c, _, rfl, T4, by omega, by omega, fun pb b H5 hb fit T5 k5 => ?_⟩
        rw [hrl] at fit
        walk_at "cg"
        refine ⟨p, q1, q2, pb, M.us.length, los, his, b, _, rfl, B4.kp1 k5 npt n1t n2t, hb, BW, w1', b1', n1, by omega, fit, fun i hi => ?_⟩
        have h4 : ∀ v, (boxD los his v).length ≤ 4 := fun v => by
          show (rgI _ _).length ≤ 4
          rw [rgI_len]
          by_cases g : v < M.us.length
          · by_cases g0 : 0 ≤ v
            · have := bw v g0 g
              omega
            · have e1 : at_ los v = at_ los 0 := by unfold at_; rw [show v.toNat = (0 : Int).toNat by omega]
              have e2 : at_ his v = at_ his 0 := by unfold at_; rw [show v.toNat = (0 : Int).toNat by omega]
              have := bw 0 (by omega) (by omega)
              omega
          · have e1 : at_ los v = 0 := by unfold at_; rw [List.getD_eq_getElem?_getD, List.getElem?_eq_none (by rw [BW.a]; omega)]; rfl
            have e2 : at_ his v = 0 := by unfold at_; rw [List.getD_eq_getElem?_getD, List.getElem?_eq_none (by rw [BW.b]; omega)]; rfl
            omega
        have l4 := chsL_len (n := M.us.length) (ws := b.vars) h4 i
        have c4 : (4 : Nat) ^ i ≤ 4 ^ 4 := Nat.pow_le_pow_right (by decide) (by omega)
        have c5 : (4 : Nat) ^ 4 = 256 := by decide
        omega
    rintro σ' H2 ⟨p, q1, q2, pb, m, los, his, b, x, rfl, B2, b2, ok⟩
    have e0 := B2.b
    have e1 := B2.l
    have e2 := B2.h
    walk_at "cg"
    rename_i p4 H4 hp4 s4 k4 p5 H5 hp5 s5 k5 p6 H6 hp6 s6 k6
    have K6 := Kp.tr0 k6 (Kp.tr0 k5 k4)
    have BT : BoxT K H6 p6 p4 p5 los his := ⟨s6, (Kp.tr0 k6 k5).tup s4, k6.tup s5⟩
    have B6 := B2.kp0 K6
    have b6 := K6.im b2
    clear k4 k5 k6 K6 e0 e1 e2 s4 s5 s6 hp4 hp5 hp6 B2 b2
    refine ⟨p6, p4, p5, pb, m, los, his, b, rfl, BT, ok.W, ok.bd, ok.m60, b6, ok.fit, fun c1 H7 h1 k7 => ?_⟩
    walk_at "cg"
    refine ⟨p, q1, q2, pb, m, los, his, b, rfl, B6.kp0 k7, ok.W, ok.wd, ok.bd, ok.m1, ok.m60, k7.im b6, ok.fit, ok.cnt, fun y c2 H8 h2 ro k8 => ?_⟩
    obtain ⟨D, dp, rs⟩ := ro.rs
    have ec : c1 = c2 := Bool.eq_iff_iff.mpr (h1.trans h2.symm)
    clear BT B6 b6 k7 k8 ro
    walk_at "cg"
    rename_i l9 H9 hl9 e9 k9
    refine r_eqRs (Dp.kpD k9 dp) rs e9 ?_
    walk_at "cg"
    rw [decide_eq_true ec]
    exact q _

end
theorem all_mk {l : PySem.W.OpenLaw} {w : World} {K : PySem.W.Frag} {h : Heap} {mg : Str → Option Value} {fa : Addr} (X : K.In h) (G : h.Ns mainGlobals mg) (hfa : mg "law" = some (.ref fa))
    {od_relation_holds an_relation_holds : Option Addr} {sl_relation_holds : Array (Option Value)} {f_relation_holds : Addr} {oc_relation_holds kV_relation_holds dc_relation_holds pm_relation_holds cd_relation_holds ct_relation_holds : Value}
    {od_literal_holds an_literal_holds : Option Addr} {sl_literal_holds : Array (Option Value)} {f_literal_holds : Addr} {oc_literal_holds kV_literal_holds dc_literal_holds pm_literal_holds cd_literal_holds ct_literal_holds : Value}
    {od_negated an_negated : Option Addr} {sl_negated : Array (Option Value)} {f_negated : Addr} {oc_negated kV_negated dc_negated pm_negated cd_negated ct_negated : Value}
    {od_terms_sum an_terms_sum : Option Addr} {sl_terms_sum : Array (Option Value)} {f_terms_sum : Addr} {oc_terms_sum kV_terms_sum dc_terms_sum pm_terms_sum cd_terms_sum ct_terms_sum : Value}
    {od_negated_terms an_negated_terms : Option Addr} {sl_negated_terms : Array (Option Value)} {f_negated_terms : Addr} {oc_negated_terms kV_negated_terms dc_negated_terms pm_negated_terms cd_negated_terms ct_negated_terms : Value}
    {od_rows_of an_rows_of : Option Addr} {sl_rows_of : Array (Option Value)} {f_rows_of : Addr} {oc_rows_of kV_rows_of dc_rows_of pm_rows_of cd_rows_of ct_rows_of : Value}
    {od_unknowns_of an_unknowns_of : Option Addr} {sl_unknowns_of : Array (Option Value)} {f_unknowns_of : Addr} {oc_unknowns_of kV_unknowns_of dc_unknowns_of pm_unknowns_of cd_unknowns_of ct_unknowns_of : Value}
    {od_body_holds an_body_holds : Option Addr} {sl_body_holds : Array (Option Value)} {f_body_holds : Addr} {oc_body_holds kV_body_holds dc_body_holds pm_body_holds cd_body_holds ct_body_holds : Value}
    {od_cost_of an_cost_of : Option Addr} {sl_cost_of : Array (Option Value)} {f_cost_of : Addr} {oc_cost_of kV_cost_of dc_cost_of pm_cost_of cd_cost_of ct_cost_of : Value}
    {od_wider an_wider : Option Addr} {sl_wider : Array (Option Value)} {f_wider : Addr} {oc_wider kV_wider dc_wider pm_wider cd_wider ct_wider : Value}
    {od_all_choices an_all_choices : Option Addr} {sl_all_choices : Array (Option Value)} {f_all_choices : Addr} {oc_all_choices kV_all_choices dc_all_choices pm_all_choices cd_all_choices ct_all_choices : Value}
    {od_with_result an_with_result : Option Addr} {sl_with_result : Array (Option Value)} {f_with_result : Addr} {oc_with_result kV_with_result dc_with_result pm_with_result cd_with_result ct_with_result : Value}
    {od_table_choices an_table_choices : Option Addr} {sl_table_choices : Array (Option Value)} {f_table_choices : Addr} {oc_table_choices kV_table_choices dc_table_choices pm_table_choices cd_table_choices ct_table_choices : Value}
    {od_result_choices an_result_choices : Option Addr} {sl_result_choices : Array (Option Value)} {f_result_choices : Addr} {oc_result_choices kV_result_choices dc_result_choices pm_result_choices cd_result_choices ct_result_choices : Value}
    {od_body_choices an_body_choices : Option Addr} {sl_body_choices : Array (Option Value)} {f_body_choices : Addr} {oc_body_choices kV_body_choices dc_body_choices pm_body_choices cd_body_choices ct_body_choices : Value}
    {od_is_possible an_is_possible : Option Addr} {sl_is_possible : Array (Option Value)} {f_is_possible : Addr} {oc_is_possible kV_is_possible dc_is_possible pm_is_possible cd_is_possible ct_is_possible : Value}
    {od_is_sure an_is_sure : Option Addr} {sl_is_sure : Array (Option Value)} {f_is_sure : Addr} {oc_is_sure kV_is_sure dc_is_sure pm_is_sure cd_is_sure ct_is_sure : Value}
    {od_least_sum an_least_sum : Option Addr} {sl_least_sum : Array (Option Value)} {f_least_sum : Addr} {oc_least_sum kV_least_sum dc_least_sum pm_least_sum cd_least_sum ct_least_sum : Value}
    {od_ends_wanted an_ends_wanted : Option Addr} {sl_ends_wanted : Array (Option Value)} {f_ends_wanted : Addr} {oc_ends_wanted kV_ends_wanted dc_ends_wanted pm_ends_wanted cd_ends_wanted ct_ends_wanted : Value}
    {od_row_ends an_row_ends : Option Addr} {sl_row_ends : Array (Option Value)} {f_row_ends : Addr} {oc_row_ends kV_row_ends dc_row_ends pm_row_ends cd_row_ends ct_row_ends : Value}
    {od_clause_ends an_clause_ends : Option Addr} {sl_clause_ends : Array (Option Value)} {f_clause_ends : Addr} {oc_clause_ends kV_clause_ends dc_clause_ends pm_clause_ends cd_clause_ends ct_clause_ends : Value}
    {od_fact_ends an_fact_ends : Option Addr} {sl_fact_ends : Array (Option Value)} {f_fact_ends : Addr} {oc_fact_ends kV_fact_ends dc_fact_ends pm_fact_ends cd_fact_ends ct_fact_ends : Value}
    {od_when_yields an_when_yields : Option Addr} {sl_when_yields : Array (Option Value)} {f_when_yields : Addr} {oc_when_yields kV_when_yields dc_when_yields pm_when_yields cd_when_yields ct_when_yields : Value}
    {od_apart_yields an_apart_yields : Option Addr} {sl_apart_yields : Array (Option Value)} {f_apart_yields : Addr} {oc_apart_yields kV_apart_yields dc_apart_yields pm_apart_yields cd_apart_yields ct_apart_yields : Value}
    {od_yielded an_yielded : Option Addr} {sl_yielded : Array (Option Value)} {f_yielded : Addr} {oc_yielded kV_yielded dc_yielded pm_yielded cd_yielded ct_yielded : Value}
    {od_support_ends an_support_ends : Option Addr} {sl_support_ends : Array (Option Value)} {f_support_ends : Addr} {oc_support_ends kV_support_ends dc_support_ends pm_support_ends cd_support_ends ct_support_ends : Value}
    {od_is_supported an_is_supported : Option Addr} {sl_is_supported : Array (Option Value)} {f_is_supported : Addr} {oc_is_supported kV_is_supported dc_is_supported pm_is_supported cd_is_supported ct_is_supported : Value}
    {od_body_ends an_body_ends : Option Addr} {sl_body_ends : Array (Option Value)} {f_body_ends : Addr} {oc_body_ends kV_body_ends dc_body_ends pm_body_ends cd_body_ends ct_body_ends : Value}
    {od_body_consistent an_body_consistent : Option Addr} {sl_body_consistent : Array (Option Value)} {f_body_consistent : Addr} {oc_body_consistent kV_body_consistent dc_body_consistent pm_body_consistent cd_body_consistent ct_body_consistent : Value}
    {od_law_draw an_law_draw : Option Addr} {sl_law_draw : Array (Option Value)} {f_law_draw : Addr} {oc_law_draw kV_law_draw dc_law_draw pm_law_draw cd_law_draw ct_law_draw : Value}
    {od_law_tape an_law_tape : Option Addr} {sl_law_tape : Array (Option Value)} {f_law_tape : Addr} {oc_law_tape kV_law_tape dc_law_tape pm_law_tape cd_law_tape ct_law_tape : Value}
    {od_law_terms an_law_terms : Option Addr} {sl_law_terms : Array (Option Value)} {f_law_terms : Addr} {oc_law_terms kV_law_terms dc_law_terms pm_law_terms cd_law_terms ct_law_terms : Value}
    {od_law_literal an_law_literal : Option Addr} {sl_law_literal : Array (Option Value)} {f_law_literal : Addr} {oc_law_literal kV_law_literal dc_law_literal pm_law_literal cd_law_literal ct_law_literal : Value}
    {od_law_some an_law_some : Option Addr} {sl_law_some : Array (Option Value)} {f_law_some : Addr} {oc_law_some kV_law_some dc_law_some pm_law_some cd_law_some ct_law_some : Value}
    {od_law_body an_law_body : Option Addr} {sl_law_body : Array (Option Value)} {f_law_body : Addr} {oc_law_body kV_law_body dc_law_body pm_law_body cd_law_body ct_law_body : Value}
    {od_law_world an_law_world : Option Addr} {sl_law_world : Array (Option Value)} {f_law_world : Addr} {oc_law_world kV_law_world dc_law_world pm_law_world cd_law_world ct_law_world : Value}
    {od_law_rel an_law_rel : Option Addr} {sl_law_rel : Array (Option Value)} {f_law_rel : Addr} {oc_law_rel kV_law_rel dc_law_rel pm_law_rel cd_law_rel ct_law_rel : Value}
    {od_law_sum an_law_sum : Option Addr} {sl_law_sum : Array (Option Value)} {f_law_sum : Addr} {oc_law_sum kV_law_sum dc_law_sum pm_law_sum cd_law_sum ct_law_sum : Value}
    {od_law_lit an_law_lit : Option Addr} {sl_law_lit : Array (Option Value)} {f_law_lit : Addr} {oc_law_lit kV_law_lit dc_law_lit pm_law_lit cd_law_lit ct_law_lit : Value}
    {od_law_holds an_law_holds : Option Addr} {sl_law_holds : Array (Option Value)} {f_law_holds : Addr} {oc_law_holds kV_law_holds dc_law_holds pm_law_holds cd_law_holds ct_law_holds : Value}
    {od_law_negation an_law_negation : Option Addr} {sl_law_negation : Array (Option Value)} {f_law_negation : Addr} {oc_law_negation kV_law_negation dc_law_negation pm_law_negation cd_law_negation ct_law_negation : Value}
    {od_law_written an_law_written : Option Addr} {sl_law_written : Array (Option Value)} {f_law_written : Addr} {oc_law_written kV_law_written dc_law_written pm_law_written cd_law_written ct_law_written : Value}
    {od_law_stated an_law_stated : Option Addr} {sl_law_stated : Array (Option Value)} {f_law_stated : Addr} {oc_law_stated kV_law_stated dc_law_stated pm_law_stated cd_law_stated ct_law_stated : Value}
    {od_law_same an_law_same : Option Addr} {sl_law_same : Array (Option Value)} {f_law_same : Addr} {oc_law_same kV_law_same dc_law_same pm_law_same cd_law_same ct_law_same : Value}
    {od_law_box an_law_box : Option Addr} {sl_law_box : Array (Option Value)} {f_law_box : Addr} {oc_law_box kV_law_box dc_law_box pm_law_box cd_law_box ct_law_box : Value}
    {od_law_values an_law_values : Option Addr} {sl_law_values : Array (Option Value)} {f_law_values : Addr} {oc_law_values kV_law_values dc_law_values pm_law_values cd_law_values ct_law_values : Value}
    {od_law_least an_law_least : Option Addr} {sl_law_least : Array (Option Value)} {f_law_least : Addr} {oc_law_least kV_law_least dc_law_least pm_law_least cd_law_least ct_law_least : Value}
    {od_law_bad_row an_law_bad_row : Option Addr} {sl_law_bad_row : Array (Option Value)} {f_law_bad_row : Addr} {oc_law_bad_row kV_law_bad_row dc_law_bad_row pm_law_bad_row cd_law_bad_row ct_law_bad_row : Value}
    {od_law_bad_all an_law_bad_all : Option Addr} {sl_law_bad_all : Array (Option Value)} {f_law_bad_all : Addr} {oc_law_bad_all kV_law_bad_all dc_law_bad_all pm_law_bad_all cd_law_bad_all ct_law_bad_all : Value}
    {od_law_bad_keep an_law_bad_keep : Option Addr} {sl_law_bad_keep : Array (Option Value)} {f_law_bad_keep : Addr} {oc_law_bad_keep kV_law_bad_keep dc_law_bad_keep pm_law_bad_keep cd_law_bad_keep ct_law_bad_keep : Value}
    {od_law_bad_clause an_law_bad_clause : Option Addr} {sl_law_bad_clause : Array (Option Value)} {f_law_bad_clause : Addr} {oc_law_bad_clause kV_law_bad_clause dc_law_bad_clause pm_law_bad_clause cd_law_bad_clause ct_law_bad_clause : Value}
    {od_law_bad_when an_law_bad_when : Option Addr} {sl_law_bad_when : Array (Option Value)} {f_law_bad_when : Addr} {oc_law_bad_when kV_law_bad_when dc_law_bad_when pm_law_bad_when cd_law_bad_when ct_law_bad_when : Value}
    {od_law_bad_different an_law_bad_different : Option Addr} {sl_law_bad_different : Array (Option Value)} {f_law_bad_different : Addr} {oc_law_bad_different kV_law_bad_different dc_law_bad_different pm_law_bad_different cd_law_bad_different ct_law_bad_different : Value}
    {od_law_supports an_law_supports : Option Addr} {sl_law_supports : Array (Option Value)} {f_law_supports : Addr} {oc_law_supports kV_law_supports dc_law_supports pm_law_supports cd_law_supports ct_law_supports : Value}
    {od_law_bad_supports an_law_bad_supports : Option Addr} {sl_law_bad_supports : Array (Option Value)} {f_law_bad_supports : Addr} {oc_law_bad_supports kV_law_bad_supports dc_law_bad_supports pm_law_bad_supports cd_law_bad_supports ct_law_bad_supports : Value}
    {od_law_bad_body an_law_bad_body : Option Addr} {sl_law_bad_body : Array (Option Value)} {f_law_bad_body : Addr} {oc_law_bad_body kV_law_bad_body dc_law_bad_body pm_law_bad_body cd_law_bad_body ct_law_bad_body : Value}
    {od_law_large an_law_large : Option Addr} {sl_law_large : Array (Option Value)} {f_law_large : Addr} {oc_law_large kV_law_large dc_law_large pm_law_large cd_law_large ct_law_large : Value}
    {od_law an_law : Option Addr} {sl_law : Array (Option Value)} {f_law : Addr} {oc_law kV_law dc_law pm_law cd_law ct_law : Value}
    (a_relation_holds : PySem.W.nsIn K mainGlobals "relation_holds" = some (some (.ref f_relation_holds))) (l_relation_holds : K.lookup f_relation_holds = some ⟨oc_relation_holds, od_relation_holds, .func (PySem.W.fnOf "relation_holds" "relation_holds" (defArgs s_relation_holds) (defBody s_relation_holds) (defScope s_relation_holds) .none kV_relation_holds dc_relation_holds pm_relation_holds an_relation_holds cd_relation_holds ct_relation_holds), sl_relation_holds⟩) (c_relation_holds : PySem.W.codeIn K cd_relation_holds "relation_holds" = true) (k_relation_holds : PySem.W.keepIn K (.ref f_relation_holds) = true)
    (a_literal_holds : PySem.W.nsIn K mainGlobals "literal_holds" = some (some (.ref f_literal_holds))) (l_literal_holds : K.lookup f_literal_holds = some ⟨oc_literal_holds, od_literal_holds, .func (PySem.W.fnOf "literal_holds" "literal_holds" (defArgs s_literal_holds) (defBody s_literal_holds) (defScope s_literal_holds) .none kV_literal_holds dc_literal_holds pm_literal_holds an_literal_holds cd_literal_holds ct_literal_holds), sl_literal_holds⟩) (c_literal_holds : PySem.W.codeIn K cd_literal_holds "literal_holds" = true) (k_literal_holds : PySem.W.keepIn K (.ref f_literal_holds) = true)
    (a_negated : PySem.W.nsIn K mainGlobals "negated" = some (some (.ref f_negated))) (l_negated : K.lookup f_negated = some ⟨oc_negated, od_negated, .func (PySem.W.fnOf "negated" "negated" (defArgs s_negated) (defBody s_negated) (defScope s_negated) .none kV_negated dc_negated pm_negated an_negated cd_negated ct_negated), sl_negated⟩) (c_negated : PySem.W.codeIn K cd_negated "negated" = true) (k_negated : PySem.W.keepIn K (.ref f_negated) = true)
    (a_terms_sum : PySem.W.nsIn K mainGlobals "terms_sum" = some (some (.ref f_terms_sum))) (l_terms_sum : K.lookup f_terms_sum = some ⟨oc_terms_sum, od_terms_sum, .func (PySem.W.fnOf "terms_sum" "terms_sum" (defArgs s_terms_sum) (defBody s_terms_sum) (defScope s_terms_sum) .none kV_terms_sum dc_terms_sum pm_terms_sum an_terms_sum cd_terms_sum ct_terms_sum), sl_terms_sum⟩) (c_terms_sum : PySem.W.codeIn K cd_terms_sum "terms_sum" = true) (k_terms_sum : PySem.W.keepIn K (.ref f_terms_sum) = true)
    (a_negated_terms : PySem.W.nsIn K mainGlobals "negated_terms" = some (some (.ref f_negated_terms))) (l_negated_terms : K.lookup f_negated_terms = some ⟨oc_negated_terms, od_negated_terms, .func (PySem.W.fnOf "negated_terms" "negated_terms" (defArgs s_negated_terms) (defBody s_negated_terms) (defScope s_negated_terms) .none kV_negated_terms dc_negated_terms pm_negated_terms an_negated_terms cd_negated_terms ct_negated_terms), sl_negated_terms⟩) (c_negated_terms : PySem.W.codeIn K cd_negated_terms "negated_terms" = true) (k_negated_terms : PySem.W.keepIn K (.ref f_negated_terms) = true)
    (a_rows_of : PySem.W.nsIn K mainGlobals "rows_of" = some (some (.ref f_rows_of))) (l_rows_of : K.lookup f_rows_of = some ⟨oc_rows_of, od_rows_of, .func (PySem.W.fnOf "rows_of" "rows_of" (defArgs s_rows_of) (defBody s_rows_of) (defScope s_rows_of) .none kV_rows_of dc_rows_of pm_rows_of an_rows_of cd_rows_of ct_rows_of), sl_rows_of⟩) (c_rows_of : PySem.W.codeIn K cd_rows_of "rows_of" = true) (k_rows_of : PySem.W.keepIn K (.ref f_rows_of) = true)
    (a_unknowns_of : PySem.W.nsIn K mainGlobals "unknowns_of" = some (some (.ref f_unknowns_of))) (l_unknowns_of : K.lookup f_unknowns_of = some ⟨oc_unknowns_of, od_unknowns_of, .func (PySem.W.fnOf "unknowns_of" "unknowns_of" (defArgs s_unknowns_of) (defBody s_unknowns_of) (defScope s_unknowns_of) .none kV_unknowns_of dc_unknowns_of pm_unknowns_of an_unknowns_of cd_unknowns_of ct_unknowns_of), sl_unknowns_of⟩) (c_unknowns_of : PySem.W.codeIn K cd_unknowns_of "unknowns_of" = true) (k_unknowns_of : PySem.W.keepIn K (.ref f_unknowns_of) = true)
    (a_body_holds : PySem.W.nsIn K mainGlobals "body_holds" = some (some (.ref f_body_holds))) (l_body_holds : K.lookup f_body_holds = some ⟨oc_body_holds, od_body_holds, .func (PySem.W.fnOf "body_holds" "body_holds" (defArgs s_body_holds) (defBody s_body_holds) (defScope s_body_holds) .none kV_body_holds dc_body_holds pm_body_holds an_body_holds cd_body_holds ct_body_holds), sl_body_holds⟩) (c_body_holds : PySem.W.codeIn K cd_body_holds "body_holds" = true) (k_body_holds : PySem.W.keepIn K (.ref f_body_holds) = true)
    (a_cost_of : PySem.W.nsIn K mainGlobals "cost_of" = some (some (.ref f_cost_of))) (l_cost_of : K.lookup f_cost_of = some ⟨oc_cost_of, od_cost_of, .func (PySem.W.fnOf "cost_of" "cost_of" (defArgs s_cost_of) (defBody s_cost_of) (defScope s_cost_of) .none kV_cost_of dc_cost_of pm_cost_of an_cost_of cd_cost_of ct_cost_of), sl_cost_of⟩) (c_cost_of : PySem.W.codeIn K cd_cost_of "cost_of" = true) (k_cost_of : PySem.W.keepIn K (.ref f_cost_of) = true)
    (a_wider : PySem.W.nsIn K mainGlobals "wider" = some (some (.ref f_wider))) (l_wider : K.lookup f_wider = some ⟨oc_wider, od_wider, .func (PySem.W.fnOf "wider" "wider" (defArgs s_wider) (defBody s_wider) (defScope s_wider) .none kV_wider dc_wider pm_wider an_wider cd_wider ct_wider), sl_wider⟩) (c_wider : PySem.W.codeIn K cd_wider "wider" = true) (k_wider : PySem.W.keepIn K (.ref f_wider) = true)
    (a_all_choices : PySem.W.nsIn K mainGlobals "all_choices" = some (some (.ref f_all_choices))) (l_all_choices : K.lookup f_all_choices = some ⟨oc_all_choices, od_all_choices, .func (PySem.W.fnOf "all_choices" "all_choices" (defArgs s_all_choices) (defBody s_all_choices) (defScope s_all_choices) .none kV_all_choices dc_all_choices pm_all_choices an_all_choices cd_all_choices ct_all_choices), sl_all_choices⟩) (c_all_choices : PySem.W.codeIn K cd_all_choices "all_choices" = true) (k_all_choices : PySem.W.keepIn K (.ref f_all_choices) = true)
    (a_with_result : PySem.W.nsIn K mainGlobals "with_result" = some (some (.ref f_with_result))) (l_with_result : K.lookup f_with_result = some ⟨oc_with_result, od_with_result, .func (PySem.W.fnOf "with_result" "with_result" (defArgs s_with_result) (defBody s_with_result) (defScope s_with_result) .none kV_with_result dc_with_result pm_with_result an_with_result cd_with_result ct_with_result), sl_with_result⟩) (c_with_result : PySem.W.codeIn K cd_with_result "with_result" = true) (k_with_result : PySem.W.keepIn K (.ref f_with_result) = true)
    (a_table_choices : PySem.W.nsIn K mainGlobals "table_choices" = some (some (.ref f_table_choices))) (l_table_choices : K.lookup f_table_choices = some ⟨oc_table_choices, od_table_choices, .func (PySem.W.fnOf "table_choices" "table_choices" (defArgs s_table_choices) (defBody s_table_choices) (defScope s_table_choices) .none kV_table_choices dc_table_choices pm_table_choices an_table_choices cd_table_choices ct_table_choices), sl_table_choices⟩) (c_table_choices : PySem.W.codeIn K cd_table_choices "table_choices" = true) (k_table_choices : PySem.W.keepIn K (.ref f_table_choices) = true)
    (a_result_choices : PySem.W.nsIn K mainGlobals "result_choices" = some (some (.ref f_result_choices))) (l_result_choices : K.lookup f_result_choices = some ⟨oc_result_choices, od_result_choices, .func (PySem.W.fnOf "result_choices" "result_choices" (defArgs s_result_choices) (defBody s_result_choices) (defScope s_result_choices) .none kV_result_choices dc_result_choices pm_result_choices an_result_choices cd_result_choices ct_result_choices), sl_result_choices⟩) (c_result_choices : PySem.W.codeIn K cd_result_choices "result_choices" = true) (k_result_choices : PySem.W.keepIn K (.ref f_result_choices) = true)
    (a_body_choices : PySem.W.nsIn K mainGlobals "body_choices" = some (some (.ref f_body_choices))) (l_body_choices : K.lookup f_body_choices = some ⟨oc_body_choices, od_body_choices, .func (PySem.W.fnOf "body_choices" "body_choices" (defArgs s_body_choices) (defBody s_body_choices) (defScope s_body_choices) .none kV_body_choices dc_body_choices pm_body_choices an_body_choices cd_body_choices ct_body_choices), sl_body_choices⟩) (c_body_choices : PySem.W.codeIn K cd_body_choices "body_choices" = true) (k_body_choices : PySem.W.keepIn K (.ref f_body_choices) = true)
    (a_is_possible : PySem.W.nsIn K mainGlobals "is_possible" = some (some (.ref f_is_possible))) (l_is_possible : K.lookup f_is_possible = some ⟨oc_is_possible, od_is_possible, .func (PySem.W.fnOf "is_possible" "is_possible" (defArgs s_is_possible) (defBody s_is_possible) (defScope s_is_possible) .none kV_is_possible dc_is_possible pm_is_possible an_is_possible cd_is_possible ct_is_possible), sl_is_possible⟩) (c_is_possible : PySem.W.codeIn K cd_is_possible "is_possible" = true) (k_is_possible : PySem.W.keepIn K (.ref f_is_possible) = true)
    (a_is_sure : PySem.W.nsIn K mainGlobals "is_sure" = some (some (.ref f_is_sure))) (l_is_sure : K.lookup f_is_sure = some ⟨oc_is_sure, od_is_sure, .func (PySem.W.fnOf "is_sure" "is_sure" (defArgs s_is_sure) (defBody s_is_sure) (defScope s_is_sure) .none kV_is_sure dc_is_sure pm_is_sure an_is_sure cd_is_sure ct_is_sure), sl_is_sure⟩) (c_is_sure : PySem.W.codeIn K cd_is_sure "is_sure" = true) (k_is_sure : PySem.W.keepIn K (.ref f_is_sure) = true)
    (a_least_sum : PySem.W.nsIn K mainGlobals "least_sum" = some (some (.ref f_least_sum))) (l_least_sum : K.lookup f_least_sum = some ⟨oc_least_sum, od_least_sum, .func (PySem.W.fnOf "least_sum" "least_sum" (defArgs s_least_sum) (defBody s_least_sum) (defScope s_least_sum) .none kV_least_sum dc_least_sum pm_least_sum an_least_sum cd_least_sum ct_least_sum), sl_least_sum⟩) (c_least_sum : PySem.W.codeIn K cd_least_sum "least_sum" = true) (k_least_sum : PySem.W.keepIn K (.ref f_least_sum) = true)
    (a_ends_wanted : PySem.W.nsIn K mainGlobals "ends_wanted" = some (some (.ref f_ends_wanted))) (l_ends_wanted : K.lookup f_ends_wanted = some ⟨oc_ends_wanted, od_ends_wanted, .func (PySem.W.fnOf "ends_wanted" "ends_wanted" (defArgs s_ends_wanted) (defBody s_ends_wanted) (defScope s_ends_wanted) .none kV_ends_wanted dc_ends_wanted pm_ends_wanted an_ends_wanted cd_ends_wanted ct_ends_wanted), sl_ends_wanted⟩) (c_ends_wanted : PySem.W.codeIn K cd_ends_wanted "ends_wanted" = true) (k_ends_wanted : PySem.W.keepIn K (.ref f_ends_wanted) = true)
    (a_row_ends : PySem.W.nsIn K mainGlobals "row_ends" = some (some (.ref f_row_ends))) (l_row_ends : K.lookup f_row_ends = some ⟨oc_row_ends, od_row_ends, .func (PySem.W.fnOf "row_ends" "row_ends" (defArgs s_row_ends) (defBody s_row_ends) (defScope s_row_ends) .none kV_row_ends dc_row_ends pm_row_ends an_row_ends cd_row_ends ct_row_ends), sl_row_ends⟩) (c_row_ends : PySem.W.codeIn K cd_row_ends "row_ends" = true) (k_row_ends : PySem.W.keepIn K (.ref f_row_ends) = true)
    (a_clause_ends : PySem.W.nsIn K mainGlobals "clause_ends" = some (some (.ref f_clause_ends))) (l_clause_ends : K.lookup f_clause_ends = some ⟨oc_clause_ends, od_clause_ends, .func (PySem.W.fnOf "clause_ends" "clause_ends" (defArgs s_clause_ends) (defBody s_clause_ends) (defScope s_clause_ends) .none kV_clause_ends dc_clause_ends pm_clause_ends an_clause_ends cd_clause_ends ct_clause_ends), sl_clause_ends⟩) (c_clause_ends : PySem.W.codeIn K cd_clause_ends "clause_ends" = true) (k_clause_ends : PySem.W.keepIn K (.ref f_clause_ends) = true)
    (a_fact_ends : PySem.W.nsIn K mainGlobals "fact_ends" = some (some (.ref f_fact_ends))) (l_fact_ends : K.lookup f_fact_ends = some ⟨oc_fact_ends, od_fact_ends, .func (PySem.W.fnOf "fact_ends" "fact_ends" (defArgs s_fact_ends) (defBody s_fact_ends) (defScope s_fact_ends) .none kV_fact_ends dc_fact_ends pm_fact_ends an_fact_ends cd_fact_ends ct_fact_ends), sl_fact_ends⟩) (c_fact_ends : PySem.W.codeIn K cd_fact_ends "fact_ends" = true) (k_fact_ends : PySem.W.keepIn K (.ref f_fact_ends) = true)
    (a_when_yields : PySem.W.nsIn K mainGlobals "when_yields" = some (some (.ref f_when_yields))) (l_when_yields : K.lookup f_when_yields = some ⟨oc_when_yields, od_when_yields, .func (PySem.W.fnOf "when_yields" "when_yields" (defArgs s_when_yields) (defBody s_when_yields) (defScope s_when_yields) .none kV_when_yields dc_when_yields pm_when_yields an_when_yields cd_when_yields ct_when_yields), sl_when_yields⟩) (c_when_yields : PySem.W.codeIn K cd_when_yields "when_yields" = true) (k_when_yields : PySem.W.keepIn K (.ref f_when_yields) = true)
    (a_apart_yields : PySem.W.nsIn K mainGlobals "apart_yields" = some (some (.ref f_apart_yields))) (l_apart_yields : K.lookup f_apart_yields = some ⟨oc_apart_yields, od_apart_yields, .func (PySem.W.fnOf "apart_yields" "apart_yields" (defArgs s_apart_yields) (defBody s_apart_yields) (defScope s_apart_yields) .none kV_apart_yields dc_apart_yields pm_apart_yields an_apart_yields cd_apart_yields ct_apart_yields), sl_apart_yields⟩) (c_apart_yields : PySem.W.codeIn K cd_apart_yields "apart_yields" = true) (k_apart_yields : PySem.W.keepIn K (.ref f_apart_yields) = true)
    (a_yielded : PySem.W.nsIn K mainGlobals "yielded" = some (some (.ref f_yielded))) (l_yielded : K.lookup f_yielded = some ⟨oc_yielded, od_yielded, .func (PySem.W.fnOf "yielded" "yielded" (defArgs s_yielded) (defBody s_yielded) (defScope s_yielded) .none kV_yielded dc_yielded pm_yielded an_yielded cd_yielded ct_yielded), sl_yielded⟩) (c_yielded : PySem.W.codeIn K cd_yielded "yielded" = true) (k_yielded : PySem.W.keepIn K (.ref f_yielded) = true)
    (a_support_ends : PySem.W.nsIn K mainGlobals "support_ends" = some (some (.ref f_support_ends))) (l_support_ends : K.lookup f_support_ends = some ⟨oc_support_ends, od_support_ends, .func (PySem.W.fnOf "support_ends" "support_ends" (defArgs s_support_ends) (defBody s_support_ends) (defScope s_support_ends) .none kV_support_ends dc_support_ends pm_support_ends an_support_ends cd_support_ends ct_support_ends), sl_support_ends⟩) (c_support_ends : PySem.W.codeIn K cd_support_ends "support_ends" = true) (k_support_ends : PySem.W.keepIn K (.ref f_support_ends) = true)
    (a_is_supported : PySem.W.nsIn K mainGlobals "is_supported" = some (some (.ref f_is_supported))) (l_is_supported : K.lookup f_is_supported = some ⟨oc_is_supported, od_is_supported, .func (PySem.W.fnOf "is_supported" "is_supported" (defArgs s_is_supported) (defBody s_is_supported) (defScope s_is_supported) .none kV_is_supported dc_is_supported pm_is_supported an_is_supported cd_is_supported ct_is_supported), sl_is_supported⟩) (c_is_supported : PySem.W.codeIn K cd_is_supported "is_supported" = true) (k_is_supported : PySem.W.keepIn K (.ref f_is_supported) = true)
    (a_body_ends : PySem.W.nsIn K mainGlobals "body_ends" = some (some (.ref f_body_ends))) (l_body_ends : K.lookup f_body_ends = some ⟨oc_body_ends, od_body_ends, .func (PySem.W.fnOf "body_ends" "body_ends" (defArgs s_body_ends) (defBody s_body_ends) (defScope s_body_ends) .none kV_body_ends dc_body_ends pm_body_ends an_body_ends cd_body_ends ct_body_ends), sl_body_ends⟩) (c_body_ends : PySem.W.codeIn K cd_body_ends "body_ends" = true) (k_body_ends : PySem.W.keepIn K (.ref f_body_ends) = true)
    (a_body_consistent : PySem.W.nsIn K mainGlobals "body_consistent" = some (some (.ref f_body_consistent))) (l_body_consistent : K.lookup f_body_consistent = some ⟨oc_body_consistent, od_body_consistent, .func (PySem.W.fnOf "body_consistent" "body_consistent" (defArgs s_body_consistent) (defBody s_body_consistent) (defScope s_body_consistent) .none kV_body_consistent dc_body_consistent pm_body_consistent an_body_consistent cd_body_consistent ct_body_consistent), sl_body_consistent⟩) (c_body_consistent : PySem.W.codeIn K cd_body_consistent "body_consistent" = true) (k_body_consistent : PySem.W.keepIn K (.ref f_body_consistent) = true)
    (a_law_draw : PySem.W.nsIn K mainGlobals "_law_draw" = some (some (.ref f_law_draw))) (l_law_draw : K.lookup f_law_draw = some ⟨oc_law_draw, od_law_draw, .func (PySem.W.fnOf "_law_draw" "_law_draw" (defArgs s_law_draw) (defBody s_law_draw) (defScope s_law_draw) .none kV_law_draw dc_law_draw pm_law_draw an_law_draw cd_law_draw ct_law_draw), sl_law_draw⟩) (c_law_draw : PySem.W.codeIn K cd_law_draw "_law_draw" = true) (k_law_draw : PySem.W.keepIn K (.ref f_law_draw) = true)
    (a_law_tape : PySem.W.nsIn K mainGlobals "_law_tape" = some (some (.ref f_law_tape))) (l_law_tape : K.lookup f_law_tape = some ⟨oc_law_tape, od_law_tape, .func (PySem.W.fnOf "_law_tape" "_law_tape" (defArgs s_law_tape) (defBody s_law_tape) (defScope s_law_tape) .none kV_law_tape dc_law_tape pm_law_tape an_law_tape cd_law_tape ct_law_tape), sl_law_tape⟩) (c_law_tape : PySem.W.codeIn K cd_law_tape "_law_tape" = true) (k_law_tape : PySem.W.keepIn K (.ref f_law_tape) = true)
    (a_law_terms : PySem.W.nsIn K mainGlobals "_law_terms" = some (some (.ref f_law_terms))) (l_law_terms : K.lookup f_law_terms = some ⟨oc_law_terms, od_law_terms, .func (PySem.W.fnOf "_law_terms" "_law_terms" (defArgs s_law_terms) (defBody s_law_terms) (defScope s_law_terms) .none kV_law_terms dc_law_terms pm_law_terms an_law_terms cd_law_terms ct_law_terms), sl_law_terms⟩) (c_law_terms : PySem.W.codeIn K cd_law_terms "_law_terms" = true) (k_law_terms : PySem.W.keepIn K (.ref f_law_terms) = true)
    (a_law_literal : PySem.W.nsIn K mainGlobals "_law_literal" = some (some (.ref f_law_literal))) (l_law_literal : K.lookup f_law_literal = some ⟨oc_law_literal, od_law_literal, .func (PySem.W.fnOf "_law_literal" "_law_literal" (defArgs s_law_literal) (defBody s_law_literal) (defScope s_law_literal) .none kV_law_literal dc_law_literal pm_law_literal an_law_literal cd_law_literal ct_law_literal), sl_law_literal⟩) (c_law_literal : PySem.W.codeIn K cd_law_literal "_law_literal" = true) (k_law_literal : PySem.W.keepIn K (.ref f_law_literal) = true)
    (a_law_some : PySem.W.nsIn K mainGlobals "_law_some" = some (some (.ref f_law_some))) (l_law_some : K.lookup f_law_some = some ⟨oc_law_some, od_law_some, .func (PySem.W.fnOf "_law_some" "_law_some" (defArgs s_law_some) (defBody s_law_some) (defScope s_law_some) .none kV_law_some dc_law_some pm_law_some an_law_some cd_law_some ct_law_some), sl_law_some⟩) (c_law_some : PySem.W.codeIn K cd_law_some "_law_some" = true) (k_law_some : PySem.W.keepIn K (.ref f_law_some) = true)
    (a_law_body : PySem.W.nsIn K mainGlobals "_law_body" = some (some (.ref f_law_body))) (l_law_body : K.lookup f_law_body = some ⟨oc_law_body, od_law_body, .func (PySem.W.fnOf "_law_body" "_law_body" (defArgs s_law_body) (defBody s_law_body) (defScope s_law_body) .none kV_law_body dc_law_body pm_law_body an_law_body cd_law_body ct_law_body), sl_law_body⟩) (c_law_body : PySem.W.codeIn K cd_law_body "_law_body" = true) (k_law_body : PySem.W.keepIn K (.ref f_law_body) = true)
    (a_law_world : PySem.W.nsIn K mainGlobals "_law_world" = some (some (.ref f_law_world))) (l_law_world : K.lookup f_law_world = some ⟨oc_law_world, od_law_world, .func (PySem.W.fnOf "_law_world" "_law_world" (defArgs s_law_world) (defBody s_law_world) (defScope s_law_world) .none kV_law_world dc_law_world pm_law_world an_law_world cd_law_world ct_law_world), sl_law_world⟩) (c_law_world : PySem.W.codeIn K cd_law_world "_law_world" = true) (k_law_world : PySem.W.keepIn K (.ref f_law_world) = true)
    (a_law_rel : PySem.W.nsIn K mainGlobals "_law_rel" = some (some (.ref f_law_rel))) (l_law_rel : K.lookup f_law_rel = some ⟨oc_law_rel, od_law_rel, .func (PySem.W.fnOf "_law_rel" "_law_rel" (defArgs s_law_rel) (defBody s_law_rel) (defScope s_law_rel) .none kV_law_rel dc_law_rel pm_law_rel an_law_rel cd_law_rel ct_law_rel), sl_law_rel⟩) (c_law_rel : PySem.W.codeIn K cd_law_rel "_law_rel" = true) (k_law_rel : PySem.W.keepIn K (.ref f_law_rel) = true)
    (a_law_sum : PySem.W.nsIn K mainGlobals "_law_sum" = some (some (.ref f_law_sum))) (l_law_sum : K.lookup f_law_sum = some ⟨oc_law_sum, od_law_sum, .func (PySem.W.fnOf "_law_sum" "_law_sum" (defArgs s_law_sum) (defBody s_law_sum) (defScope s_law_sum) .none kV_law_sum dc_law_sum pm_law_sum an_law_sum cd_law_sum ct_law_sum), sl_law_sum⟩) (c_law_sum : PySem.W.codeIn K cd_law_sum "_law_sum" = true) (k_law_sum : PySem.W.keepIn K (.ref f_law_sum) = true)
    (a_law_lit : PySem.W.nsIn K mainGlobals "_law_lit" = some (some (.ref f_law_lit))) (l_law_lit : K.lookup f_law_lit = some ⟨oc_law_lit, od_law_lit, .func (PySem.W.fnOf "_law_lit" "_law_lit" (defArgs s_law_lit) (defBody s_law_lit) (defScope s_law_lit) .none kV_law_lit dc_law_lit pm_law_lit an_law_lit cd_law_lit ct_law_lit), sl_law_lit⟩) (c_law_lit : PySem.W.codeIn K cd_law_lit "_law_lit" = true) (k_law_lit : PySem.W.keepIn K (.ref f_law_lit) = true)
    (a_law_holds : PySem.W.nsIn K mainGlobals "_law_holds" = some (some (.ref f_law_holds))) (l_law_holds : K.lookup f_law_holds = some ⟨oc_law_holds, od_law_holds, .func (PySem.W.fnOf "_law_holds" "_law_holds" (defArgs s_law_holds) (defBody s_law_holds) (defScope s_law_holds) .none kV_law_holds dc_law_holds pm_law_holds an_law_holds cd_law_holds ct_law_holds), sl_law_holds⟩) (c_law_holds : PySem.W.codeIn K cd_law_holds "_law_holds" = true) (k_law_holds : PySem.W.keepIn K (.ref f_law_holds) = true)
    (a_law_negation : PySem.W.nsIn K mainGlobals "_law_negation" = some (some (.ref f_law_negation))) (l_law_negation : K.lookup f_law_negation = some ⟨oc_law_negation, od_law_negation, .func (PySem.W.fnOf "_law_negation" "_law_negation" (defArgs s_law_negation) (defBody s_law_negation) (defScope s_law_negation) .none kV_law_negation dc_law_negation pm_law_negation an_law_negation cd_law_negation ct_law_negation), sl_law_negation⟩) (c_law_negation : PySem.W.codeIn K cd_law_negation "_law_negation" = true) (k_law_negation : PySem.W.keepIn K (.ref f_law_negation) = true)
    (a_law_written : PySem.W.nsIn K mainGlobals "_law_written" = some (some (.ref f_law_written))) (l_law_written : K.lookup f_law_written = some ⟨oc_law_written, od_law_written, .func (PySem.W.fnOf "_law_written" "_law_written" (defArgs s_law_written) (defBody s_law_written) (defScope s_law_written) .none kV_law_written dc_law_written pm_law_written an_law_written cd_law_written ct_law_written), sl_law_written⟩) (c_law_written : PySem.W.codeIn K cd_law_written "_law_written" = true) (k_law_written : PySem.W.keepIn K (.ref f_law_written) = true)
    (a_law_stated : PySem.W.nsIn K mainGlobals "_law_stated" = some (some (.ref f_law_stated))) (l_law_stated : K.lookup f_law_stated = some ⟨oc_law_stated, od_law_stated, .func (PySem.W.fnOf "_law_stated" "_law_stated" (defArgs s_law_stated) (defBody s_law_stated) (defScope s_law_stated) .none kV_law_stated dc_law_stated pm_law_stated an_law_stated cd_law_stated ct_law_stated), sl_law_stated⟩) (c_law_stated : PySem.W.codeIn K cd_law_stated "_law_stated" = true) (k_law_stated : PySem.W.keepIn K (.ref f_law_stated) = true)
    (a_law_same : PySem.W.nsIn K mainGlobals "_law_same" = some (some (.ref f_law_same))) (l_law_same : K.lookup f_law_same = some ⟨oc_law_same, od_law_same, .func (PySem.W.fnOf "_law_same" "_law_same" (defArgs s_law_same) (defBody s_law_same) (defScope s_law_same) .none kV_law_same dc_law_same pm_law_same an_law_same cd_law_same ct_law_same), sl_law_same⟩) (c_law_same : PySem.W.codeIn K cd_law_same "_law_same" = true) (k_law_same : PySem.W.keepIn K (.ref f_law_same) = true)
    (a_law_box : PySem.W.nsIn K mainGlobals "_law_box" = some (some (.ref f_law_box))) (l_law_box : K.lookup f_law_box = some ⟨oc_law_box, od_law_box, .func (PySem.W.fnOf "_law_box" "_law_box" (defArgs s_law_box) (defBody s_law_box) (defScope s_law_box) .none kV_law_box dc_law_box pm_law_box an_law_box cd_law_box ct_law_box), sl_law_box⟩) (c_law_box : PySem.W.codeIn K cd_law_box "_law_box" = true) (k_law_box : PySem.W.keepIn K (.ref f_law_box) = true)
    (a_law_values : PySem.W.nsIn K mainGlobals "_law_values" = some (some (.ref f_law_values))) (l_law_values : K.lookup f_law_values = some ⟨oc_law_values, od_law_values, .func (PySem.W.fnOf "_law_values" "_law_values" (defArgs s_law_values) (defBody s_law_values) (defScope s_law_values) .none kV_law_values dc_law_values pm_law_values an_law_values cd_law_values ct_law_values), sl_law_values⟩) (c_law_values : PySem.W.codeIn K cd_law_values "_law_values" = true) (k_law_values : PySem.W.keepIn K (.ref f_law_values) = true)
    (a_law_least : PySem.W.nsIn K mainGlobals "_law_least" = some (some (.ref f_law_least))) (l_law_least : K.lookup f_law_least = some ⟨oc_law_least, od_law_least, .func (PySem.W.fnOf "_law_least" "_law_least" (defArgs s_law_least) (defBody s_law_least) (defScope s_law_least) .none kV_law_least dc_law_least pm_law_least an_law_least cd_law_least ct_law_least), sl_law_least⟩) (c_law_least : PySem.W.codeIn K cd_law_least "_law_least" = true) (k_law_least : PySem.W.keepIn K (.ref f_law_least) = true)
    (a_law_bad_row : PySem.W.nsIn K mainGlobals "_law_bad_row" = some (some (.ref f_law_bad_row))) (l_law_bad_row : K.lookup f_law_bad_row = some ⟨oc_law_bad_row, od_law_bad_row, .func (PySem.W.fnOf "_law_bad_row" "_law_bad_row" (defArgs s_law_bad_row) (defBody s_law_bad_row) (defScope s_law_bad_row) .none kV_law_bad_row dc_law_bad_row pm_law_bad_row an_law_bad_row cd_law_bad_row ct_law_bad_row), sl_law_bad_row⟩) (c_law_bad_row : PySem.W.codeIn K cd_law_bad_row "_law_bad_row" = true) (k_law_bad_row : PySem.W.keepIn K (.ref f_law_bad_row) = true)
    (a_law_bad_all : PySem.W.nsIn K mainGlobals "_law_bad_all" = some (some (.ref f_law_bad_all))) (l_law_bad_all : K.lookup f_law_bad_all = some ⟨oc_law_bad_all, od_law_bad_all, .func (PySem.W.fnOf "_law_bad_all" "_law_bad_all" (defArgs s_law_bad_all) (defBody s_law_bad_all) (defScope s_law_bad_all) .none kV_law_bad_all dc_law_bad_all pm_law_bad_all an_law_bad_all cd_law_bad_all ct_law_bad_all), sl_law_bad_all⟩) (c_law_bad_all : PySem.W.codeIn K cd_law_bad_all "_law_bad_all" = true) (k_law_bad_all : PySem.W.keepIn K (.ref f_law_bad_all) = true)
    (a_law_bad_keep : PySem.W.nsIn K mainGlobals "_law_bad_keep" = some (some (.ref f_law_bad_keep))) (l_law_bad_keep : K.lookup f_law_bad_keep = some ⟨oc_law_bad_keep, od_law_bad_keep, .func (PySem.W.fnOf "_law_bad_keep" "_law_bad_keep" (defArgs s_law_bad_keep) (defBody s_law_bad_keep) (defScope s_law_bad_keep) .none kV_law_bad_keep dc_law_bad_keep pm_law_bad_keep an_law_bad_keep cd_law_bad_keep ct_law_bad_keep), sl_law_bad_keep⟩) (c_law_bad_keep : PySem.W.codeIn K cd_law_bad_keep "_law_bad_keep" = true) (k_law_bad_keep : PySem.W.keepIn K (.ref f_law_bad_keep) = true)
    (a_law_bad_clause : PySem.W.nsIn K mainGlobals "_law_bad_clause" = some (some (.ref f_law_bad_clause))) (l_law_bad_clause : K.lookup f_law_bad_clause = some ⟨oc_law_bad_clause, od_law_bad_clause, .func (PySem.W.fnOf "_law_bad_clause" "_law_bad_clause" (defArgs s_law_bad_clause) (defBody s_law_bad_clause) (defScope s_law_bad_clause) .none kV_law_bad_clause dc_law_bad_clause pm_law_bad_clause an_law_bad_clause cd_law_bad_clause ct_law_bad_clause), sl_law_bad_clause⟩) (c_law_bad_clause : PySem.W.codeIn K cd_law_bad_clause "_law_bad_clause" = true) (k_law_bad_clause : PySem.W.keepIn K (.ref f_law_bad_clause) = true)
    (a_law_bad_when : PySem.W.nsIn K mainGlobals "_law_bad_when" = some (some (.ref f_law_bad_when))) (l_law_bad_when : K.lookup f_law_bad_when = some ⟨oc_law_bad_when, od_law_bad_when, .func (PySem.W.fnOf "_law_bad_when" "_law_bad_when" (defArgs s_law_bad_when) (defBody s_law_bad_when) (defScope s_law_bad_when) .none kV_law_bad_when dc_law_bad_when pm_law_bad_when an_law_bad_when cd_law_bad_when ct_law_bad_when), sl_law_bad_when⟩) (c_law_bad_when : PySem.W.codeIn K cd_law_bad_when "_law_bad_when" = true) (k_law_bad_when : PySem.W.keepIn K (.ref f_law_bad_when) = true)
    (a_law_bad_different : PySem.W.nsIn K mainGlobals "_law_bad_different" = some (some (.ref f_law_bad_different))) (l_law_bad_different : K.lookup f_law_bad_different = some ⟨oc_law_bad_different, od_law_bad_different, .func (PySem.W.fnOf "_law_bad_different" "_law_bad_different" (defArgs s_law_bad_different) (defBody s_law_bad_different) (defScope s_law_bad_different) .none kV_law_bad_different dc_law_bad_different pm_law_bad_different an_law_bad_different cd_law_bad_different ct_law_bad_different), sl_law_bad_different⟩) (c_law_bad_different : PySem.W.codeIn K cd_law_bad_different "_law_bad_different" = true) (k_law_bad_different : PySem.W.keepIn K (.ref f_law_bad_different) = true)
    (a_law_supports : PySem.W.nsIn K mainGlobals "_law_supports" = some (some (.ref f_law_supports))) (l_law_supports : K.lookup f_law_supports = some ⟨oc_law_supports, od_law_supports, .func (PySem.W.fnOf "_law_supports" "_law_supports" (defArgs s_law_supports) (defBody s_law_supports) (defScope s_law_supports) .none kV_law_supports dc_law_supports pm_law_supports an_law_supports cd_law_supports ct_law_supports), sl_law_supports⟩) (c_law_supports : PySem.W.codeIn K cd_law_supports "_law_supports" = true) (k_law_supports : PySem.W.keepIn K (.ref f_law_supports) = true)
    (a_law_bad_supports : PySem.W.nsIn K mainGlobals "_law_bad_supports" = some (some (.ref f_law_bad_supports))) (l_law_bad_supports : K.lookup f_law_bad_supports = some ⟨oc_law_bad_supports, od_law_bad_supports, .func (PySem.W.fnOf "_law_bad_supports" "_law_bad_supports" (defArgs s_law_bad_supports) (defBody s_law_bad_supports) (defScope s_law_bad_supports) .none kV_law_bad_supports dc_law_bad_supports pm_law_bad_supports an_law_bad_supports cd_law_bad_supports ct_law_bad_supports), sl_law_bad_supports⟩) (c_law_bad_supports : PySem.W.codeIn K cd_law_bad_supports "_law_bad_supports" = true) (k_law_bad_supports : PySem.W.keepIn K (.ref f_law_bad_supports) = true)
    (a_law_bad_body : PySem.W.nsIn K mainGlobals "_law_bad_body" = some (some (.ref f_law_bad_body))) (l_law_bad_body : K.lookup f_law_bad_body = some ⟨oc_law_bad_body, od_law_bad_body, .func (PySem.W.fnOf "_law_bad_body" "_law_bad_body" (defArgs s_law_bad_body) (defBody s_law_bad_body) (defScope s_law_bad_body) .none kV_law_bad_body dc_law_bad_body pm_law_bad_body an_law_bad_body cd_law_bad_body ct_law_bad_body), sl_law_bad_body⟩) (c_law_bad_body : PySem.W.codeIn K cd_law_bad_body "_law_bad_body" = true) (k_law_bad_body : PySem.W.keepIn K (.ref f_law_bad_body) = true)
    (a_law_large : PySem.W.nsIn K mainGlobals "_law_large" = some (some (.ref f_law_large))) (l_law_large : K.lookup f_law_large = some ⟨oc_law_large, od_law_large, .func (PySem.W.fnOf "_law_large" "_law_large" (defArgs s_law_large) (defBody s_law_large) (defScope s_law_large) .none kV_law_large dc_law_large pm_law_large an_law_large cd_law_large ct_law_large), sl_law_large⟩) (c_law_large : PySem.W.codeIn K cd_law_large "_law_large" = true) (k_law_large : PySem.W.keepIn K (.ref f_law_large) = true)
    (a_law : PySem.W.nsIn K mainGlobals "law" = some (some (.ref f_law))) (l_law : K.lookup f_law = some ⟨oc_law, od_law, .func (PySem.W.fnOf "law" "law" (defArgs s_law) (defBody s_law) (defScope s_law) .none kV_law dc_law pm_law an_law cd_law ct_law), sl_law⟩) (c_law : PySem.W.codeIn K cd_law "law" = true) (k_law : PySem.W.keepIn K (.ref f_law) = true)
    (z_len : PySem.W.nsIn K mainGlobals "len" = some none)
    (z_int : PySem.W.nsIn K mainGlobals "int" = some none)
    (z_list : PySem.W.nsIn K mainGlobals "list" = some none)
    (z_tuple : PySem.W.nsIn K mainGlobals "tuple" = some none)
    (z_range : PySem.W.nsIn K mainGlobals "range" = some none)
    (z_all : PySem.W.nsIn K mainGlobals "all" = some none)
    (z_any : PySem.W.nsIn K mainGlobals "any" = some none)
    (z_isinstance : PySem.W.nsIn K mainGlobals "isinstance" = some none)
    (z_bool : PySem.W.nsIn K mainGlobals "bool" = some none)
    (z_set : PySem.W.nsIn K mainGlobals "set" = some none)
    (z_str : PySem.W.nsIn K mainGlobals "str" = some none)
    (z_sorted : PySem.W.nsIn K mainGlobals "sorted" = some none)
    (z_min : PySem.W.nsIn K mainGlobals "min" = some none)
    (z_max : PySem.W.nsIn K mainGlobals "max" = some none)
    (z_zip : PySem.W.nsIn K mainGlobals "zip" = some none)
    (z_dict : PySem.W.nsIn K mainGlobals "dict" = some none)
    {v_COST_MOST : Value} (g_COST_MOST : PySem.W.nsIn K mainGlobals "COST_MOST" = some (some v_COST_MOST)) (r_COST_MOST : RelV (.int 400) v_COST_MOST)
    : ∃ fd : FuncData, (∀ (s : Shared) (v : Value), BindsTo s fd ⟨[v], []⟩ [("_law_script", v)]) ∧ ∀ base : Heap, K.In base → base.Ns mainGlobals mg → FnOk l.prog w K mg base CX0 8 fa fd ["_law_script"] ((spLaw K)) := by
  have e := hfa.symm.trans (PySem.W.mg_of X G a_law)
  cases e
  have B : Bi K mg := { n_len := PySem.W.mg_none_of X G z_len, n_int := PySem.W.mg_none_of X G z_int, n_list := PySem.W.mg_none_of X G z_list, n_tuple := PySem.W.mg_none_of X G z_tuple, n_range := PySem.W.mg_none_of X G z_range, n_all := PySem.W.mg_none_of X G z_all, n_any := PySem.W.mg_none_of X G z_any, n_isinstance := PySem.W.mg_none_of X G z_isinstance, n_bool := PySem.W.mg_none_of X G z_bool, n_set := PySem.W.mg_none_of X G z_set, n_str := PySem.W.mg_none_of X G z_str, n_sorted := PySem.W.mg_none_of X G z_sorted, n_min := PySem.W.mg_none_of X G z_min, n_max := PySem.W.mg_none_of X G z_max, n_zip := PySem.W.mg_none_of X G z_zip, n_dict := PySem.W.mg_none_of X G z_dict, c_COST_MOST := ⟨_, PySem.W.mg_of X G g_COST_MOST, r_COST_MOST⟩ }
  have F_relation_holds := fun_mk (st := s_relation_holds) l_relation_holds c_relation_holds k_relation_holds
  have b_relation_holds := F_relation_holds.binds (ps := ["relation", "left", "right"]) fun _ _ _ _ _ _ us hl => match us, hl with | [_, _, _], _ => rfl
  have F_literal_holds := fun_mk (st := s_literal_holds) l_literal_holds c_literal_holds k_literal_holds
  have b_literal_holds := F_literal_holds.binds (ps := ["literal", "worth"]) fun _ _ _ _ _ _ us hl => match us, hl with | [_, _], _ => rfl
  have F_negated := fun_mk (st := s_negated) l_negated c_negated k_negated
  have b_negated := F_negated.binds (ps := ["literal"]) fun _ _ _ _ _ _ us hl => match us, hl with | [_], _ => rfl
  have F_terms_sum := fun_mk (st := s_terms_sum) l_terms_sum c_terms_sum k_terms_sum
  have b_terms_sum := F_terms_sum.binds (ps := ["terms", "point"]) fun _ _ _ _ _ _ us hl => match us, hl with | [_, _], _ => rfl
  have F_negated_terms := fun_mk (st := s_negated_terms) l_negated_terms c_negated_terms k_negated_terms
  have b_negated_terms := F_negated_terms.binds (ps := ["terms"]) fun _ _ _ _ _ _ us hl => match us, hl with | [_], _ => rfl
  have F_rows_of := fun_mk (st := s_rows_of) l_rows_of c_rows_of k_rows_of
  have b_rows_of := F_rows_of.binds (ps := ["terms", "relation", "rhs"]) fun _ _ _ _ _ _ us hl => match us, hl with | [_, _, _], _ => rfl
  have F_unknowns_of := fun_mk (st := s_unknowns_of) l_unknowns_of c_unknowns_of k_unknowns_of
  have b_unknowns_of := F_unknowns_of.binds (ps := ["body"]) fun _ _ _ _ _ _ us hl => match us, hl with | [_], _ => rfl
  have F_body_holds := fun_mk (st := s_body_holds) l_body_holds c_body_holds k_body_holds
  have b_body_holds := F_body_holds.binds (ps := ["body", "point"]) fun _ _ _ _ _ _ us hl => match us, hl with | [_, _], _ => rfl
  have F_cost_of := fun_mk (st := s_cost_of) l_cost_of c_cost_of k_cost_of
  have b_cost_of := F_cost_of.binds (ps := ["body", "domains"]) fun _ _ _ _ _ _ us hl => match us, hl with | [_, _], _ => rfl
  have F_wider := fun_mk (st := s_wider) l_wider c_wider k_wider
  have b_wider := F_wider.binds (ps := ["choices", "v", "values"]) fun _ _ _ _ _ _ us hl => match us, hl with | [_, _, _], _ => rfl
  have F_all_choices := fun_mk (st := s_all_choices) l_all_choices c_all_choices k_all_choices
  have b_all_choices := F_all_choices.binds (ps := ["unknowns", "domains"]) fun _ _ _ _ _ _ us hl => match us, hl with | [_, _], _ => rfl
  have F_with_result := fun_mk (st := s_with_result) l_with_result c_with_result k_with_result
  have b_with_result := F_with_result.binds (ps := ["choice", "z", "worth", "domains"]) fun _ _ _ _ _ _ us hl => match us, hl with | [_, _, _, _], _ => rfl
  have F_table_choices := fun_mk (st := s_table_choices) l_table_choices c_table_choices k_table_choices
  have b_table_choices := F_table_choices.binds (ps := ["body", "domains"]) fun _ _ _ _ _ _ us hl => match us, hl with | [_, _], _ => rfl
  have F_result_choices := fun_mk (st := s_result_choices) l_result_choices c_result_choices k_result_choices
  have b_result_choices := F_result_choices.binds (ps := ["body", "domains"]) fun _ _ _ _ _ _ us hl => match us, hl with | [_, _], _ => rfl
  have F_body_choices := fun_mk (st := s_body_choices) l_body_choices c_body_choices k_body_choices
  have b_body_choices := F_body_choices.binds (ps := ["body", "domains"]) fun _ _ _ _ _ _ us hl => match us, hl with | [_, _], _ => rfl
  have F_is_possible := fun_mk (st := s_is_possible) l_is_possible c_is_possible k_is_possible
  have b_is_possible := F_is_possible.binds (ps := ["box", "literal"]) fun _ _ _ _ _ _ us hl => match us, hl with | [_, _], _ => rfl
  have F_is_sure := fun_mk (st := s_is_sure) l_is_sure c_is_sure k_is_sure
  have b_is_sure := F_is_sure.binds (ps := ["box", "literal"]) fun _ _ _ _ _ _ us hl => match us, hl with | [_, _], _ => rfl
  have F_least_sum := fun_mk (st := s_least_sum) l_least_sum c_least_sum k_least_sum
  have b_least_sum := F_least_sum.binds (ps := ["box", "terms"]) fun _ _ _ _ _ _ us hl => match us, hl with | [_, _], _ => rfl
  have F_ends_wanted := fun_mk (st := s_ends_wanted) l_ends_wanted c_ends_wanted k_ends_wanted
  have b_ends_wanted := F_ends_wanted.binds (ps := ["box", "literal"]) fun _ _ _ _ _ _ us hl => match us, hl with | [_, _], _ => rfl
  have F_row_ends := fun_mk (st := s_row_ends) l_row_ends c_row_ends k_row_ends
  have b_row_ends := F_row_ends.binds (ps := ["box", "row"]) fun _ _ _ _ _ _ us hl => match us, hl with | [_, _], _ => rfl
  have F_clause_ends := fun_mk (st := s_clause_ends) l_clause_ends c_clause_ends k_clause_ends
  have b_clause_ends := F_clause_ends.binds (ps := ["box", "clause"]) fun _ _ _ _ _ _ us hl => match us, hl with | [_, _], _ => rfl
  have F_fact_ends := fun_mk (st := s_fact_ends) l_fact_ends c_fact_ends k_fact_ends
  have b_fact_ends := F_fact_ends.binds (ps := ["box", "fact"]) fun _ _ _ _ _ _ us hl => match us, hl with | [_, _], _ => rfl
  have F_when_yields := fun_mk (st := s_when_yields) l_when_yields c_when_yields k_when_yields
  have b_when_yields := F_when_yields.binds (ps := ["box", "body"]) fun _ _ _ _ _ _ us hl => match us, hl with | [_, _], _ => rfl
  have F_apart_yields := fun_mk (st := s_apart_yields) l_apart_yields c_apart_yields k_apart_yields
  have b_apart_yields := F_apart_yields.binds (ps := ["box", "unknowns"]) fun _ _ _ _ _ _ us hl => match us, hl with | [_, _], _ => rfl
  have F_yielded := fun_mk (st := s_yielded) l_yielded c_yielded k_yielded
  have b_yielded := F_yielded.binds (ps := ["box", "body"]) fun _ _ _ _ _ _ us hl => match us, hl with | [_, _], _ => rfl
  have F_support_ends := fun_mk (st := s_support_ends) l_support_ends c_support_ends k_support_ends
  have b_support_ends := F_support_ends.binds (ps := ["box", "body"]) fun _ _ _ _ _ _ us hl => match us, hl with | [_, _], _ => rfl
  have F_is_supported := fun_mk (st := s_is_supported) l_is_supported c_is_supported k_is_supported
  have b_is_supported := F_is_supported.binds (ps := ["body"]) fun _ _ _ _ _ _ us hl => match us, hl with | [_], _ => rfl
  have F_body_ends := fun_mk (st := s_body_ends) l_body_ends c_body_ends k_body_ends
  have b_body_ends := F_body_ends.binds (ps := ["box", "body"]) fun _ _ _ _ _ _ us hl => match us, hl with | [_, _], _ => rfl
  have F_body_consistent := fun_mk (st := s_body_consistent) l_body_consistent c_body_consistent k_body_consistent
  have b_body_consistent := F_body_consistent.binds (ps := ["box", "body"]) fun _ _ _ _ _ _ us hl => match us, hl with | [_, _], _ => rfl
  have F_law_draw := fun_mk (st := s_law_draw) l_law_draw c_law_draw k_law_draw
  have b_law_draw := F_law_draw.binds (ps := ["_law_tape_here", "_law_many"]) fun _ _ _ _ _ _ us hl => match us, hl with | [_, _], _ => rfl
  have F_law_tape := fun_mk (st := s_law_tape) l_law_tape c_law_tape k_law_tape
  have b_law_tape := F_law_tape.binds (ps := ["_law_script"]) fun _ _ _ _ _ _ us hl => match us, hl with | [_], _ => rfl
  have F_law_terms := fun_mk (st := s_law_terms) l_law_terms c_law_terms k_law_terms
  have b_law_terms := F_law_terms.binds (ps := ["_law_tape_here", "_law_many"]) fun _ _ _ _ _ _ us hl => match us, hl with | [_, _], _ => rfl
  have F_law_literal := fun_mk (st := s_law_literal) l_law_literal c_law_literal k_law_literal
  have b_law_literal := F_law_literal.binds (ps := ["_law_tape_here", "_law_many"]) fun _ _ _ _ _ _ us hl => match us, hl with | [_, _], _ => rfl
  have F_law_some := fun_mk (st := s_law_some) l_law_some c_law_some k_law_some
  have b_law_some := F_law_some.binds (ps := ["_law_tape_here", "_law_many", "_law_least_here"]) fun _ _ _ _ _ _ us hl => match us, hl with | [_, _, _], _ => rfl
  have F_law_body := fun_mk (st := s_law_body) l_law_body c_law_body k_law_body
  have b_law_body := F_law_body.binds (ps := ["_law_tape_here", "_law_many"]) fun _ _ _ _ _ _ us hl => match us, hl with | [_, _], _ => rfl
  have F_law_world := fun_mk (st := s_law_world) l_law_world c_law_world k_law_world
  have b_law_world := F_law_world.binds (ps := ["_law_tape_here", "_law_most", "_law_width", "_law_bodies"]) fun _ _ _ _ _ _ us hl => match us, hl with | [_, _, _, _], _ => rfl
  have F_law_rel := fun_mk (st := s_law_rel) l_law_rel c_law_rel k_law_rel
  have b_law_rel := F_law_rel.binds (ps := ["_law_relation", "_law_left", "_law_right"]) fun _ _ _ _ _ _ us hl => match us, hl with | [_, _, _], _ => rfl
  have F_law_sum := fun_mk (st := s_law_sum) l_law_sum c_law_sum k_law_sum
  have b_law_sum := F_law_sum.binds (ps := ["_law_terms_here", "_law_point"]) fun _ _ _ _ _ _ us hl => match us, hl with | [_, _], _ => rfl
  have F_law_lit := fun_mk (st := s_law_lit) l_law_lit c_law_lit k_law_lit
  have b_law_lit := F_law_lit.binds (ps := ["_law_literal_here", "_law_point"]) fun _ _ _ _ _ _ us hl => match us, hl with | [_, _], _ => rfl
  have F_law_holds := fun_mk (st := s_law_holds) l_law_holds c_law_holds k_law_holds
  have b_law_holds := F_law_holds.binds (ps := ["_law_body_here", "_law_point"]) fun _ _ _ _ _ _ us hl => match us, hl with | [_, _], _ => rfl
  have F_law_negation := fun_mk (st := s_law_negation) l_law_negation c_law_negation k_law_negation
  have b_law_negation := F_law_negation.binds (ps := ["_law_fact"]) fun _ _ _ _ _ _ us hl => match us, hl with | [_], _ => rfl
  have F_law_written := fun_mk (st := s_law_written) l_law_written c_law_written k_law_written
  have b_law_written := F_law_written.binds (ps := ["_law_body_here"]) fun _ _ _ _ _ _ us hl => match us, hl with | [_], _ => rfl
  have F_law_stated := fun_mk (st := s_law_stated) l_law_stated c_law_stated k_law_stated
  have b_law_stated := F_law_stated.binds (ps := ["_law_body_here"]) fun _ _ _ _ _ _ us hl => match us, hl with | [_], _ => rfl
  have F_law_same := fun_mk (st := s_law_same) l_law_same c_law_same k_law_same
  have b_law_same := F_law_same.binds (ps := ["_law_answer", "_law_due"]) fun _ _ _ _ _ _ us hl => match us, hl with | [_, _], _ => rfl
  have F_law_box := fun_mk (st := s_law_box) l_law_box c_law_box k_law_box
  have b_law_box := F_law_box.binds (ps := ["_law_tape_here", "_law_unknowns"]) fun _ _ _ _ _ _ us hl => match us, hl with | [_, _], _ => rfl
  have F_law_values := fun_mk (st := s_law_values) l_law_values c_law_values k_law_values
  have b_law_values := F_law_values.binds (ps := ["_law_box_here", "_law_v"]) fun _ _ _ _ _ _ us hl => match us, hl with | [_, _], _ => rfl
  have F_law_least := fun_mk (st := s_law_least) l_law_least c_law_least k_law_least
  have b_law_least := F_law_least.binds (ps := ["_law_box_here", "_law_terms_here"]) fun _ _ _ _ _ _ us hl => match us, hl with | [_, _], _ => rfl
  have F_law_bad_row := fun_mk (st := s_law_bad_row) l_law_bad_row c_law_bad_row k_law_bad_row
  have b_law_bad_row := F_law_bad_row.binds (ps := ["_law_box_here", "_law_row"]) fun _ _ _ _ _ _ us hl => match us, hl with | [_, _], _ => rfl
  have F_law_bad_all := fun_mk (st := s_law_bad_all) l_law_bad_all c_law_bad_all k_law_bad_all
  have b_law_bad_all := F_law_bad_all.binds (ps := ["_law_box_here", "_law_rows"]) fun _ _ _ _ _ _ us hl => match us, hl with | [_, _], _ => rfl
  have F_law_bad_keep := fun_mk (st := s_law_bad_keep) l_law_bad_keep c_law_bad_keep k_law_bad_keep
  have b_law_bad_keep := F_law_bad_keep.binds (ps := ["_law_box_here", "_law_literal_here"]) fun _ _ _ _ _ _ us hl => match us, hl with | [_, _], _ => rfl
  have F_law_bad_clause := fun_mk (st := s_law_bad_clause) l_law_bad_clause c_law_bad_clause k_law_bad_clause
  have b_law_bad_clause := F_law_bad_clause.binds (ps := ["_law_box_here", "_law_clause"]) fun _ _ _ _ _ _ us hl => match us, hl with | [_, _], _ => rfl
  have F_law_bad_when := fun_mk (st := s_law_bad_when) l_law_bad_when c_law_bad_when k_law_bad_when
  have b_law_bad_when := F_law_bad_when.binds (ps := ["_law_box_here", "_law_body_here"]) fun _ _ _ _ _ _ us hl => match us, hl with | [_, _], _ => rfl
  have F_law_bad_different := fun_mk (st := s_law_bad_different) l_law_bad_different c_law_bad_different k_law_bad_different
  have b_law_bad_different := F_law_bad_different.binds (ps := ["_law_box_here", "_law_numbers"]) fun _ _ _ _ _ _ us hl => match us, hl with | [_, _], _ => rfl
  have F_law_supports := fun_mk (st := s_law_supports) l_law_supports c_law_supports k_law_supports
  have b_law_supports := F_law_supports.binds (ps := ["_law_box_here", "_law_body_here"]) fun _ _ _ _ _ _ us hl => match us, hl with | [_, _], _ => rfl
  have F_law_bad_supports := fun_mk (st := s_law_bad_supports) l_law_bad_supports c_law_bad_supports k_law_bad_supports
  have b_law_bad_supports := F_law_bad_supports.binds (ps := ["_law_box_here", "_law_body_here"]) fun _ _ _ _ _ _ us hl => match us, hl with | [_, _], _ => rfl
  have F_law_bad_body := fun_mk (st := s_law_bad_body) l_law_bad_body c_law_bad_body k_law_bad_body
  have b_law_bad_body := F_law_bad_body.binds (ps := ["_law_box_here", "_law_body_here"]) fun _ _ _ _ _ _ us hl => match us, hl with | [_, _], _ => rfl
  have F_law_large := fun_mk (st := s_law_large) l_law_large c_law_large k_law_large
  have b_law_large := F_law_large.binds (ps := ["_law_tape_here"]) fun _ _ _ _ _ _ us hl => match us, hl with | [_], _ => rfl
  refine ⟨PySem.W.fnOf "law" "law" (defArgs s_law) (defBody s_law) (defScope s_law) .none kV_law dc_law pm_law an_law cd_law ct_law, fun s v => .of_eq rfl, fun base _ _ => ?_⟩
  have D_relation_holds : Is l.prog w K mg base CX0 1 "relation_holds" ["relation", "left", "right"] spRel := ⟨_, _, ok_relation_holds F_relation_holds B , PySem.W.mg_of X G a_relation_holds, k_relation_holds, b_relation_holds⟩
  have D_literal_holds : Is l.prog w K mg base CX0 2 "literal_holds" ["literal", "worth"] (spLit K) := ⟨_, _, ok_literal_holds F_literal_holds B D_relation_holds, PySem.W.mg_of X G a_literal_holds, k_literal_holds, b_literal_holds⟩
  have D_negated : Is l.prog w K mg base CX0 1 "negated" ["literal"] (spNeg K) := ⟨_, _, ok_negated F_negated B , PySem.W.mg_of X G a_negated, k_negated, b_negated⟩
  have D_terms_sum : Is l.prog w K mg base CX0 1 "terms_sum" ["terms", "point"] (spSumF K) := ⟨_, _, ok_terms_sum F_terms_sum B , PySem.W.mg_of X G a_terms_sum, k_terms_sum, b_terms_sum⟩
  have D_negated_terms : Is l.prog w K mg base CX0 1 "negated_terms" ["terms"] (spNegT K) := ⟨_, _, ok_negated_terms F_negated_terms B , PySem.W.mg_of X G a_negated_terms, k_negated_terms, b_negated_terms⟩
  have D_rows_of : Is l.prog w K mg base CX0 2 "rows_of" ["terms", "relation", "rhs"] (spRowsOf K) := ⟨_, _, ok_rows_of F_rows_of B D_negated_terms, PySem.W.mg_of X G a_rows_of, k_rows_of, b_rows_of⟩
  have D_unknowns_of : Is l.prog w K mg base CX0 1 "unknowns_of" ["body"] (spUnkn K) := ⟨_, _, ok_unknowns_of F_unknowns_of B , PySem.W.mg_of X G a_unknowns_of, k_unknowns_of, b_unknowns_of⟩
  have D_body_holds : Is l.prog w K mg base CX0 3 "body_holds" ["body", "point"] (spHolds K) := ⟨_, _, ok_body_holds F_body_holds B D_relation_holds D_terms_sum D_literal_holds, PySem.W.mg_of X G a_body_holds, k_body_holds, b_body_holds⟩
  have D_cost_of : Is l.prog w K mg base CX0 2 "cost_of" ["body", "domains"] (spCostOf K) := ⟨_, _, ok_cost_of F_cost_of B D_unknowns_of, PySem.W.mg_of X G a_cost_of, k_cost_of, b_cost_of⟩
  have D_wider : Is l.prog w K mg base CX0 1 "wider" ["choices", "v", "values"] (spWider K) := ⟨_, _, ok_wider F_wider B , PySem.W.mg_of X G a_wider, k_wider, b_wider⟩
  have D_all_choices : Is l.prog w K mg base CX0 2 "all_choices" ["unknowns", "domains"] (spAllCh K) := ⟨_, _, ok_all_choices F_all_choices B D_wider, PySem.W.mg_of X G a_all_choices, k_all_choices, b_all_choices⟩
  have D_with_result : Is l.prog w K mg base CX0 1 "with_result" ["choice", "z", "worth", "domains"] (spWithR K) := ⟨_, _, ok_with_result F_with_result B , PySem.W.mg_of X G a_with_result, k_with_result, b_with_result⟩
  have D_table_choices : Is l.prog w K mg base CX0 1 "table_choices" ["body", "domains"] (spBodyCh K isTab) := ⟨_, _, ok_table_choices F_table_choices B , PySem.W.mg_of X G a_table_choices, k_table_choices, b_table_choices⟩
  have D_result_choices : Is l.prog w K mg base CX0 3 "result_choices" ["body", "domains"] (spBodyCh K isRes) := ⟨_, _, ok_result_choices F_result_choices B D_all_choices D_with_result, PySem.W.mg_of X G a_result_choices, k_result_choices, b_result_choices⟩
  have D_body_choices : Is l.prog w K mg base CX0 4 "body_choices" ["body", "domains"] (spBodyCh K (fun _ => True)) := ⟨_, _, ok_body_choices F_body_choices B D_table_choices D_result_choices D_all_choices D_body_holds D_unknowns_of, PySem.W.mg_of X G a_body_choices, k_body_choices, b_body_choices⟩
  have D_is_possible : Is l.prog w K mg base CX0 1 "is_possible" ["box", "literal"] (spPoss K) := ⟨_, _, ok_is_possible F_is_possible B , PySem.W.mg_of X G a_is_possible, k_is_possible, b_is_possible⟩
  have D_is_sure : Is l.prog w K mg base CX0 2 "is_sure" ["box", "literal"] (spSure K) := ⟨_, _, ok_is_sure F_is_sure B D_is_possible D_negated, PySem.W.mg_of X G a_is_sure, k_is_sure, b_is_sure⟩
  have D_least_sum : Is l.prog w K mg base CX0 1 "least_sum" ["box", "terms"] (spLeastS K) := ⟨_, _, ok_least_sum F_least_sum B , PySem.W.mg_of X G a_least_sum, k_least_sum, b_least_sum⟩
  have D_ends_wanted : Is l.prog w K mg base CX0 1 "ends_wanted" ["box", "literal"] (spEndsW K) := ⟨_, _, ok_ends_wanted F_ends_wanted B , PySem.W.mg_of X G a_ends_wanted, k_ends_wanted, b_ends_wanted⟩
  have D_row_ends : Is l.prog w K mg base CX0 2 "row_ends" ["box", "row"] (spRowE K) := ⟨_, _, ok_row_ends F_row_ends B D_least_sum D_ends_wanted, PySem.W.mg_of X G a_row_ends, k_row_ends, b_row_ends⟩
  have D_clause_ends : Is l.prog w K mg base CX0 2 "clause_ends" ["box", "clause"] (spClauseE K) := ⟨_, _, ok_clause_ends F_clause_ends B D_ends_wanted D_is_possible, PySem.W.mg_of X G a_clause_ends, k_clause_ends, b_clause_ends⟩
  have D_fact_ends : Is l.prog w K mg base CX0 3 "fact_ends" ["box", "fact"] (spFactE K) := ⟨_, _, ok_fact_ends F_fact_ends B D_clause_ends D_row_ends, PySem.W.mg_of X G a_fact_ends, k_fact_ends, b_fact_ends⟩
  have D_when_yields : Is l.prog w K mg base CX0 3 "when_yields" ["box", "body"] (spWhenY K) := ⟨_, _, ok_when_yields F_when_yields B D_rows_of D_is_sure D_least_sum D_negated, PySem.W.mg_of X G a_when_yields, k_when_yields, b_when_yields⟩
  have D_apart_yields : Is l.prog w K mg base CX0 1 "apart_yields" ["box", "unknowns"] (spApartY K) := ⟨_, _, ok_apart_yields F_apart_yields B , PySem.W.mg_of X G a_apart_yields, k_apart_yields, b_apart_yields⟩
  have D_yielded : Is l.prog w K mg base CX0 4 "yielded" ["box", "body"] (spYields K) := ⟨_, _, ok_yielded F_yielded B D_apart_yields D_rows_of D_when_yields, PySem.W.mg_of X G a_yielded, k_yielded, b_yielded⟩
  have D_support_ends : Is l.prog w K mg base CX0 5 "support_ends" ["box", "body"] (spSuppE K) := ⟨_, _, ok_support_ends F_support_ends B D_body_choices D_unknowns_of D_cost_of D_ends_wanted, PySem.W.mg_of X G a_support_ends, k_support_ends, b_support_ends⟩
  have D_is_supported : Is l.prog w K mg base CX0 1 "is_supported" ["body"] (spIsSupp K) := ⟨_, _, ok_is_supported F_is_supported B , PySem.W.mg_of X G a_is_supported, k_is_supported, b_is_supported⟩
  have D_body_ends : Is l.prog w K mg base CX0 6 "body_ends" ["box", "body"] (spBodyE K) := ⟨_, _, ok_body_ends F_body_ends B D_is_supported D_yielded D_support_ends D_fact_ends, PySem.W.mg_of X G a_body_ends, k_body_ends, b_body_ends⟩
  have D_body_consistent : Is l.prog w K mg base CX0 7 "body_consistent" ["box", "body"] (spBodyC K) := ⟨_, _, ok_body_consistent F_body_consistent B D_body_ends, PySem.W.mg_of X G a_body_consistent, k_body_consistent, b_body_consistent⟩
  have D_law_draw : Is l.prog w K mg base CX0 1 "_law_draw" ["_law_tape_here", "_law_many"] spDraw := ⟨_, _, ok_law_draw F_law_draw B , PySem.W.mg_of X G a_law_draw, k_law_draw, b_law_draw⟩
  have D_law_tape : Is l.prog w K mg base CX0 1 "_law_tape" ["_law_script"] (spTape K) := ⟨_, _, ok_law_tape F_law_tape B , PySem.W.mg_of X G a_law_tape, k_law_tape, b_law_tape⟩
  have D_law_terms : Is l.prog w K mg base CX0 2 "_law_terms" ["_law_tape_here", "_law_many"] (spLawTerms K) := ⟨_, _, ok_law_terms F_law_terms B D_law_draw, PySem.W.mg_of X G a_law_terms, k_law_terms, b_law_terms⟩
  have D_law_literal : Is l.prog w K mg base CX0 2 "_law_literal" ["_law_tape_here", "_law_many"] (spLawLiteral K) := ⟨_, _, ok_law_literal F_law_literal B D_law_draw, PySem.W.mg_of X G a_law_literal, k_law_literal, b_law_literal⟩
  have D_law_some : Is l.prog w K mg base CX0 2 "_law_some" ["_law_tape_here", "_law_many", "_law_least_here"] (spLawSome K) := ⟨_, _, ok_law_some F_law_some B D_law_draw, PySem.W.mg_of X G a_law_some, k_law_some, b_law_some⟩
  have D_law_body : Is l.prog w K mg base CX0 3 "_law_body" ["_law_tape_here", "_law_many"] (spLawBody K) := ⟨_, _, ok_law_body F_law_body B D_law_draw D_law_literal D_law_terms D_law_some, PySem.W.mg_of X G a_law_body, k_law_body, b_law_body⟩
  have D_law_world : Is l.prog w K mg base CX0 4 "_law_world" ["_law_tape_here", "_law_most", "_law_width", "_law_bodies"] (spWorld K) := ⟨_, _, ok_law_world F_law_world B D_law_terms D_law_draw D_law_body, PySem.W.mg_of X G a_law_world, k_law_world, b_law_world⟩
  have D_law_rel : Is l.prog w K mg base CX0 1 "_law_rel" ["_law_relation", "_law_left", "_law_right"] spRel := ⟨_, _, ok_law_rel F_law_rel B , PySem.W.mg_of X G a_law_rel, k_law_rel, b_law_rel⟩
  have D_law_sum : Is l.prog w K mg base CX0 1 "_law_sum" ["_law_terms_here", "_law_point"] (spSumF K) := ⟨_, _, ok_law_sum F_law_sum B , PySem.W.mg_of X G a_law_sum, k_law_sum, b_law_sum⟩
  have D_law_lit : Is l.prog w K mg base CX0 2 "_law_lit" ["_law_literal_here", "_law_point"] (spLawLit K) := ⟨_, _, ok_law_lit F_law_lit B D_law_rel, PySem.W.mg_of X G a_law_lit, k_law_lit, b_law_lit⟩
  have D_law_holds : Is l.prog w K mg base CX0 3 "_law_holds" ["_law_body_here", "_law_point"] (spHolds K) := ⟨_, _, ok_law_holds F_law_holds B D_law_rel D_law_sum D_law_lit, PySem.W.mg_of X G a_law_holds, k_law_holds, b_law_holds⟩
  have D_law_negation : Is l.prog w K mg base CX0 1 "_law_negation" ["_law_fact"] (spNegF K) := ⟨_, _, ok_law_negation F_law_negation B , PySem.W.mg_of X G a_law_negation, k_law_negation, b_law_negation⟩
  have D_law_written : Is l.prog w K mg base CX0 1 "_law_written" ["_law_body_here"] (spWritten K) := ⟨_, _, ok_law_written F_law_written B , PySem.W.mg_of X G a_law_written, k_law_written, b_law_written⟩
  have D_law_stated : Is l.prog w K mg base CX0 1 "_law_stated" ["_law_body_here"] (spStated67 K) := ⟨_, _, ok_law_stated F_law_stated B , PySem.W.mg_of X G a_law_stated, k_law_stated, b_law_stated⟩
  have D_law_same : Is l.prog w K mg base CX0 1 "_law_same" ["_law_answer", "_law_due"] spSame := ⟨_, _, ok_law_same F_law_same B , PySem.W.mg_of X G a_law_same, k_law_same, b_law_same⟩
  have D_law_box : Is l.prog w K mg base CX0 2 "_law_box" ["_law_tape_here", "_law_unknowns"] (spBox66 K) := ⟨_, _, ok_law_box F_law_box B D_law_draw, PySem.W.mg_of X G a_law_box, k_law_box, b_law_box⟩
  have D_law_values : Is l.prog w K mg base CX0 1 "_law_values" ["_law_box_here", "_law_v"] (spValues K) := ⟨_, _, ok_law_values F_law_values B , PySem.W.mg_of X G a_law_values, k_law_values, b_law_values⟩
  have D_law_least : Is l.prog w K mg base CX0 2 "_law_least" ["_law_box_here", "_law_terms_here"] (spLLeast66 K) := ⟨_, _, ok_law_least F_law_least B D_law_values, PySem.W.mg_of X G a_law_least, k_law_least, b_law_least⟩
  have D_law_bad_row : Is l.prog w K mg base CX0 3 "_law_bad_row" ["_law_box_here", "_law_row"] (spBadRow K) := ⟨_, _, ok_law_bad_row F_law_bad_row B D_law_least D_law_values, PySem.W.mg_of X G a_law_bad_row, k_law_bad_row, b_law_bad_row⟩
  have D_law_bad_all : Is l.prog w K mg base CX0 4 "_law_bad_all" ["_law_box_here", "_law_rows"] (spBadAll K) := ⟨_, _, ok_law_bad_all F_law_bad_all B D_law_bad_row, PySem.W.mg_of X G a_law_bad_all, k_law_bad_all, b_law_bad_all⟩
  have D_law_bad_keep : Is l.prog w K mg base CX0 1 "_law_bad_keep" ["_law_box_here", "_law_literal_here"] (spBadKeep K) := ⟨_, _, ok_law_bad_keep F_law_bad_keep B , PySem.W.mg_of X G a_law_bad_keep, k_law_bad_keep, b_law_bad_keep⟩
  have D_law_bad_clause : Is l.prog w K mg base CX0 2 "_law_bad_clause" ["_law_box_here", "_law_clause"] (spBadClause K) := ⟨_, _, ok_law_bad_clause F_law_bad_clause B D_law_bad_keep D_law_rel D_law_values, PySem.W.mg_of X G a_law_bad_clause, k_law_bad_clause, b_law_bad_clause⟩
  have D_law_bad_when : Is l.prog w K mg base CX0 5 "_law_bad_when" ["_law_box_here", "_law_body_here"] (spBadWhen K) := ⟨_, _, ok_law_bad_when F_law_bad_when B D_law_stated D_law_bad_all D_law_rel D_law_least D_law_bad_keep D_law_values D_law_negation, PySem.W.mg_of X G a_law_bad_when, k_law_bad_when, b_law_bad_when⟩
  have D_law_bad_different : Is l.prog w K mg base CX0 1 "_law_bad_different" ["_law_box_here", "_law_numbers"] (spBadDiff K) := ⟨_, _, ok_law_bad_different F_law_bad_different B , PySem.W.mg_of X G a_law_bad_different, k_law_bad_different, b_law_bad_different⟩
  have D_law_supports : Is l.prog w K mg base CX0 4 "_law_supports" ["_law_box_here", "_law_body_here"] (spSupports K) := ⟨_, _, ok_law_supports F_law_supports B D_law_written D_law_holds D_law_values, PySem.W.mg_of X G a_law_supports, k_law_supports, b_law_supports⟩
  have D_law_bad_supports : Is l.prog w K mg base CX0 5 "_law_bad_supports" ["_law_box_here", "_law_body_here"] (spBadSupp K) := ⟨_, _, ok_law_bad_supports F_law_bad_supports B D_law_supports D_law_values D_law_written, PySem.W.mg_of X G a_law_bad_supports, k_law_bad_supports, b_law_bad_supports⟩
  have D_law_bad_body : Is l.prog w K mg base CX0 6 "_law_bad_body" ["_law_box_here", "_law_body_here"] (spBadBody K) := ⟨_, _, ok_law_bad_body F_law_bad_body B D_law_bad_supports D_law_bad_all D_law_bad_clause D_law_bad_when D_law_bad_different D_law_stated, PySem.W.mg_of X G a_law_bad_body, k_law_bad_body, b_law_bad_body⟩
  have D_law_large : Is l.prog w K mg base CX0 2 "_law_large" ["_law_tape_here"] (spLarge K) := ⟨_, _, ok_law_large F_law_large B D_law_draw, PySem.W.mg_of X G a_law_large, k_law_large, b_law_large⟩
  exact ok_law (fun_mk (st := s_law) l_law c_law k_law) B D_law_tape D_law_same D_law_draw D_law_large D_law_box D_law_body D_body_consistent D_law_world D_law_bad_body
theorem walk {l : PySem.W.OpenLaw} {q : Program} {loose : List Str} {XP : (Str → Option Value) → Heap → Prop} {YP : World → Heap → Prop} {d : DefRec} {K : Params → PySem.W.Frag} (hn : l.most = some 63) (hdf : d.params.defaults = [])
    (hY : ∀ (w : World) (h : Heap), YP w h → (K w.params).In h)
    (F : ∀ (w : World) (mg : Str → Option Value) (fa : Addr) (h : Heap), (K w.params).In h → h.Ns mainGlobals mg → mg d.name = some (.ref fa) →
      ∃ fd : FuncData, (∀ (s : Shared) (u : Value), BindsTo s fd ⟨[u], []⟩ [("_law_script", u)]) ∧ ∀ base : Heap, (K w.params).In base → base.Ns mainGlobals mg → FnOk l.prog w (K w.params) mg base CX0 8 fa fd ["_law_script"] (spLaw (K w.params))) :
    PySem.W.WalkO q loose XP YP l.row.toRowW d [] (fun f vs => PySem.call f vs) :=
  L2.walk_of (n := 63) (k := 8) (x := "_law_script") (CX := fun _ => CX0) (sp := fun w => spLaw (K w.params)) hn (by decide) hdf ⟨rfl, by decide, by decide⟩ hY F (fun _ _ a ns hl _ hS => ⟨a, ns, rfl, hS, hl, fun _ => rfl⟩) fun _ _ _ _ _ z => z
end CG

open PySem PySem.W PyProof.Rows in
set_option maxRecDepth 100000 in
set_option maxHeartbeats 0 in
theorem PySem.Challenge.cw_commonground_k67_consistent_with_bodies_holds : PySem.Challenge.rw_commonground_k67_consistent_with_bodies.Holds := by
  w_on; o_law; k_head; (case hw => w_witness2)
  k_fill
  refine CG.walk (l := PySem.Challenge.rw_commonground_k67_consistent_with_bodies) rfl rfl (fun w h Y => PySem.W.kIn_of Y) ?F
  case F =>
    intro w mg fa h KX G hmg
    refine' CG.all_mk KX G hmg ?a_relation_holds ?l_relation_holds ?c_relation_holds ?k_relation_holds ?a_literal_holds ?l_literal_holds ?c_literal_holds ?k_literal_holds ?a_negated ?l_negated ?c_negated ?k_negated ?a_terms_sum ?l_terms_sum ?c_terms_sum ?k_terms_sum ?a_negated_terms ?l_negated_terms ?c_negated_terms ?k_negated_terms ?a_rows_of ?l_rows_of ?c_rows_of ?k_rows_of ?a_unknowns_of ?l_unknowns_of ?c_unknowns_of ?k_unknowns_of ?a_body_holds ?l_body_holds ?c_body_holds ?k_body_holds ?a_cost_of ?l_cost_of ?c_cost_of ?k_cost_of ?a_wider ?l_wider ?c_wider ?k_wider ?a_all_choices ?l_all_choices ?c_all_choices ?k_all_choices ?a_with_result ?l_with_result ?c_with_result ?k_with_result ?a_table_choices ?l_table_choices ?c_table_choices ?k_table_choices ?a_result_choices ?l_result_choices ?c_result_choices ?k_result_choices ?a_body_choices ?l_body_choices ?c_body_choices ?k_body_choices ?a_is_possible ?l_is_possible ?c_is_possible ?k_is_possible ?a_is_sure ?l_is_sure ?c_is_sure ?k_is_sure ?a_least_sum ?l_least_sum ?c_least_sum ?k_least_sum ?a_ends_wanted ?l_ends_wanted ?c_ends_wanted ?k_ends_wanted ?a_row_ends ?l_row_ends ?c_row_ends ?k_row_ends ?a_clause_ends ?l_clause_ends ?c_clause_ends ?k_clause_ends ?a_fact_ends ?l_fact_ends ?c_fact_ends ?k_fact_ends ?a_when_yields ?l_when_yields ?c_when_yields ?k_when_yields ?a_apart_yields ?l_apart_yields ?c_apart_yields ?k_apart_yields ?a_yielded ?l_yielded ?c_yielded ?k_yielded ?a_support_ends ?l_support_ends ?c_support_ends ?k_support_ends ?a_is_supported ?l_is_supported ?c_is_supported ?k_is_supported ?a_body_ends ?l_body_ends ?c_body_ends ?k_body_ends ?a_body_consistent ?l_body_consistent ?c_body_consistent ?k_body_consistent ?a_law_draw ?l_law_draw ?c_law_draw ?k_law_draw ?a_law_tape ?l_law_tape ?c_law_tape ?k_law_tape ?a_law_terms ?l_law_terms ?c_law_terms ?k_law_terms ?a_law_literal ?l_law_literal ?c_law_literal ?k_law_literal ?a_law_some ?l_law_some ?c_law_some ?k_law_some ?a_law_body ?l_law_body ?c_law_body ?k_law_body ?a_law_world ?l_law_world ?c_law_world ?k_law_world ?a_law_rel ?l_law_rel ?c_law_rel ?k_law_rel ?a_law_sum ?l_law_sum ?c_law_sum ?k_law_sum ?a_law_lit ?l_law_lit ?c_law_lit ?k_law_lit ?a_law_holds ?l_law_holds ?c_law_holds ?k_law_holds ?a_law_negation ?l_law_negation ?c_law_negation ?k_law_negation ?a_law_written ?l_law_written ?c_law_written ?k_law_written ?a_law_stated ?l_law_stated ?c_law_stated ?k_law_stated ?a_law_same ?l_law_same ?c_law_same ?k_law_same ?a_law_box ?l_law_box ?c_law_box ?k_law_box ?a_law_values ?l_law_values ?c_law_values ?k_law_values ?a_law_least ?l_law_least ?c_law_least ?k_law_least ?a_law_bad_row ?l_law_bad_row ?c_law_bad_row ?k_law_bad_row ?a_law_bad_all ?l_law_bad_all ?c_law_bad_all ?k_law_bad_all ?a_law_bad_keep ?l_law_bad_keep ?c_law_bad_keep ?k_law_bad_keep ?a_law_bad_clause ?l_law_bad_clause ?c_law_bad_clause ?k_law_bad_clause ?a_law_bad_when ?l_law_bad_when ?c_law_bad_when ?k_law_bad_when ?a_law_bad_different ?l_law_bad_different ?c_law_bad_different ?k_law_bad_different ?a_law_supports ?l_law_supports ?c_law_supports ?k_law_supports ?a_law_bad_supports ?l_law_bad_supports ?c_law_bad_supports ?k_law_bad_supports ?a_law_bad_body ?l_law_bad_body ?c_law_bad_body ?k_law_bad_body ?a_law_large ?l_law_large ?c_law_large ?k_law_large ?a_law ?l_law ?c_law ?k_law ?z_len ?z_int ?z_list ?z_tuple ?z_range ?z_all ?z_any ?z_isinstance ?z_bool ?z_set ?z_str ?z_sorted ?z_min ?z_max ?z_zip ?z_dict ?g_COST_MOST ?r_COST_MOST
    (case a_relation_holds => k_is)
    (case l_relation_holds => k_is)
    (case c_relation_holds => k_is)
    (case k_relation_holds => k_is)
    (case a_literal_holds => k_is)
    (case l_literal_holds => k_is)
    (case c_literal_holds => k_is)
    (case k_literal_holds => k_is)
    (case a_negated => k_is)
    (case l_negated => k_is)
    (case c_negated => k_is)
    (case k_negated => k_is)
    (case a_terms_sum => k_is)
    (case l_terms_sum => k_is)
    (case c_terms_sum => k_is)
    (case k_terms_sum => k_is)
    (case a_negated_terms => k_is)
    (case l_negated_terms => k_is)
    (case c_negated_terms => k_is)
    (case k_negated_terms => k_is)
    (case a_rows_of => k_is)
    (case l_rows_of => k_is)
    (case c_rows_of => k_is)
    (case k_rows_of => k_is)
    (case a_unknowns_of => k_is)
    (case l_unknowns_of => k_is)
    (case c_unknowns_of => k_is)
    (case k_unknowns_of => k_is)
    (case a_body_holds => k_is)
    (case l_body_holds => k_is)
    (case c_body_holds => k_is)
    (case k_body_holds => k_is)
    (case a_cost_of => k_is)
    (case l_cost_of => k_is)
    (case c_cost_of => k_is)
    (case k_cost_of => k_is)
    (case a_wider => k_is)
    (case l_wider => k_is)
    (case c_wider => k_is)
    (case k_wider => k_is)
    (case a_all_choices => k_is)
    (case l_all_choices => k_is)
    (case c_all_choices => k_is)
    (case k_all_choices => k_is)
    (case a_with_result => k_is)
    (case l_with_result => k_is)
    (case c_with_result => k_is)
    (case k_with_result => k_is)
    (case a_table_choices => k_is)
    (case l_table_choices => k_is)
    (case c_table_choices => k_is)
    (case k_table_choices => k_is)
    (case a_result_choices => k_is)
    (case l_result_choices => k_is)
    (case c_result_choices => k_is)
    (case k_result_choices => k_is)
    (case a_body_choices => k_is)
    (case l_body_choices => k_is)
    (case c_body_choices => k_is)
    (case k_body_choices => k_is)
    (case a_is_possible => k_is)
    (case l_is_possible => k_is)
    (case c_is_possible => k_is)
    (case k_is_possible => k_is)
    (case a_is_sure => k_is)
    (case l_is_sure => k_is)
    (case c_is_sure => k_is)
    (case k_is_sure => k_is)
    (case a_least_sum => k_is)
    (case l_least_sum => k_is)
    (case c_least_sum => k_is)
    (case k_least_sum => k_is)
    (case a_ends_wanted => k_is)
    (case l_ends_wanted => k_is)
    (case c_ends_wanted => k_is)
    (case k_ends_wanted => k_is)
    (case a_row_ends => k_is)
    (case l_row_ends => k_is)
    (case c_row_ends => k_is)
    (case k_row_ends => k_is)
    (case a_clause_ends => k_is)
    (case l_clause_ends => k_is)
    (case c_clause_ends => k_is)
    (case k_clause_ends => k_is)
    (case a_fact_ends => k_is)
    (case l_fact_ends => k_is)
    (case c_fact_ends => k_is)
    (case k_fact_ends => k_is)
    (case a_when_yields => k_is)
    (case l_when_yields => k_is)
    (case c_when_yields => k_is)
    (case k_when_yields => k_is)
    (case a_apart_yields => k_is)
    (case l_apart_yields => k_is)
    (case c_apart_yields => k_is)
    (case k_apart_yields => k_is)
    (case a_yielded => k_is)
    (case l_yielded => k_is)
    (case c_yielded => k_is)
    (case k_yielded => k_is)
    (case a_support_ends => k_is)
    (case l_support_ends => k_is)
    (case c_support_ends => k_is)
    (case k_support_ends => k_is)
    (case a_is_supported => k_is)
    (case l_is_supported => k_is)
    (case c_is_supported => k_is)
    (case k_is_supported => k_is)
    (case a_body_ends => k_is)
    (case l_body_ends => k_is)
    (case c_body_ends => k_is)
    (case k_body_ends => k_is)
    (case a_body_consistent => k_is)
    (case l_body_consistent => k_is)
    (case c_body_consistent => k_is)
    (case k_body_consistent => k_is)
    (case a_law_draw => k_is)
    (case l_law_draw => k_is)
    (case c_law_draw => k_is)
    (case k_law_draw => k_is)
    (case a_law_tape => k_is)
    (case l_law_tape => k_is)
    (case c_law_tape => k_is)
    (case k_law_tape => k_is)
    (case a_law_terms => k_is)
    (case l_law_terms => k_is)
    (case c_law_terms => k_is)
    (case k_law_terms => k_is)
    (case a_law_literal => k_is)
    (case l_law_literal => k_is)
    (case c_law_literal => k_is)
    (case k_law_literal => k_is)
    (case a_law_some => k_is)
    (case l_law_some => k_is)
    (case c_law_some => k_is)
    (case k_law_some => k_is)
    (case a_law_body => k_is)
    (case l_law_body => k_is)
    (case c_law_body => k_is)
    (case k_law_body => k_is)
    (case a_law_world => k_is)
    (case l_law_world => k_is)
    (case c_law_world => k_is)
    (case k_law_world => k_is)
    (case a_law_rel => k_is)
    (case l_law_rel => k_is)
    (case c_law_rel => k_is)
    (case k_law_rel => k_is)
    (case a_law_sum => k_is)
    (case l_law_sum => k_is)
    (case c_law_sum => k_is)
    (case k_law_sum => k_is)
    (case a_law_lit => k_is)
    (case l_law_lit => k_is)
    (case c_law_lit => k_is)
    (case k_law_lit => k_is)
    (case a_law_holds => k_is)
    (case l_law_holds => k_is)
    (case c_law_holds => k_is)
    (case k_law_holds => k_is)
    (case a_law_negation => k_is)
    (case l_law_negation => k_is)
    (case c_law_negation => k_is)
    (case k_law_negation => k_is)
    (case a_law_written => k_is)
    (case l_law_written => k_is)
    (case c_law_written => k_is)
    (case k_law_written => k_is)
    (case a_law_stated => k_is)
    (case l_law_stated => k_is)
    (case c_law_stated => k_is)
    (case k_law_stated => k_is)
    (case a_law_same => k_is)
    (case l_law_same => k_is)
    (case c_law_same => k_is)
    (case k_law_same => k_is)
    (case a_law_box => k_is)
    (case l_law_box => k_is)
    (case c_law_box => k_is)
    (case k_law_box => k_is)
    (case a_law_values => k_is)
    (case l_law_values => k_is)
    (case c_law_values => k_is)
    (case k_law_values => k_is)
    (case a_law_least => k_is)
    (case l_law_least => k_is)
    (case c_law_least => k_is)
    (case k_law_least => k_is)
    (case a_law_bad_row => k_is)
    (case l_law_bad_row => k_is)
    (case c_law_bad_row => k_is)
    (case k_law_bad_row => k_is)
    (case a_law_bad_all => k_is)
    (case l_law_bad_all => k_is)
    (case c_law_bad_all => k_is)
    (case k_law_bad_all => k_is)
    (case a_law_bad_keep => k_is)
    (case l_law_bad_keep => k_is)
    (case c_law_bad_keep => k_is)
    (case k_law_bad_keep => k_is)
    (case a_law_bad_clause => k_is)
    (case l_law_bad_clause => k_is)
    (case c_law_bad_clause => k_is)
    (case k_law_bad_clause => k_is)
    (case a_law_bad_when => k_is)
    (case l_law_bad_when => k_is)
    (case c_law_bad_when => k_is)
    (case k_law_bad_when => k_is)
    (case a_law_bad_different => k_is)
    (case l_law_bad_different => k_is)
    (case c_law_bad_different => k_is)
    (case k_law_bad_different => k_is)
    (case a_law_supports => k_is)
    (case l_law_supports => k_is)
    (case c_law_supports => k_is)
    (case k_law_supports => k_is)
    (case a_law_bad_supports => k_is)
    (case l_law_bad_supports => k_is)
    (case c_law_bad_supports => k_is)
    (case k_law_bad_supports => k_is)
    (case a_law_bad_body => k_is)
    (case l_law_bad_body => k_is)
    (case c_law_bad_body => k_is)
    (case k_law_bad_body => k_is)
    (case a_law_large => k_is)
    (case l_law_large => k_is)
    (case c_law_large => k_is)
    (case k_law_large => k_is)
    (case a_law => k_is)
    (case l_law => k_is)
    (case c_law => k_is)
    (case k_law => k_is)
    (case z_len => k_is)
    (case z_int => k_is)
    (case z_list => k_is)
    (case z_tuple => k_is)
    (case z_range => k_is)
    (case z_all => k_is)
    (case z_any => k_is)
    (case z_isinstance => k_is)
    (case z_bool => k_is)
    (case z_set => k_is)
    (case z_str => k_is)
    (case z_sorted => k_is)
    (case z_min => k_is)
    (case z_max => k_is)
    (case z_zip => k_is)
    (case z_dict => k_is)
    (case g_COST_MOST => k_is)
    (case r_COST_MOST => first | rfl | exact ⟨_, rfl⟩)
#print axioms PySem.Challenge.cw_commonground_k67_consistent_with_bodies_holds
