import PyProof.Rows.All
import Wide.All
import OpenK.AllK
import Wide.FinOn
import HandS.ForMost
import HandS.Wide
import HandS.IsInst
import HandS.Evl
import HandS.Walk
import HandS.Conv
import HandS.Deep
import HandS.More
import HandS.SetFor
import HandS.Strs
import PySem.Challenge.RW_commonground_k13_facts_and_their_forms
set_option Elab.async false
set_option linter.all false
set_option maxRecDepth 100000
set_option maxHeartbeats 4000000

/-! ### ground: calls by a bundle, frames, step rules -/
namespace CG
open PySem L2

structure Is (P : Program) (w : World) (K : PySem.W.Frag) (mg : Str → Option Value) (base : Heap) (CX : CXT) (k : Nat) (x : Str) (ps : List Str) (sp : Sp) : Prop where
  ex : ∃ (f : Addr) (fd : FuncData), FnOk P w K mg base CX k f fd ps sp ∧ mg x = some (.ref f) ∧ PySem.W.keepIn K (.ref f) = true ∧ Binds K fd ps []

def tCl (sp : Sp) (E : XK) (t : TA) : TE := fun σ H Q => t σ H fun vs H1 => sp vs H1 Q E
section
variable {X : Cx} {CX : CXT} {k : Nat} {x : Str} {ps : List Str} {sp : Sp} {E : XK} {t : TA} {p pos : Pos} {e : Expr} {es : List Expr}
theorem pe_is (D : Is X.prog X.w X.K X.mg X.base CX k x ps sp) (hr : Room k X.A) (hg : Gl X x) (hx : Passes CX X E) (ha : PA X (e :: es) t) (hdb : (x == ("__debug__" : Str)) = false := by decide)
    (he : starEach (e :: es) X.env = (false, eval e X.env) :: starEach es X.env := by rfl) (hpl : (backTo pos (starEach es X.env)).any (·.1) = false := by rfl) : PE X (.Call (.Name x p) (e :: es) [] pos) (tCl sp E t) := by
  obtain ⟨f, fd, F, hm, hk, hb⟩ := D.ex
  have q := pe_call (p := p) F hr hg hm hk hb Paired.nil hx ha hdb he hpl
  have e1 : tCall sp [] E t = tCl sp E t := by
    funext σ H Q
    show (t σ H fun vs H1 => sp (vs ++ []) H1 Q E) = (t σ H fun vs H1 => sp vs H1 Q E)
    simp only [List.append_nil]
  rw [← e1]
  exact q
theorem pe_gc {v : V} {j : Pos} (hg : Gl X x) (hm : ∃ u, X.mg x = some u ∧ RelV v u) (hdb : (x == ("__debug__" : Str)) = false := by decide) (hnm : x ≠ "__name__" := by decide) : PE X (.Name x j) (tC v) := by
  obtain ⟨u, h1, h2⟩ := hm
  exact pe_glob hg h1 h2 hdb
end

/-- all that is tracked stands, but at S, where things are written -/
structure Kp (S : List Addr) (H H' : Hp) : Prop where
  k : ∀ b o, ¬ b ∈ S → H b = some o → H' b = some o
  mu : ∀ b, b ∈ S → Mut (H b)
/-- the same from the entry: what is new since is free -/
def Fm (S : List Addr) (H H' : Hp) : Prop := ∀ b o, ¬ b ∈ S → H b = some o → H' b = some o
section
variable {S S' : List Addr} {H H0 H1 H2 : Hp} {a p : Addr} {o o' : HO} {xs : List V} {K : PySem.W.Frag}
theorem Fm.start : Fm S H H := fun _ _ _ h => h
theorem Kp.refl : Kp [] H H := ⟨fun _ _ _ h => h, fun _ h => nomatch h⟩
theorem Kp.new (hp : H p = none) : Kp [] H (upd H p o) := ⟨fun b u _ h => by rw [upd_ne (ne_of_none h hp)]; exact h, fun _ h => nomatch h⟩
theorem Kp.put (hp : H p = some o) (hm : Mut (some o)) : Kp [p] H (upd H p o') := ⟨fun b u hb h => by rw [upd_ne (fun e => hb (by simp [e]))]; exact h, fun b hb => by
  rw [List.mem_singleton] at hb
  subst hb
  rw [hp]
  exact hm⟩
theorem Fm.go (f : Fm S H0 H) (k : Kp S' H H1) (h : ∀ a, a ∈ S' → a ∈ S ∨ H0 a = none) : Fm S H0 H1 := fun b o hb e => by
  refine k.k b o (fun hm => ?_) (f b o hb e)
  rcases h b hm with q | q
  · exact hb q
  · rw [q] at e
    cases e
theorem Fm.go0 (f : Fm S H0 H) (k : Kp [] H H1) : Fm S H0 H1 := f.go k fun _ h => nomatch h
theorem Fm.kp (f : Fm S H0 H) (mu : ∀ b, b ∈ S → Mut (H0 b)) : Kp S H0 H := ⟨f, mu⟩
theorem Fm.free (f : Fm S H0 H) (h : H p = none) (hs : ∀ b, b ∈ S → ∃ o, H b = some o) : H0 p = none := by
  cases q : H0 p with
  | none => rfl
  | some o =>
    by_cases hb : p ∈ S
    · obtain ⟨o, e⟩ := hs p hb
      rw [h] at e
      cases e
    · rw [f p o hb q] at h
      cases h
theorem Kp.free (f : Kp S H0 H) (h : H p = none) (hs : ∀ b, b ∈ S → ∃ o, H b = some o) : H0 p = none := Fm.free (S := S) f.k h hs
theorem Kp.free0 (f : Kp [] H0 H) (h : H p = none) : H0 p = none := f.free h fun _ hm => by cases hm
theorem Kp.get (k : Kp S H H1) (hn : ¬ a ∈ S) (h : H a = some o) : H1 a = some o := k.k _ _ hn h
theorem Kp.get0 (k : Kp [] H H1) (h : H a = some o) : H1 a = some o := k.k _ _ (fun h => nomatch h) h
theorem Kp.get1 (k : Kp [p] H H1) (hn : a ≠ p) (h : H a = some o) : H1 a = some o := k.k _ _ (fun h => hn (by simpa using h)) h
theorem Kp.tup (k : Kp S H H1) (h : SqT K H a xs) : SqT K H1 a xs := by
  rcases h with (h | ⟨u, h⟩) | h
  · exact .inl (.inl (k.k _ _ (fun hm => by have q := k.mu _ hm; rw [h] at q; exact q) h))
  · exact .inl (.inr ⟨u, k.k _ _ (fun hm => by have q := k.mu _ hm; rw [h] at q; exact q) h⟩)
  · exact .inr h
theorem Kp.trans (a : Kp [] H0 H1) (b : Kp [] H1 H2) : Kp [] H0 H2 := ⟨fun c o _ h => b.get0 (a.get0 h), fun _ h => nomatch h⟩
theorem Kp.tr (a : Kp S H0 H1) (b : Kp S' H1 H2) (h : ∀ x, x ∈ S' → x ∈ S ∨ H0 x = none) : Kp S H0 H2 := ⟨fun c o hc e => b.k c o (fun hm => by
  rcases h c hm with q | q
  · exact hc q
  · rw [q] at e
    cases e) (a.k c o hc e), a.mu⟩
theorem Kp.tr0 (b : Kp [] H1 H2) (a : Kp S H0 H1) : Kp S H0 H2 := a.tr b fun _ h => by cases h
theorem Kp.tr1 (b : Kp S H1 H2) (a : Kp S H0 H1) : Kp S H0 H2 := a.tr b fun _ h => .inl h
theorem Kp.trN (b : Kp [p] H1 H2) (a : Kp S H0 H1) (hp : H0 p = none) : Kp S H0 H2 := a.tr b fun x hx => by
  rw [List.mem_singleton] at hx
  subst hx
  exact .inr hp
theorem Kp.base (mu : ∀ b, b ∈ S → Mut (H b)) : Kp S H H := ⟨fun _ _ _ h => h, mu⟩
theorem Kp.fresh (k : Kp S H0 H1) (h : H1 p = none) (hs : ∀ b, b ∈ S → ∃ o, H1 b = some o) : ∀ x, x ∈ [p] → x ∈ S ∨ H0 x = none := fun x hx => by
  rw [List.mem_singleton] at hx
  subst hx
  exact .inr (k.free h hs)
theorem ne_newL (hp : H p = none) (h : H a = some o) : a ≠ p := ne_of_none h hp
theorem ne_newR (hp : H p = none) (h : H a = some o) : p ≠ a := (ne_of_none h hp).symm
theorem SqT.ty (h : SqT K H a xs) : TyX K H (.ref a) (.type "tuple") := by
  rcases h with (h | ⟨u, h⟩) | ⟨o, its, n, h1, h2, _⟩
  · exact .base (.tup h)
  · exact .fTuple h
  · exact .kTuple h1 h2
end

/-! ### step rules: from the head of a reading -/
/-- one step of a reading, many -/
class Stp (g : Prop) (n : outParam Prop) : Prop where
  imp : n → g
class Stps (g : Prop) (n : outParam Prop) : Prop where
  imp : n → g
instance (priority := low) stps_nil {g : Prop} : Stps g g := ⟨id⟩
instance stps_cons {g m n : Prop} [a : Stp g m] [b : Stps m n] : Stps g n := ⟨fun h => a.imp (b.imp h)⟩
/-- one step at least -/
theorem go1 {g m n : Prop} (a : Stp g m) (b : Stps m n) (h : n) : g := a.imp (b.imp h)
class Look (σ : St) (n : Nat) (v : outParam V) : Prop where
  e : σ[n]? = some (some v)
instance look0 {v : V} {σ : St} : Look (some v :: σ) 0 v := ⟨rfl⟩
instance lookS {v : V} {x : Option V} {σ : St} {n : Nat} [a : Look σ n v] : Look (x :: σ) (n + 1) v := ⟨by rw [List.getElem?_cons_succ]; exact a.e⟩
class SetS (σ : St) (n : Nat) (v : V) (σ' : outParam St) : Prop where
  e : σ.set n (some v) = σ'
instance set0 {v : V} {x : Option V} {σ : St} : SetS (x :: σ) 0 v (some v :: σ) := ⟨rfl⟩
instance setS {v : V} {x : Option V} {σ σ' : St} {n : Nat} [a : SetS σ n v σ'] : SetS (x :: σ) (n + 1) v (x :: σ') := ⟨by rw [List.set_cons_succ, a.e]⟩
def mkT (xs : List V) (H : Hp) (Q : VK) : Prop := xs.length ≤ sizeLine ∧ ∀ p, H p = none → Q (.ref p) (upd H p (.tup xs))
def mkL (xs : List V) (H : Hp) (Q : VK) : Prop := xs.length ≤ sizeLine ∧ ∀ p, H p = none → Q (.ref p) (upd H p (.lst xs))
def asB (x : V) (R : Bool → Prop) : Prop := ∃ k, x = .bl k ∧ R k
/-- two ways by a test -/
def iteP (b : Bool) (A B : Prop) : Prop := if b = true then A else B
theorem iteP_of {b : Bool} {A B : Prop} (h : iteP b A B) : if b = true then A else B := h
section
variable {σ σ' : St} {H : Hp} {Q : VK} {ta tb tc te : TE} {v : V} {i j : Int} {n : Nat} {K : PySem.W.Frag} {E : XK} {C : Int → Int → Prop} {gi : Int → Int → V} {nx bk ct : St → Hp → Prop} {rt : VK}
instance s_seq {t u : TS} : Stp (tSeq t u ⟨nx, rt, bk, ct⟩ σ H) (t ⟨u ⟨nx, rt, bk, ct⟩, rt, bk, ct⟩ σ H) := ⟨id⟩
instance s_next : Stp (tNext ⟨nx, rt, bk, ct⟩ σ H) (nx σ H) := ⟨id⟩
instance s_set : Stp (tAsg te (gName n) ⟨nx, rt, bk, ct⟩ σ H) (te σ H fun x H1 => gName n x σ H1 nx) := ⟨id⟩
instance s_asg {g : TG} : Stp (tAsg te g ⟨nx, rt, bk, ct⟩ σ H) (te σ H fun x H1 => g x σ H1 nx) := ⟨id⟩
instance s_gN {R : St → Hp → Prop} [a : SetS σ n v σ'] : Stp (gName n v σ H R) (R σ' H) := ⟨fun h => by show R (σ.set n (some v)) H; rw [a.e]; exact h⟩
instance s_drop : Stp (tDrop te ⟨nx, rt, bk, ct⟩ σ H) (te σ H fun _ H1 => nx σ H1) := ⟨id⟩
instance s_ret : Stp (tRet te ⟨nx, rt, bk, ct⟩ σ H) (te σ H rt) := ⟨id⟩
instance s_retN : Stp (tRetN ⟨nx, rt, bk, ct⟩ σ H) (rt .non H) := ⟨id⟩
instance s_break : Stp (tBreak ⟨nx, rt, bk, ct⟩ σ H) (bk σ H) := ⟨id⟩
instance s_cont : Stp (tCont ⟨nx, rt, bk, ct⟩ σ H) (ct σ H) := ⟨id⟩
instance s_ifS {c : TT} {t u : TS} {D : Ends} : Stp (tIfS c t u D σ H) (c σ H fun b H1 => iteP b (t D σ H1) (u D σ H1)) := ⟨id⟩
instance s_var [a : Look σ n v] : Stp (tVar n σ H Q) (Q v H) := ⟨fun h => ⟨v, a.e, h⟩⟩
instance s_c : Stp (tC v σ H Q) (Q v H) := ⟨id⟩
instance s_op {r : R2} : Stp (tOp r ta tb σ H Q) (ta σ H fun x H1 => tb σ H1 fun y H2 => r x y H2 Q) := ⟨id⟩
instance s_un {r : V → Hp → VK → Prop} : Stp (tUn r ta σ H Q) (ta σ H fun x H1 => r x H1 Q) := ⟨id⟩
instance s_rU {g : Int → V} : Stp (rU g (.int i) H Q) (Q (g i) H) := ⟨fun h => ⟨i, rfl, h⟩⟩
instance s_rI0 : Stp (rI0 gi (.int i) (.int j) H Q) (Q (gi i j) H) := ⟨fun h => ⟨i, j, rfl, rfl, h⟩⟩
theorem r_rI (hc : C i j) (h : Q (gi i j) H) : rI C gi (.int i) (.int j) H Q := ⟨i, j, rfl, rfl, hc, h⟩
instance s_pow6 : Stp (rI CPow (fun i j => V.int (i ^ j.toNat)) (.int 10) (.int 6) H Q) (Q (.int 1000000) H) := ⟨fun h => ⟨10, 6, rfl, rfl, ⟨by decide, by decide, by decide⟩, h⟩⟩
instance s_pow7 : Stp (rI CPow (fun i j => V.int (i ^ j.toNat)) (.int 10) (.int 7) H Q) (Q (.int 10000000) H) := ⟨fun h => ⟨10, 7, rfl, rfl, ⟨by decide, by decide, by decide⟩, h⟩⟩
instance s_pow8 : Stp (rI CPow (fun i j => V.int (i ^ j.toNat)) (.int 10) (.int 8) H Q) (Q (.int 100000000) H) := ⟨fun h => ⟨10, 8, rfl, rfl, ⟨by decide, by decide, by decide⟩, h⟩⟩
instance s_pow9 : Stp (rI CPow (fun i j => V.int (i ^ j.toNat)) (.int 10) (.int 9) H Q) (Q (.int 1000000000) H) := ⟨fun h => ⟨10, 9, rfl, rfl, ⟨by decide, by decide, by decide⟩, h⟩⟩
instance s_pow10 : Stp (rI CPow (fun i j => V.int (i ^ j.toNat)) (.int 10) (.int 10) H Q) (Q (.int 10000000000) H) := ⟨fun h => ⟨10, 10, rfl, rfl, ⟨by decide, by decide, by decide⟩, h⟩⟩
instance s_pow12 : Stp (rI CPow (fun i j => V.int (i ^ j.toNat)) (.int 10) (.int 12) H Q) (Q (.int 1000000000000) H) := ⟨fun h => ⟨10, 12, rfl, rfl, ⟨by decide, by decide, by decide⟩, h⟩⟩
instance s_pow21 : Stp (rI CPow (fun i j => V.int (i ^ j.toNat)) (.int 10) (.int 21) H Q) (Q (.int 1000000000000000000000) H) := ⟨fun h => ⟨10, 21, rfl, rfl, ⟨by decide, by decide, by decide⟩, h⟩⟩
instance s_pow30 : Stp (rI CPow (fun i j => V.int (i ^ j.toNat)) (.int 10) (.int 30) H Q) (Q (.int 1000000000000000000000000000000) H) := ⟨fun h => ⟨10, 30, rfl, rfl, ⟨by decide, by decide, by decide⟩, h⟩⟩
instance s_pow40 : Stp (rI CPow (fun i j => V.int (i ^ j.toNat)) (.int 10) (.int 40) H Q) (Q (.int 10000000000000000000000000000000000000000) H) := ⟨fun h => ⟨10, 40, rfl, rfl, ⟨by decide, by decide, by decide⟩, h⟩⟩
instance s_pow60 : Stp (rI CPow (fun i j => V.int (i ^ j.toNat)) (.int 10) (.int 60) H Q) (Q (.int 1000000000000000000000000000000000000000000000000000000000000) H) := ⟨fun h => ⟨10, 60, rfl, rfl, ⟨by decide, by decide, by decide⟩, h⟩⟩
instance s_eqI : Stp (rEq (.int i) (.int j) H Q) (Q (.bl (decide (i = j))) H) := ⟨fun h => ⟨rfl, by
  have e : decide (V.int i = V.int j) = decide (i = j) := by simp
  rw [e]
  exact h⟩⟩
instance s_neI : Stp (rNe (.int i) (.int j) H Q) (Q (.bl (decide (i ≠ j))) H) := ⟨fun h => ⟨rfl, by
  have e : (!decide (V.int i = V.int j)) = decide (i ≠ j) := by simp
  rw [e]
  exact h⟩⟩
instance s_eqS {a b : Str} : Stp (rEq (.str a) (.str b) H Q) (Q (.bl (decide (a = b))) H) := ⟨fun h => ⟨rfl, by
  have e : decide (V.str a = V.str b) = decide (a = b) := by simp
  rw [e]
  exact h⟩⟩
instance s_neS {a b : Str} : Stp (rNe (.str a) (.str b) H Q) (Q (.bl (decide (a ≠ b))) H) := ⟨fun h => ⟨rfl, by
  have e : (!decide (V.str a = V.str b)) = decide (a ≠ b) := by simp
  rw [e]
  exact h⟩⟩
instance s_eqB {a b : Bool} : Stp (rEq (.bl a) (.bl b) H Q) (Q (.bl (decide (a = b))) H) := ⟨fun h => ⟨rfl, by
  have e : decide (V.bl a = V.bl b) = decide (a = b) := by simp
  rw [e]
  exact h⟩⟩
instance s_neB {a b : Bool} : Stp (rNe (.bl a) (.bl b) H Q) (Q (.bl (decide (a ≠ b))) H) := ⟨fun h => ⟨rfl, by
  have e : (!decide (V.bl a = V.bl b)) = decide (a ≠ b) := by simp
  rw [e]
  exact h⟩⟩
instance s_test {R : Bool → Hp → Prop} : Stp (tTest te σ H R) (te σ H fun x H1 => asB x fun k => R k H1) := ⟨id⟩
instance s_B {R : Bool → Hp → Prop} : Stp (tB te σ H R) (te σ H fun x H1 => asB x fun k => R k H1) := ⟨id⟩
instance s_asB {b : Bool} {R : Bool → Prop} : Stp (asB (.bl b) R) (R b) := ⟨fun h => ⟨b, rfl, h⟩⟩
instance s_and {t u : TT} {R : Bool → Hp → Prop} : Stp (tAnd t u σ H R) (t σ H fun c H1 => iteP c (u σ H1 R) (R false H1)) := ⟨id⟩
instance s_or {t u : TT} {R : Bool → Hp → Prop} : Stp (tOr t u σ H R) (t σ H fun c H1 => iteP c (R true H1) (u σ H1 R)) := ⟨id⟩
instance s_not {t : TT} {R : Bool → Hp → Prop} : Stp (tNot t σ H R) (t σ H fun c H1 => R (!c) H1) := ⟨id⟩
instance s_andV : Stp (tAndV ta tb σ H Q) (ta σ H fun x H1 => asB x fun c => iteP c (tb σ H1 Q) (Q (.bl false) H1)) := ⟨id⟩
instance s_orV : Stp (tOrV ta tb σ H Q) (ta σ H fun x H1 => asB x fun c => iteP c (Q (.bl true) H1) (tb σ H1 Q)) := ⟨id⟩
instance s_notV : Stp (tNotV ta σ H Q) (ta σ H fun x H1 => asB x fun c => Q (.bl (!c)) H1) := ⟨id⟩
instance s_if {t : TT} : Stp (tIf t ta tb σ H Q) (t σ H fun c H1 => iteP c (ta σ H1 Q) (tb σ H1 Q)) := ⟨id⟩
instance s_chain {r r' : R2} : Stp (tChain r r' ta tb tc σ H Q) (ta σ H fun x H1 => tb σ H1 fun y H2 => r x y H2 fun z H3 => asB z fun k => iteP k (tc σ H3 fun w' H4 => r' y w' H4 Q) (Q (.bl false) H3)) := ⟨id⟩
instance s_nil {R : List V → Hp → Prop} : Stp (tNil σ H R) (R [] H) := ⟨id⟩
instance s_cons {tr : TA} {R : List V → Hp → Prop} : Stp (tCons ta tr σ H R) (ta σ H fun x H1 => tr σ H1 fun xs H2 => R (x :: xs) H2) := ⟨id⟩
instance s_tTup {t : TA} : Stp (tTup t σ H Q) (t σ H fun xs H1 => mkT xs H1 Q) := ⟨id⟩
instance s_tLst {t : TA} : Stp (tLst t σ H Q) (t σ H fun xs H1 => mkL xs H1 Q) := ⟨id⟩
instance s_cB {t : TA} {r : List V → Hp → VK → Prop} : Stp (tCB r t σ H Q) (t σ H fun vs H1 => r vs H1 Q) := ⟨id⟩
instance s_cl {sp : Sp} {t : TA} : Stp (tCl sp E t σ H Q) (t σ H fun vs H1 => sp vs H1 Q E) := ⟨id⟩
instance s_aug {ti : TIp} [a : Look σ n v] : Stp (tAug n te ti ⟨nx, rt, bk, ct⟩ σ H) (te σ H fun y H1 => ti v y H1 fun z H2 => gName n z σ H2 nx) := ⟨fun h => ⟨v, a.e, h⟩⟩
instance s_ipI {f : Int → Int → Int} : Stp (ipI f (.int i) (.int j) H Q) (Q (.int (f i j)) H) := ⟨fun h => ⟨i, j, rfl, rfl, h⟩⟩
instance s_iteT {A B : Prop} : Stp (iteP true A B) A := ⟨fun h => iteT h⟩
instance s_iteF {A B : Prop} : Stp (iteP false A B) B := ⟨fun h => iteF h⟩
instance s_iteNT {A B : Prop} : Stp (iteP (!true) A B) B := ⟨fun h => iteF h⟩
instance s_iteNF {A B : Prop} : Stp (iteP (!false) A B) A := ⟨fun h => iteT h⟩
theorem r_mkT {xs : List V} (hl : xs.length ≤ sizeLine) (h : ∀ p H2, H p = none → SqT K H2 p xs → Kp [] H H2 → Q (.ref p) H2) : mkT xs H Q :=
  ⟨hl, fun p hp => h p _ hp (SqT.of upd_same) (Kp.new hp)⟩
theorem r_mkL {xs : List V} (hl : xs.length ≤ sizeLine) (h : ∀ p H2, H p = none → H2 p = some (.lst xs) → Kp [] H H2 → Q (.ref p) H2) : mkL xs H Q :=
  ⟨hl, fun p hp => h p _ hp upd_same (Kp.new hp)⟩
theorem r_ixT {p : Addr} {xs : List V} (h : SqT K H p xs) (e : atI xs i = some v) (q : Q v H) : rIxT K (.ref p) (.int i) H Q := ⟨p, xs, i, v, rfl, rfl, h, e, q⟩
theorem r_ixL {p : Addr} {xs : List V} (h : H p = some (.lst xs)) (e : atI xs i = some v) (q : Q v H) : rIxL K (.ref p) (.int i) H Q := ⟨p, xs, i, v, rfl, rfl, SqL.of h, e, q⟩
theorem r_gTup {t : TGs} {m : Nat} {p : Addr} {xs : List V} {R : St → Hp → Prop} (h : SqT K H p xs) (e : xs.length = m) (q : t xs σ H R) : gTup K m t (.ref p) σ H R := ⟨p, xs, rfl, h, e, q⟩
instance s_gCons {t : TG} {u : TGs} {r : List V} {R : St → Hp → Prop} : Stp (gCons t u (v :: r) σ H R) (t v σ H fun σ' H' => u r σ' H' R) := ⟨fun h => ⟨v, r, rfl, h⟩⟩
instance s_gNil {R : St → Hp → Prop} : Stp (gNil [] σ H R) (R σ H) := ⟨fun h => ⟨rfl, h⟩⟩
instance s_gSub {s : TSet} {R : St → Hp → Prop} : Stp (gSub ta tb s v σ H R) (ta σ H fun o H1 => tb σ H1 fun i H2 => s o i v H2 fun H3 => R σ H3) := ⟨id⟩
theorem r_setL {p : Addr} {xs : List V} {m : Nat} {R : Hp → Prop} (h : H p = some (.lst xs)) (e : ixN xs.length i = some m) (q : ∀ H2, H2 p = some (.lst (xs.set m v)) → Kp [p] H H2 → R H2) : rSetL (.ref p) (.int i) v H R :=
  ⟨p, xs, i, m, rfl, rfl, h, e, q _ upd_same (Kp.put h trivial)⟩
theorem if_T {A B : Prop} {c : Prop} [Decidable c] (hc : c) (h : A) : iteP (decide c) A B := by
  unfold iteP
  rw [if_pos (decide_eq_true hc)]
  exact h
theorem if_F {A B : Prop} {c : Prop} [Decidable c] (hc : ¬ c) (h : B) : iteP (decide c) A B := by
  unfold iteP
  rw [if_neg (by rw [decide_eq_false hc]; decide)]
  exact h
theorem if_S {A B : Prop} {c : Prop} [Decidable c] (h : c → A) (h' : ¬ c → B) : iteP (decide c) A B := by
  by_cases hc : c
  · exact if_T hc (h hc)
  · exact if_F hc (h' hc)
theorem if_NT {A B : Prop} {c : Prop} [Decidable c] (hc : ¬ c) (h : A) : iteP (!decide c) A B := by
  rw [decide_eq_false hc]
  exact iteT h
theorem if_NF {A B : Prop} {c : Prop} [Decidable c] (hc : c) (h : B) : iteP (!decide c) A B := by
  rw [decide_eq_true hc]
  exact iteF h
theorem if_NS {A B : Prop} {c : Prop} [Decidable c] (h : ¬ c → A) (h' : c → B) : iteP (!decide c) A B := by
  by_cases hc : c
  · exact if_NF hc (h' hc)
  · exact if_NT hc (h hc)
theorem if_B {A B : Prop} {b : Bool} (h : b = true → A) (h' : b = false → B) : iteP b A B := by
  cases b
  · exact iteF (h' rfl)
  · exact iteT (h rfl)
end

/-! ### built-in calls by named rules -/
section
variable {X : Cx} {f : Value} {r r' : List V → Hp → VK → Prop}
theorem callR_imp (h : CallR X f r) (i : ∀ xs H Q, r' xs H Q → r xs H Q) : CallR X f r' := fun pins s σ H xs us Q I rx q => h pins s σ H xs us Q I rx (i _ _ _ q)
def rInt : List V → Hp → VK → Prop := fun xs H Q => (∃ i, xs = [.int i] ∧ Q (.int i) H) ∨ ∃ k, xs = [.bl k] ∧ Q (.int (if k then 1 else 0)) H
theorem cg_int : CallR X (.type "int") rInt := call_int1
def rLen (K : PySem.W.Frag) : List V → Hp → VK → Prop := fun xs H Q => ∃ p ys, xs = [.ref p] ∧ (SqL K H p ys ∨ SqT K H p ys) ∧ Q (.int ys.length) H
theorem cg_len : CallR X (.builtin "len") (rLen X.K) := call_len_seq
def rListOf (K : PySem.W.Frag) : List V → Hp → VK → Prop := fun xs H Q => ∃ p ys, xs = [.ref p] ∧ (SqL K H p ys ∨ SqT K H p ys) ∧ ∀ l, H l = none → Q (.ref l) (upd H l (.lst ys))
theorem cg_list : CallR X (.type "list") (rListOf X.K) := call_list_of
def rTupOf (K : PySem.W.Frag) : List V → Hp → VK → Prop := fun xs H Q => ∃ p ys, xs = [.ref p] ∧ ((SqL K H p ys ∧ ∀ l, H l = none → Q (.ref l) (upd H l (.tup ys))) ∨ (SqT K H p ys ∧ Q (.ref p) H))
theorem cg_tuple : CallR X (.type "tuple") (rTupOf X.K) := call_tuple_of
def rAbs : List V → Hp → VK → Prop := fun xs H Q => ∃ i, xs = [.int i] ∧ Q (.int (if i < 0 then -i else i)) H
theorem cg_abs : CallR X (.builtin "abs") rAbs := call_abs
end
section
variable {H : Hp} {Q : VK} {K : PySem.W.Frag} {i : Int} {p : Addr} {xs : List V}
instance s_int : Stp (rInt [.int i] H Q) (Q (.int i) H) := ⟨fun q => .inl ⟨i, rfl, q⟩⟩
instance s_intB {b : Bool} : Stp (rInt [.bl b] H Q) (Q (.int (if b then 1 else 0)) H) := ⟨fun q => .inr ⟨b, rfl, q⟩⟩
theorem r_lenT (h : SqT K H p xs) (q : Q (.int xs.length) H) : rLen K [.ref p] H Q := ⟨p, xs, rfl, .inr h, q⟩
theorem r_lenL (h : H p = some (.lst xs)) (q : Q (.int xs.length) H) : rLen K [.ref p] H Q := ⟨p, xs, rfl, .inl (SqL.of h), q⟩
theorem r_listL (h : SqL K H p xs) (q : ∀ l H2, H l = none → H2 l = some (.lst xs) → Kp [] H H2 → Q (.ref l) H2) : rListOf K [.ref p] H Q := ⟨p, xs, rfl, .inl h, fun l hl => q l _ hl upd_same (Kp.new hl)⟩
theorem r_tupleL (h : H p = some (.lst xs)) (q : ∀ l H2, H l = none → SqT K H2 l xs → Kp [] H H2 → Q (.ref l) H2) : rTupOf K [.ref p] H Q := ⟨p, xs, rfl, .inl ⟨SqL.of h, fun l hl => q l _ hl (SqT.of upd_same) (Kp.new hl)⟩⟩
instance s_abs : Stp (rAbs [.int i] H Q) (Q (.int (if i < 0 then -i else i)) H) := ⟨fun q => ⟨i, rfl, q⟩⟩
theorem r_isi {v c : V} {t u : Value} {b : Bool} (hc : ClsV c u) (ht : TyX K H v t) (hk : PySem.W.kitOne K t u = some b) (q : Q (.bl b) H) : rIsi K [v, c] H Q := ⟨v, c, t, u, b, rfl, hc, ht, hk, q⟩
theorem r_inL {neg : Bool} {x : V} {b : Bool} (h : H p = some (.lst xs)) (fx : flatV x = true) (fs : xs.all flatV = true) (e : (if neg then !inV x xs else inV x xs) = b) (q : Q (.bl b) H) : rIn K neg x (.ref p) H Q := ⟨p, xs, rfl, .inl (SqL.of h), fx, fs, by rw [e]; exact q⟩
theorem r_inT {neg : Bool} {x : V} {b : Bool} (h : SqT K H p xs) (fx : flatV x = true) (fs : xs.all flatV = true) (e : (if neg then !inV x xs else inV x xs) = b) (q : Q (.bl b) H) : rIn K neg x (.ref p) H Q := ⟨p, xs, rfl, .inr h, fx, fs, by rw [e]; exact q⟩
end
/-! ### data that never changes -/
mutual
inductive Im (K : PySem.W.Frag) (H : Hp) : V → PyData → Prop
  | non : Im K H .non .none
  | bl (b : Bool) : Im K H (.bl b) (.bool b)
  | int (i : Int) : Im K H (.int i) (.int i)
  | str (x : Str) : Im K H (.str x) (.str x)
  | tup {a : Addr} {xs : List V} {ds : List PyData} : SqT K H a xs → ImAll K H xs ds → Im K H (.ref a) (.tuple ds)
inductive ImAll (K : PySem.W.Frag) (H : Hp) : List V → List PyData → Prop
  | nil : ImAll K H [] []
  | cons {v : V} {vs : List V} {d : PyData} {ds : List PyData} : Im K H v d → ImAll K H vs ds → ImAll K H (v :: vs) (d :: ds)
end
section
variable {K : PySem.W.Frag} {H H' : Hp} {S : List Addr} {p : Addr} {xs : List V} {ds : List PyData} {x : V} {d : PyData}
mutual
theorem Kp.im (k : Kp S H H') : ∀ {x : V} {d : PyData}, Im K H x d → Im K H' x d
  | _, _, .non => .non
  | _, _, .bl b => .bl b
  | _, _, .int i => .int i
  | _, _, .str z => .str z
  | _, _, .tup h a => .tup (k.tup h) (Kp.imAll k a)
theorem Kp.imAll (k : Kp S H H') : ∀ {xs : List V} {ds : List PyData}, ImAll K H xs ds → ImAll K H' xs ds
  | _, _, .nil => .nil
  | _, _, .cons h a => .cons (Kp.im k h) (Kp.imAll k a)
end
mutual
theorem Im.dp : ∀ {x : V} {d : PyData}, Im K H x d → Dp K H x d
  | _, _, .non => .non
  | _, _, .bl b => .bl b
  | _, _, .int i => .int i
  | _, _, .str z => .str z
  | _, _, .tup h a => .tup h (ImAll.dp a)
theorem ImAll.dp : ∀ {xs : List V} {ds : List PyData}, ImAll K H xs ds → DpAll K H xs ds
  | _, _, .nil => .nil
  | _, _, .cons h a => .cons h.dp (ImAll.dp a)
end
theorem ImAll.length : ∀ {xs : List V} {ds : List PyData}, ImAll K H xs ds → xs.length = ds.length
  | _, _, .nil => rfl
  | _, _, .cons _ a => by rw [List.length_cons, List.length_cons, ImAll.length a]
theorem ImAll.get : ∀ {xs : List V} {ds : List PyData} {i : Nat} {x : V}, ImAll K H xs ds → xs[i]? = some x → ∃ d, ds[i]? = some d ∧ Im K H x d
  | _, _, _, _, .nil, e => by simp at e
  | _, _, 0, _, .cons h _, e => by simp at e; subst e; exact ⟨_, rfl, h⟩
  | _, _, i + 1, _, .cons _ a, e => by
    obtain ⟨d, h1, h2⟩ := ImAll.get (i := i) a (by simpa using e)
    exact ⟨d, by simpa using h1, h2⟩
theorem ImAll.at : ∀ {xs : List V} {ds : List PyData} {i : Nat} {d : PyData}, ImAll K H xs ds → ds[i]? = some d → ∃ x, xs[i]? = some x ∧ Im K H x d
  | _, _, _, _, .nil, e => by simp at e
  | _, _, 0, _, .cons h _, e => by simp at e; subst e; exact ⟨_, rfl, h⟩
  | _, _, i + 1, _, .cons _ a, e => by
    obtain ⟨x, h1, h2⟩ := ImAll.at (i := i) a (by simpa using e)
    exact ⟨x, by simpa using h1, h2⟩
theorem ImAll.snoc : ∀ {xs : List V} {ds : List PyData} {x : V} {d : PyData}, ImAll K H xs ds → Im K H x d → ImAll K H (xs ++ [x]) (ds ++ [d])
  | _, _, _, _, .nil, h => .cons h .nil
  | _, _, _, _, .cons h a, h' => .cons h (ImAll.snoc a h')
/-- the data of a flat value, back -/
def flatD : PyData → Option V
  | .none => some .non
  | .bool b => some (.bl b)
  | .int i => some (.int i)
  | .str x => some (.str x)
  | _ => Option.none
def flatDs : List PyData → Option (List V)
  | [] => some []
  | d :: ds => match flatD d, flatDs ds with
    | some x, some xs => some (x :: xs)
    | _, _ => Option.none
theorem Im.flat (h : Im K H x d) {y : V} (e : flatD d = some y) : x = y := by
  cases h with
  | tup _ _ => cases e
  | _ => exact Option.some.inj e
theorem ImAll.flat : ∀ {xs : List V} {ds : List PyData} {ys : List V}, ImAll K H xs ds → flatDs ds = some ys → xs = ys
  | _, _, _, .nil, e => Option.some.inj e
  | _, d :: ds, ys, .cons (v := v) h a, e => by
    unfold flatDs at e
    split at e
    · rename_i y zs h1 h2
      rw [h.flat h1, ImAll.flat a h2]
      exact Option.some.inj e
    · cases e
theorem Im.open (h : Im K H (.ref p) (.tuple ds)) : ∃ xs, SqT K H p xs ∧ ImAll K H xs ds := by
  cases h with
  | tup h a => exact ⟨_, h, a⟩
theorem Im.sq (h : Im K H (.ref p) (.tuple ds)) {ys : List V} (e : flatDs ds = some ys) : SqT K H p ys := by
  obtain ⟨xs, h1, h2⟩ := h.open
  rw [← h2.flat e]
  exact h1
theorem Im.isRef (h : Im K H x (.tuple ds)) : ∃ p, x = .ref p := by
  cases h with
  | tup h a => exact ⟨_, rfl⟩
theorem flatDs_ints : ∀ ns : List Int, flatDs (ns.map PyData.int) = some (ns.map V.int)
  | [] => rfl
  | n :: ns => by
    show (match flatD (.int n), flatDs (ns.map PyData.int) with | some x, some xs => some (x :: xs) | _, _ => Option.none) = _
    rw [flatDs_ints ns]
    rfl
theorem Im.ints {ns : List Int} (h : SqT K H p (ns.map V.int)) : Im K H (.ref p) (.tuple (ns.map .int)) := by
  refine .tup h ?_
  clear h
  induction ns with
  | nil => exact .nil
  | cons n ns ih => exact .cons (.int n) ih
end
/-! ### loops -/
def forS (J : It) (g : TG) (tb : TS) (D : Ends) (σ : St) (H : Hp) : Prop := ∃ W : Nat → Nat → St → Hp → Prop, (∃ m, W 0 m σ H) ∧ ∀ i m σ H, W i m σ H →
  (J.stop i H ∧ D.nx σ H) ∨ (J.go i H ∧ ∃ N : St → Hp → Prop, (∀ σ' H', N σ' H' → ∃ m', m' < m ∧ W (i + 1) m' σ' H') ∧ ∀ x H', J.yld i H x H' → g x σ H' fun σ2 H2 => tb { D with nx := N, ct := N, bk := D.nx } σ2 H2)
def isL (K : PySem.W.Frag) (x : V) (H : Hp) (R : It → Hp → Prop) : Prop := ∃ a, x = .ref a ∧ (∃ xs, SqL K H a xs) ∧ R (Itl K a) H
def isT (K : PySem.W.Frag) (x : V) (H : Hp) (R : It → Hp → Prop) : Prop := ∃ a, x = .ref a ∧ (∃ xs, SqT K H a xs) ∧ R (Itt K a) H
def isR1 (vs : List V) (H : Hp) (R : It → Hp → Prop) : Prop := ∃ j : Int, vs = [.int j] ∧ -(2 ^ 62) ≤ j ∧ j < 2 ^ 62 ∧ R (Itr 0 j.toNat) H
section
variable {σ : St} {H : Hp} {K : PySem.W.Frag} {p : Addr} {xs : List V} {g : TG} {tb : TS} {nx bk ct : St → Hp → Prop} {rt : VK} {D : Ends} {wi : TI} {tl : TE} {ta : TA} {R : It → Hp → Prop} {lo : Int} {n : Nat}
instance s_for : Stp (tFor wi g tb D σ H) (wi σ H fun J H1 => forS J g tb D σ H1) := ⟨id⟩
instance s_iL : Stp (iList K tl σ H R) (tl σ H fun x H1 => isL K x H1 R) := ⟨id⟩
instance s_iT : Stp (iTup K tl σ H R) (tl σ H fun x H1 => isT K x H1 R) := ⟨id⟩
instance s_iR1 : Stp (iRng1 ta σ H R) (ta σ H fun vs H1 => isR1 vs H1 R) := ⟨id⟩
theorem r_isL (h : H p = some (.lst xs)) (q : R (Itl K p) H) : isL K (.ref p) H R := ⟨p, rfl, ⟨xs, SqL.of h⟩, q⟩
theorem r_isT (h : SqT K H p xs) (q : R (Itt K p) H) : isT K (.ref p) H R := ⟨p, rfl, ⟨xs, h⟩, q⟩
theorem r_isR1 {j : Int} (h : -1000000000 ≤ j ∧ j ≤ 1000000000) (q : R (Itr 0 j.toNat) H) : isR1 [.int j] H R := ⟨j, rfl, by omega, by omega, q⟩
/-- a for over a list that stands at p all along -/
theorem r_forL (xs : List V) (Pv : Nat → St → Hp → Prop) (h0 : Pv 0 σ H) (hG : ∀ i σ' H', Pv i σ' H' → H' p = some (.lst xs))
    (hs : ∀ i x σ' H', xs[i]? = some x → Pv i σ' H' → g x σ' H' fun σ2 H2 => tb ⟨Pv (i + 1), rt, nx, Pv (i + 1)⟩ σ2 H2) (hd : ∀ σ' H', Pv xs.length σ' H' → nx σ' H') : forS (Itl K p) g tb ⟨nx, rt, bk, ct⟩ σ H :=
  for_it (walk_list (K := K) (a := p) (xs := xs)) Pv h0 (fun i σ' H' _ h => SqL.of (hG i σ' H' h)) (fun i x σ' H1 H2 _ h y => by obtain ⟨rfl, y⟩ := y; exact hs i x σ' _ y h) hd
theorem r_forLI (ns : List Int) (Pv : Nat → St → Hp → Prop) (h0 : Pv 0 σ H) (hG : ∀ i σ' H', Pv i σ' H' → H' p = some (.lst (ns.map V.int)))
    (hs : ∀ i (y : Int) σ' H', ns[i]? = some y → Pv i σ' H' → g (.int y) σ' H' fun σ2 H2 => tb ⟨Pv (i + 1), rt, nx, Pv (i + 1)⟩ σ2 H2) (hd : ∀ σ' H', Pv ns.length σ' H' → nx σ' H') : forS (Itl K p) g tb ⟨nx, rt, bk, ct⟩ σ H := by
  refine r_forL (ns.map V.int) Pv h0 hG (fun i x σ' H' e h => ?_) (by rw [List.length_map]; exact hd)
  rw [List.getElem?_map] at e
  cases q : ns[i]? with
  | none =>
    rw [q] at e
    cases e
  | some y =>
    rw [q] at e
    cases e
    exact hs i y σ' H' q h
theorem r_forT (xs : List V) (Pv : Nat → St → Hp → Prop) (h0 : Pv 0 σ H) (hG : ∀ i σ' H', Pv i σ' H' → SqT K H' p xs)
    (hs : ∀ i x σ' H', xs[i]? = some x → Pv i σ' H' → g x σ' H' fun σ2 H2 => tb ⟨Pv (i + 1), rt, nx, Pv (i + 1)⟩ σ2 H2) (hd : ∀ σ' H', Pv xs.length σ' H' → nx σ' H') : forS (Itt K p) g tb ⟨nx, rt, bk, ct⟩ σ H :=
  for_it (walk_tup (K := K) (a := p) (xs := xs)) Pv h0 (fun i σ' H' _ h => hG i σ' H' h) (fun i x σ' H1 H2 _ h y => by obtain ⟨rfl, y⟩ := y; exact hs i x σ' _ y h) hd
theorem r_forR (Pv : Nat → St → Hp → Prop) (h0 : Pv 0 σ H)
    (hs : ∀ i σ' H', i < n → Pv i σ' H' → g (.int (lo + (i : Int))) σ' H' fun σ2 H2 => tb ⟨Pv (i + 1), rt, nx, Pv (i + 1)⟩ σ2 H2) (hd : ∀ σ' H', Pv n σ' H' → nx σ' H') : forS (Itr lo n) g tb ⟨nx, rt, bk, ct⟩ σ H :=
  for_it walk_range Pv h0 (fun _ _ _ _ _ => trivial) (fun i x σ' H1 H2 hi h y => by obtain ⟨rfl, rfl⟩ := y; exact hs i σ' _ hi h) hd
theorem any_take {α : Type} {l : List α} {f : α → Bool} {i : Nat} {x : α} (h : l[i]? = some x) : (l.take (i + 1)).any f = ((l.take i).any f || f x) := by
  rw [List.take_add_one, h, List.any_append]
  simp
end
/-! ### comprehensions -/
def apS (D : Addr) (y : V) (H : Hp) (R : Hp → Prop) : Prop := ∃ acc, H D = some (.lst acc) ∧ acc.length < sizeLine ∧ R (upd H D (.lst (acc ++ [y])))
def wpS (σ2 σ : St) (vs : List Nat) (R : Prop) : Prop := wipe σ2 vs = wipe σ vs ∧ R
def lcS (J : It) (g : TG) (tt : TT) (te : TE) (vs : List Nat) (σ : St) (H1 : Hp) (Q : VK) : Prop := ∀ D, H1 D = none → ∃ W : Nat → Nat → Hp → Prop, (∃ m, W 0 m (upd H1 D (.lst []))) ∧ ∀ i m H, W i m H →
  (J.stop i H ∧ Q (.ref D) H) ∨ (J.go i H ∧ ∃ Nx : Hp → Prop, (∀ H', Nx H' → ∃ m', m' < m ∧ W (i + 1) m' H') ∧ ∀ x H', J.yld i H x H' → g x (wipe σ vs) H' fun σ2 H2 => wipe σ2 vs = wipe σ vs ∧ tt σ2 H2 fun b H3 =>
    if b = true then te σ2 H3 fun y H4 => ∃ acc, H4 D = some (.lst acc) ∧ acc.length < sizeLine ∧ Nx (upd H4 D (.lst (acc ++ [y]))) else Nx H3)
class SetN (σ : St) (n : Nat) (σ' : outParam St) : Prop where
  e : σ.set n none = σ'
instance setn0 {x : Option V} {σ : St} : SetN (x :: σ) 0 (none :: σ) := ⟨rfl⟩
instance setnS {x : Option V} {σ σ' : St} {n : Nat} [a : SetN σ n σ'] : SetN (x :: σ) (n + 1) (x :: σ') := ⟨by rw [List.set_cons_succ, a.e]⟩
class Wip (σ : St) (vs : List Nat) (σ' : outParam St) : Prop where
  e : wipe σ vs = σ'
instance wip0 {σ : St} : Wip σ [] σ := ⟨rfl⟩
instance wipS {σ σ1 σ2 : St} {v : Nat} {vs : List Nat} [a : Wip σ vs σ1] [b : SetN σ1 v σ2] : Wip σ (v :: vs) σ2 := ⟨by unfold wipe; rw [a.e, b.e]⟩
instance wipM0 {σ : St} : Wip σ (List.map (fun x : Str × Nat => x.2) []) σ := ⟨rfl⟩
instance wipMS {σ σ1 σ2 : St} {x : Str} {v : Nat} {own : List (Str × Nat)} [a : Wip σ (List.map (fun x : Str × Nat => x.2) own) σ1] [b : SetN σ1 v σ2] : Wip σ (List.map (fun x : Str × Nat => x.2) ((x, v) :: own)) σ2 := ⟨by rw [List.map_cons]; unfold wipe; rw [a.e, b.e]⟩
section
variable {σ σ0 : St} {H : Hp} {K : PySem.W.Frag} {p : Addr} {xs : List V} {g : TG} {wi : TI} {tt : TT} {te : TE} {vs : List Nat} {Q : VK} {J : It} {n : Nat} {lo : Int}
instance s_lc : Stp (tLc wi g tt te vs σ H Q) (wi σ H fun J H1 => lcS J g tt te vs σ H1 Q) := ⟨id⟩
instance s_yes {R : Bool → Hp → Prop} : Stp (tYes σ H R) (R true H) := ⟨id⟩
instance s_wp {R : Prop} {σ2 : St} [a : Wip σ2 vs σ0] [b : Wip σ vs σ0] : Stp (wpS σ2 σ vs R) R := ⟨fun h => ⟨by rw [a.e, b.e], h⟩⟩
theorem r_ap {D : Addr} {y : V} {R : Hp → Prop} {acc : List V} (h : H D = some (.lst acc)) (hl : acc.length < sizeLine) (q : ∀ H2, H2 D = some (.lst (acc ++ [y])) → Kp [D] H H2 → R H2) : apS D y H R :=
  ⟨acc, h, hl, q _ upd_same (Kp.put h trivial)⟩
theorem lc_by {G : Hp → Prop} {Y : Nat → Hp → V → Hp → Prop} (w : Walk J n G Y) [hw : Wip σ vs σ0] (Pv : Addr → Nat → Hp → Prop) (h0 : ∀ D H2, H D = none → H2 D = some (.lst []) → Kp [] H H2 → Pv D 0 H2) (hG : ∀ D i H', Pv D i H' → G H')
    (hs : ∀ D i x H' H'', i < n → Pv D i H' → Y i H' x H'' → g x σ0 H'' fun σ2 H2 => wpS σ2 σ vs (tt σ2 H2 fun b H3 => iteP b (te σ2 H3 fun y H4 => apS D y H4 (Pv D (i + 1))) (Pv D (i + 1) H3)))
    (hd : ∀ D H', Pv D n H' → Q (.ref D) H') : lcS J g tt te vs σ H Q := by
  intro D hD
  refine lc_it w (Pv D) (h0 D _ hD upd_same (Kp.new hD)) (fun i H' _ h => hG D i H' h) ?_ (hd D)
  intro i x H' H'' hi h y
  rw [hw.e]
  have q := hs D i x H' H'' hi h y
  unfold wpS at q
  rw [hw.e] at q
  exact q
theorem r_lcT (xs : List V) [hw : Wip σ vs σ0] (Pv : Addr → Nat → Hp → Prop) (h0 : ∀ D H2, H D = none → H2 D = some (.lst []) → Kp [] H H2 → Pv D 0 H2) (hG : ∀ D i H', Pv D i H' → SqT K H' p xs)
    (hs : ∀ D i x H', xs[i]? = some x → Pv D i H' → g x σ0 H' fun σ2 H2 => wpS σ2 σ vs (tt σ2 H2 fun b H3 => iteP b (te σ2 H3 fun y H4 => apS D y H4 (Pv D (i + 1))) (Pv D (i + 1) H3)))
    (hd : ∀ D H', Pv D xs.length H' → Q (.ref D) H') : lcS (Itt K p) g tt te vs σ H Q :=
  lc_by (walk_tup (K := K) (a := p) (xs := xs)) Pv h0 hG (fun D i x H1 H2 _ h y => by obtain ⟨rfl, y⟩ := y; exact hs D i x _ y h) hd
theorem r_lcL (xs : List V) [hw : Wip σ vs σ0] (Pv : Addr → Nat → Hp → Prop) (h0 : ∀ D H2, H D = none → H2 D = some (.lst []) → Kp [] H H2 → Pv D 0 H2) (hG : ∀ D i H', Pv D i H' → H' p = some (.lst xs))
    (hs : ∀ D i x H', xs[i]? = some x → Pv D i H' → g x σ0 H' fun σ2 H2 => wpS σ2 σ vs (tt σ2 H2 fun b H3 => iteP b (te σ2 H3 fun y H4 => apS D y H4 (Pv D (i + 1))) (Pv D (i + 1) H3)))
    (hd : ∀ D H', Pv D xs.length H' → Q (.ref D) H') : lcS (Itl K p) g tt te vs σ H Q :=
  lc_by (walk_list (K := K) (a := p) (xs := xs)) Pv h0 (fun D i H' h => SqL.of (hG D i H' h)) (fun D i x H1 H2 _ h y => by obtain ⟨rfl, y⟩ := y; exact hs D i x _ y h) hd
theorem r_lcR [hw : Wip σ vs σ0] (Pv : Addr → Nat → Hp → Prop) (h0 : ∀ D H2, H D = none → H2 D = some (.lst []) → Kp [] H H2 → Pv D 0 H2)
    (hs : ∀ D i H', i < n → Pv D i H' → g (.int (lo + (i : Int))) σ0 H' fun σ2 H2 => wpS σ2 σ vs (tt σ2 H2 fun b H3 => iteP b (te σ2 H3 fun y H4 => apS D y H4 (Pv D (i + 1))) (Pv D (i + 1) H3)))
    (hd : ∀ D H', Pv D n H' → Q (.ref D) H') : lcS (Itr lo n) g tt te vs σ H Q :=
  lc_by walk_range Pv h0 (fun _ _ _ _ => trivial) (fun D i x H1 H2 hi h y => by obtain ⟨rfl, rfl⟩ := y; exact hs D i _ hi h) hd
end
/-! ### rules with the written part by its name (within comprehensions) -/
section
variable {X : Cx} (K : PySem.W.Frag)
theorem ixT (h : X.K = K := by rfl) : IxR X (rIxT K) := h ▸ ix_tup
theorem ixL (h : X.K = K := by rfl) : IxR X (rIxL K) := h ▸ ix_list
theorem inS (h : X.K = K := by rfl) : OpR X (compareOp .In) (rIn K false) := h ▸ op_in_seq
theorem notInS (h : X.K = K := by rfl) : OpR X (compareOp .NotIn) (rIn K true) := h ▸ op_notIn_seq
theorem cgLen (h : X.K = K := by rfl) : CallR X (.builtin "len") (rLen K) := h ▸ cg_len
theorem cgList (h : X.K = K := by rfl) : CallR X (.type "list") (rListOf K) := h ▸ cg_list
theorem cgTuple (h : X.K = K := by rfl) : CallR X (.type "tuple") (rTupOf K) := h ▸ cg_tuple
theorem cgIsi (h : X.K = K := by rfl) : CallR X (.builtin "isinstance") (rIsi K) := h ▸ call_isi
theorem eqD {k : Nat} {A : Around} (r : Room k A) (h : X.K = K := by rfl) (ha : X.A = A := by rfl) : OpR X (compareOp .Eq) (rEqD K) := h ▸ op_eqD (by rw [ha]; exact r.units)
theorem neD {k : Nat} {A : Around} (r : Room k A) (h : X.K = K := by rfl) (ha : X.A = A := by rfl) : OpR X (compareOp .NotEq) (rNeD K) := h ▸ op_neD (by rw [ha]; exact r.units)
theorem slT (h : X.K = K := by rfl) : SlR X (rSlT K) := h ▸ sl_tup
end
/-! ### is None; any, all -/
def rIsNo : R2 := fun x y H Q => y = .non ∧ Q (.bl (decide (x = .non))) H
def rNotNo : R2 := fun x y H Q => y = .non ∧ Q (.bl (!decide (x = .non))) H
theorem cg_isN {X : Cx} : OpR X (compareOp .Is) rIsNo := op_isN
theorem cg_notN {X : Cx} : OpR X (compareOp .IsNot) rNotNo := op_notN
section
variable {H : Hp} {Q : VK} {p : Addr} {K : PySem.W.Frag} {bs : List Bool}
instance s_isN0 : Stp (rIsNo .non .non H Q) (Q (.bl true) H) := ⟨fun h => ⟨rfl, h⟩⟩
instance s_isN1 : Stp (rIsNo (.ref p) .non H Q) (Q (.bl false) H) := ⟨fun h => ⟨rfl, by rw [decide_eq_false (fun e => by cases e)]; exact h⟩⟩
instance s_notN0 : Stp (rNotNo .non .non H Q) (Q (.bl false) H) := ⟨fun h => ⟨rfl, h⟩⟩
instance s_notN1 : Stp (rNotNo (.ref p) .non H Q) (Q (.bl true) H) := ⟨fun h => ⟨rfl, by rw [decide_eq_false (fun e => by cases e)]; exact h⟩⟩
theorem r_any (h : H p = some (.lst (bs.map V.bl))) (q : Q (.bl (bs.any id)) H) : rAny K [.ref p] H Q := ⟨p, bs, rfl, SqL.of h, q⟩
theorem r_all (h : H p = some (.lst (bs.map V.bl))) (q : Q (.bl (bs.all id)) H) : rAll K [.ref p] H Q := ⟨p, bs, rfl, SqL.of h, q⟩
end
/-! ### list methods -/
instance s_bm {K : PySem.W.Frag} {T : String} {r : V → List V → Hp → VK → Prop} {to : TE} {t : TA} {σ : St} {H : Hp} {Q : VK} : Stp (tBM K T r to t σ H Q) (to σ H fun x H1 => tyV K T x H1 ∧ t σ H1 fun xs H2 => r x xs H2 Q) := ⟨id⟩
theorem r_tyL {K : PySem.W.Frag} {H : Hp} {l : Addr} {xs : List V} {R : Prop} (h : H l = some (.lst xs)) (q : R) : tyV K "list" (.ref l) H ∧ R := ⟨.inl ⟨rfl, xs, SqL.of h⟩, q⟩
theorem r_app {H : Hp} {l : Addr} {xs : List V} {y : V} {Q : VK} (h : H l = some (.lst xs)) (hl : xs.length < sizeLine) (q : ∀ H2, H2 l = some (.lst (xs ++ [y])) → Kp [l] H H2 → Q .non H2) : rAppend (.ref l) [y] H Q :=
  ⟨l, xs, y, rfl, rfl, h, hl, q _ upd_same (Kp.put h trivial)⟩
section
variable {H : Hp} {Q : VK} {l p : Addr} {K : PySem.W.Frag} {xs : List V} {y : V} {i : Int}
def rIns : V → List V → Hp → VK → Prop := fun x vs H Q => ∃ (l : Addr) (xs : List V) (i : Int) (y : V), x = .ref l ∧ vs = [.int i, y] ∧ H l = some (.lst xs) ∧ xs.length < sizeLine ∧ 0 ≤ i ∧ i < 2 ^ 63 ∧ Q .non (upd H l (.lst (xs.take i.toNat ++ [y] ++ xs.drop i.toNat)))
theorem cg_insert {X : Cx} : MtR X "list.insert" rIns := mt_insert
theorem r_ins (h : H l = some (.lst xs)) (hl : xs.length < sizeLine) (h0 : 0 ≤ i) (h1 : i ≤ 1000000) (q : ∀ H2, H2 l = some (.lst (xs.take i.toNat ++ [y] ++ xs.drop i.toNat)) → Kp [l] H H2 → Q .non H2) : rIns (.ref l) [.int i, y] H Q :=
  ⟨l, xs, i, y, rfl, rfl, h, hl, h0, by omega, q _ upd_same (Kp.put h trivial)⟩
theorem r_pop (h : H l = some (.lst xs)) (h0 : 0 ≤ i) (h1 : i < xs.length) (h2 : i ≤ 1000000) (q : ∀ y H2, xs[i.toNat]? = some y → H2 l = some (.lst (xs.eraseIdx i.toNat)) → Kp [l] H H2 → Q y H2) : rPopAt (.ref l) [.int i] H Q := by
  have e : i.toNat < xs.length := by omega
  refine ⟨l, xs, i, i.toNat, xs[i.toNat], rfl, rfl, h, by omega, by omega, ?_, List.getElem?_eq_getElem e, q _ _ (List.getElem?_eq_getElem e) upd_same (Kp.put h trivial)⟩
  unfold seqIndex?
  rw [if_neg (by omega : ¬ i < 0)]
  simp
  omega
theorem r_listT (h : SqT K H p xs) (q : ∀ l H2, H l = none → H2 l = some (.lst xs) → Kp [] H H2 → Q (.ref l) H2) : rListOf K [.ref p] H Q := ⟨p, xs, rfl, .inr h, fun l hl => q l _ hl upd_same (Kp.new hl)⟩
instance s_sl {r : V → Option Int → Option Int → Hp → VK → Prop} {te : TE} {tl th : TO} {σ : St} : Stp (tSl r te tl th σ H Q) (te σ H fun x H1 => tl σ H1 fun l H2 => th σ H2 fun u H3 => r x l u H3 Q) := ⟨id⟩
instance s_noPart {σ : St} {R : Option Int → Hp → Prop} : Stp (tNoPart σ H R) (R Option.none H) := ⟨id⟩
def asI (x : V) (R : Int → Prop) : Prop := ∃ i, x = .int i ∧ R i
instance s_asI {R : Int → Prop} : Stp (asI (.int i) R) (R i) := ⟨fun h => ⟨i, rfl, h⟩⟩
instance s_part {te : TE} {σ : St} {R : Option Int → Hp → Prop} : Stp (tPart te σ H R) (te σ H fun x H1 => asI x fun i => R (some i) H1) := ⟨id⟩
theorem r_slL {lo hi : Option Int} (h : H p = some (.lst xs)) (q : ∀ l H2, H l = none → H2 l = some (.lst (cutV xs lo hi)) → Kp [] H H2 → Q (.ref l) H2) : rSlL K (.ref p) lo hi H Q := ⟨p, xs, rfl, SqL.of h, fun l hl => q l _ hl upd_same (Kp.new hl)⟩
theorem slL {X : Cx} (K : PySem.W.Frag) (h : X.K = K := by rfl) : SlR X (rSlL K) := h ▸ sl_list
theorem cut_from {i : Int} (h : 0 ≤ i) : cutV xs (some i) none = xs.drop i.toNat := by
  obtain ⟨k, rfl⟩ : ∃ k : Nat, i = k := ⟨i.toNat, by omega⟩
  unfold cutV
  rw [HT.sIx_nat, HT.sIx_none, Int.toNat_natCast]
  by_cases hk : k ≤ xs.length
  · rw [Nat.min_eq_left hk, List.take_of_length_le (by rw [List.length_drop]; omega)]
  · rw [Nat.min_eq_right (by omega), List.drop_eq_nil_of_le (Nat.le_refl _), List.drop_eq_nil_of_le (by omega), List.take_nil]
/-- a list of bools in which True, False stands -/
theorem flat_bls (bs : List Bool) : (bs.map V.bl).all flatV = true := by
  induction bs with
  | nil => rfl
  | cons b bs ih => simpa [flatV] using ih
theorem inV_true (bs : List Bool) : inV (.bl true) (bs.map V.bl) = bs.any id := by
  unfold inV
  rw [List.any_map]
  congr 1
  funext b
  cases b <;> rfl
theorem inV_false (bs : List Bool) : (!inV (.bl false) (bs.map V.bl)) = bs.all id := by
  unfold inV
  induction bs with
  | nil => rfl
  | cons b bs ih =>
    simp only [List.map_cons, List.any_cons, List.all_cons, Bool.not_or, ih]
    cases b <;> rfl
end
/-! ### the walk's own steps (rows of tactics) -/
local macro_rules | `(tactic| walk_at "cg yes") => `(tactic| (first
  | assumption | decide | omega | (simp; done)
  | fail))
local macro_rules | `(tactic| walk_at "cg ne") => `(tactic| (first
  | assumption | (apply Ne.symm; assumption) | exact ne_newL (by assumption) (by walk_at "cg h") | exact ne_newR (by assumption) (by walk_at "cg h")
  | fail))
/-- what stands at an address, a tuple, from the last heap backwards -/
local macro_rules | `(tactic| walk_at "cg h") => `(tactic| (first
  | assumption
  | ((with_reducible show _ = some _); first
      | exact Kp.get0 (by assumption) (by walk_at "cg h") | exact Kp.get1 (by assumption) (by walk_at "cg ne") (by walk_at "cg h"))
  | ((with_reducible show SqT _ _ _ _); exact Kp.tup (by assumption) (by walk_at "cg h"))
  | ((with_reducible show Im _ _ _ _); exact Kp.im (by assumption) (by walk_at "cg h"))
  | ((with_reducible show ImAll _ _ _ _); exact Kp.imAll (by assumption) (by walk_at "cg h"))
  | fail))
/-- an address that was free -/
local macro_rules | `(tactic| walk_at "cg fr") => `(tactic| (first
  | assumption
  | exact Kp.free0 (by assumption) (by assumption)
  | exact Kp.free0 (by walk_at "cg kp") (by assumption)
  | fail))
/-- the frame from the entry on -/
local macro_rules | `(tactic| walk_at "cg kp") => `(tactic| (first
  | assumption
  | exact Kp.refl
  | exact Kp.tr0 (by assumption) (by walk_at "cg kp")
  | exact Kp.tr1 (by assumption) (by walk_at "cg kp")
  | exact Kp.trN (by assumption) (by walk_at "cg kp") (by walk_at "cg fr")
  | fail))
local macro_rules | `(tactic| walk_at "cg ty") => `(tactic| (first
  | exact .base (.int _) | exact .base (.bl _) | exact .base (.str _) | exact .base .non | exact SqT.ty (by walk_at "cg h") | exact .base (.lst (by walk_at "cg h"))
  | fail))
local macro_rules | `(tactic| walk_at "cg C") => `(tactic| (first
  | assumption | exact (show CMul _ _ from .inl ⟨by omega, by omega⟩) | exact (show CMul _ _ from .inr ⟨by omega, by omega⟩) | omega | decide
  | exact ⟨by decide, by decide, by decide⟩ | exact ⟨by omega, by omega⟩
  | fail))
local macro_rules | `(tactic| walk_at "cg s") => `(tactic| (first
  | (refine go1 inferInstance inferInstance ?_)
  | ((with_reducible refine r_rI ?_ ?_); (focus (walk_at "cg C")))
  | ((with_reducible apply r_ixL); (focus (walk_at "cg h")); exact rfl)
  | ((with_reducible apply r_ixT); (focus (walk_at "cg h")); exact rfl)
  | ((with_reducible apply r_lenL); (focus (walk_at "cg h")))
  | ((with_reducible apply r_lenT); (focus (walk_at "cg h")))
  | ((with_reducible apply r_gTup); (focus (walk_at "cg h")); exact rfl)
  | ((with_reducible refine r_mkT (K := ‹PySem.W.Frag›) ?_ ?_); (focus (exact Nat.le_of_ble_eq_true rfl)); intro _ _ _ _ _)
  | ((with_reducible refine r_mkL ?_ ?_); (focus (exact Nat.le_of_ble_eq_true rfl)); intro _ _ _ _ _)
  | ((with_reducible apply r_tupleL); (focus (walk_at "cg h")); intro _ _ _ _ _)
  | ((with_reducible apply r_listT); (focus (walk_at "cg h")); intro _ _ _ _ _)
  | ((with_reducible apply r_slL); (focus (walk_at "cg h")); intro _ _ _ _ _)
  | ((with_reducible apply r_listL); (focus (walk_at "cg h")); intro _ _ _ _ _)
  | ((with_reducible apply r_setL); (focus (walk_at "cg h")); exact rfl)
  | ((with_reducible apply r_isi); (focus (exact .ty _)); (focus (walk_at "cg ty")); (focus (first | exact kit_ty (r := true) (by decide +kernel) | exact kit_ty (r := false) (by decide +kernel))))
  | ((with_reducible apply r_inL); (focus (walk_at "cg h")); exact rfl; exact rfl; (focus (first | exact (by decide +kernel : _ = true) | exact (by decide +kernel : _ = false))))
  | ((with_reducible apply r_inT); (focus (walk_at "cg h")); exact rfl; exact rfl; (focus (first | exact (by decide +kernel : _ = true) | exact (by decide +kernel : _ = false))))
  | ((with_reducible apply r_tyL); (focus (walk_at "cg h")))
  | ((with_reducible refine r_app (xs := ?xs) ?h ?hl ?_); (case h => walk_at "cg h"); (case hl => first | exact Nat.lt_of_sub_pos (by decide) | (apply small1000; omega) | (apply small1000; simp; done) | (apply small1000; simp; omega)); intro _ _ _)
  | ((with_reducible apply r_isL); (focus (walk_at "cg h")))
  | ((with_reducible apply r_isT); (focus (walk_at "cg h")))
  | ((with_reducible apply r_isR1); (focus (first | omega | (constructor <;> decide))))
  | ((with_reducible refine if_T ?_ ?_); (focus (walk_at "cg yes"))) | ((with_reducible refine if_F ?_ ?_); (focus (walk_at "cg yes")))
  | ((with_reducible refine if_NT ?_ ?_); (focus (walk_at "cg yes"))) | ((with_reducible refine if_NF ?_ ?_); (focus (walk_at "cg yes")))
  | fail))
local macro_rules | `(tactic| walk_at "cg") => `(tactic| repeat (walk_at "cg s"))

/-! ### set(xs) of a list of ints, and sorted of it -/
section
open PySem.Spec PyProof.Rows
variable {P : Program} {w : World} {A : Around} {E : Value → Shared → Prop} {s : Shared}
/-- a new empty set; the iterator of the list at l -/
def oSet (w : World) : Obj := ⟨.type "set", none, .set #[] 0 (.fresh 0 0 (!w.params.followText "set-order")), #[]⟩
def oIt (l : Addr) : Obj := ⟨.type "list_iterator", none, .fields #[.ref l, .int 0 0], #[]⟩
/-- what the making of the set leaves: the set at n, every elder object -/
def SetDone (w : World) (h0 : Heap) (ns : List Int) (h : Heap) : Prop := ∃ c, SetR w h h0.objs.size (fun j => decide (j ∈ ns)) c ∧ c ≤ ns.length ∧ ∀ b o, h0.get? b = some o → h.get? b = some o
set_option maxHeartbeats 8000000 in
theorem set_made {l : Addr} {vs : Array Value} {ns : List Int} {Q : Value → Shared → Prop} (hc : A.handled = none) (hl : s.heap.IsList l vs) (hv : IntsAre vs.toList ns) (few : ns.length ≤ 4000)
    (q : ∀ h tk, SetDone w s.heap ns h → Q (.ref s.heap.objs.size) { s with heap := h, toks := tk }) : wpAny (model P w) A (call (.type "set") [.ref l]) Q E s := by
  have room : ns.length + 1 < scanBound := by unfold scanBound; omega
  have size : vs.size = ns.length := by simpa using IntsAre.length hv
  have atS : (s.heap.push (oSet w)).get? s.heap.objs.size = some (oSet w) := Heap.get?_push_size _ rfl
  have tyS : Shared.TypeIs { s with heap := s.heap.push (oSet w) } (.ref s.heap.objs.size) "set" := ⟨_, atS, rfl⟩
  have e1 := F.called_set.made
  have e2 := F.called_set.sub
  have e3 := F.called_set.notType
  have e4 := F.called_set.canCreate
  have e5 := F.typeCall_set_1 (.ref l)
  have e6 := F.called_set.init.lookup
  have e7 := F.called_set.init.bind (.ref s.heap.objs.size)
  obtain ⟨cc, tl, e0⟩ := F.called_set.mro
  apply wpAny_call
  apply codeAny_of_tree
  show wpAny _ _ (callAny (.type "set") _) _ _ _
  apply wpAny_pure
  refine ⟨Code.quiet_builtin _ (by decide +kernel), ?_⟩
  apply codeAny_builtin F.entry_type_call
  rw [Around.under_plain (weight_type_call_type "set" [.ref l] []) rfl]
  repeat any_goals first | wp_step | assumption
  refine codeAny_mono (code_set_led1 (E := E) (.ref l) (Q₁ := fun v z => v = .ref s.heap.objs.size ∧ z = { s with heap := s.heap.push (oSet w) }) ⟨rfl, rfl⟩) ?_
  rintro (e | f) z hz
  · exact hz
  · cases f
    case ret v =>
      obtain ⟨rfl, rfl⟩ := hz
      repeat any_goals first | wp_step | assumption
      refine codeAny_mono (codeAny_call_builtin F.called_set.init.plain F.entry_set_init (check_set_init_1 tyS ?go)
        (R := wants (fun r z => r = .none ∧ ∃ h tk, z = { s with heap := h, toks := tk } ∧ SetDone w s.heap ns h) E)) ?_
      case go =>
        obtain ⟨⟨c0, d0, t0, s0⟩, at0, cl0, n0, da0⟩ := hl
        dsimp only at cl0 da0
        subst cl0 da0
        have atL : (s.heap.push (oSet w)).get? l = some ⟨.type "list", d0, .seq vs n0, s0⟩ := Heap.get?_push_of_some _ at0
        have isL : (s.heap.push (oSet w)).IsList l vs := ⟨_, atL, rfl, n0, rfl⟩
        have f1 := F.sub_list_set
        have f2 := F.sub_list_frozenset
        have f3 : (Value.type "list" == Value.type "dict") = false := by decide
        unfold Builtin.«set.__init__» noKeywords Builtin.Frozenset.updateFrom
        generalize hw : pyIter = it0
        wp_walk
        subst hw
        apply wpAny_pyIter_list isL
        apply wpAny_bind
        apply wpAny_runValue
        have small : l < s.heap.objs.size := Heap.lt_size at0
        have big : (s.heap.push (oSet w)).objs.size = s.heap.objs.size + 1 := Heap.size_push ..
        have calm : A.in1.in1.in1.handled = none := by simpa using hc
        have n1 : l ≠ (s.heap.push (oSet w)).objs.size := by
          rw [big]
          exact Nat.ne_of_lt (Nat.lt_succ_of_lt small)
        have n2 : s.heap.objs.size ≠ (s.heap.push (oSet w)).objs.size := by
          rw [big]
          exact Nat.ne_of_lt (Nat.lt_succ_self _)
        refine set_update_ints (Walks.list calm _ l n1 vs).toS s.heap.objs.size (fun hm => ?f1) ns size room (fun i v ev => ?f2) (vs.size - 0) 0 _ rfl (Nat.zero_le _)
          ⟨⟨_, Heap.get?_push_size _ rfl, rfl, rfl⟩, isL.push _⟩ ⟨0, Nat.le_refl 0, setR_new_at (Heap.get?_push_of_some _ atS)⟩ ?f3
        case f1 =>
          rcases List.mem_cons.mp hm with e | hm
          · exact n2 e
          · exact Nat.ne_of_gt small (List.mem_singleton.mp hm)
        case f2 =>
          have hi : i < ns.length := size ▸ (Array.getElem?_eq_some_iff.mp ev).1
          obtain ⟨t, e⟩ := IntsAre.int_at hv i v (by simpa using ev)
          exact ⟨ns[i], t, by simp [hi], by simp [e, hi]⟩
        case f3 =>
          rintro ⟨h, g, d, tk, os⟩ c moved hcn hS
          obtain rfl : g = s.gens := moved.gens
          obtain rfl : d = s.drawn := moved.drawn
          obtain rfl : os = s.os := moved.os
          apply wpAny_pure
          show wpAny _ _ (ret Value.none) _ _ _
          apply wpAny_pure
          refine ⟨rfl, h, tk, rfl, c, hS, by omega, fun b o e => ?_⟩
          have lt := Heap.lt_size e
          refine moved.heap b o (fun hm => ?_) (Heap.get?_push_of_some _ (Heap.get?_push_of_some _ e))
          rcases List.mem_cons.mp hm with e | hm
          · exact Nat.ne_of_lt lt e
          · have e : b = (s.heap.push (oSet w)).objs.size := List.mem_singleton.mp hm
            rw [big] at e
            exact Nat.ne_of_lt (Nat.lt_succ_of_lt lt) e
      rintro (e | f) z hz
      · exact hz
      · cases f
        case ret v =>
          obtain ⟨rfl, h, tk, rfl, done⟩ := hz
          repeat any_goals first | wp_step | assumption
          exact q h tk done
        all_goals exact hz.elim
    all_goals exact hz.elim
end
/-- set(xs), xs a list of ints -/
def rSetL (K : PySem.W.Frag) (w : World) : List V → Hp → VK → Prop := fun vs H Q => ∃ (l : Addr) (ns : List Int), vs = [.ref l] ∧ SqL K H l (ns.map V.int) ∧ ns.length ≤ 4000 ∧
  ∀ p c, H p = none → c ≤ ns.length → Q (.ref p) (upd H p (SetO w p (fun j => decide (j ∈ ns)) c))
theorem cg_setL {X : Cx} (hc : X.calm = true) : CallR X (.type "set") (rSetL X.K X.w) := by
  rintro pins s σ H vs us Q I r ⟨l, ns, rfl, hS, hn, q⟩
  obtain ⟨its, rv, pl, hz⟩ := I.list hS
  have e1 := Vals.ref1 r
  subst e1
  have hv : PyProof.Rows.IntsAre its.toArray.toList ns := by simpa using rv.ints
  refine set_made (I.ok.hd hc) pl.isList hv hn ?_
  rintro h tk ⟨c, hR, hcn, keep⟩
  have free : H s.heap.objs.size = none := I.hok.fresh (Nat.le_refl _)
  exact ⟨.ref _, _, I.laid (t' := tk) keep (Nat.le_refl _) (setO_new hR), rfl, q _ c free hcn⟩

/-! ### the tape and the draw -/
/-- a tape at t over the numbers at c -/
structure Tp (t c : Addr) (H : Hp) : Prop where
  ex : ∃ (ns : List Int) (k z : Int), H t = some (.lst [.ref c, .int k, .int z]) ∧ H c = some (.lst (ns.map V.int)) ∧ 0 ≤ k ∧ 0 ≤ z
theorem Tp.ne {t c : Addr} {H : Hp} (h : Tp t c H) : t ≠ c := by
  obtain ⟨ns, k, z, h1, h2, _⟩ := h.ex
  refine ne_of h1 h2 fun e => ?_
  cases ns with
  | nil => simp at e
  | cons n ns => simp at e
theorem Tp.mut {t c : Addr} {H : Hp} (h : Tp t c H) : Mut (H t) := by
  obtain ⟨ns, k, z, h1, h2, _⟩ := h.ex
  rw [h1]
  trivial
theorem Tp.it {t c : Addr} {H : Hp} (h : Tp t c H) : ∃ o, H t = some o := by
  obtain ⟨ns, k, z, h1, h2, _⟩ := h.ex
  exact ⟨_, h1⟩
theorem Tp.itc {t c : Addr} {H : Hp} (h : Tp t c H) : ∃ o, H c = some o := by
  obtain ⟨ns, k, z, h1, h2, _⟩ := h.ex
  exact ⟨_, h2⟩
theorem Tp.kp {t c : Addr} {S : List Addr} {H H' : Hp} (k : Kp S H H') (h : Tp t c H) (n1 : ¬ t ∈ S) (n2 : ¬ c ∈ S) : Tp t c H' := by
  obtain ⟨ns, j, z, h1, h2, h3⟩ := h.ex
  exact ⟨ns, j, z, k.get n1 h1, k.get n2 h2, h3⟩
theorem Tp.kp0 {t c : Addr} {H H' : Hp} (k : Kp [] H H') (h : Tp t c H) : Tp t c H' := h.kp k (fun z => nomatch z) (fun z => nomatch z)
/-- no draw is asked for more -/
def bigB : Int := 2 ^ 240
theorem bigB_ok {z m : Int} (h1 : 1 ≤ m) (h2 : m < bigB) : CDivW z m := by
  unfold bigB at h2
  exact wide_div (b := 240) (by omega) (by omega) (by decide) (by decide)
def spDraw : Sp := fun vs H Q _ => ∃ (t c : Addr) (m : Int), vs = [.ref t, .int m] ∧ Tp t c H ∧ 1 ≤ m ∧ m < bigB ∧ ∀ (d : Int) (H' : Hp), 0 ≤ d → d < m → Tp t c H' → Kp [t] H H' → Q (.int d) H'
theorem spDraw_i {t c : Addr} {m : Int} {H : Hp} {Q : VK} {E : XK} (h : Tp t c H) (h1 : 1 ≤ m) (h2 : m < bigB) (k : ∀ (d : Int) (H' : Hp), 0 ≤ d → d < m → Tp t c H' → Kp [t] H H' → Q (.int d) H') : spDraw [.ref t, .int m] H Q E :=
  ⟨t, c, m, rfl, h, h1, h2, k⟩
def spTape (K : PySem.W.Frag) : Sp := fun vs H Q _ => ∃ (a : Addr) (ns : List Int), vs = [.ref a] ∧ SqL K H a (ns.map V.int) ∧ ∀ (t c : Addr) (H' : Hp), H t = none → H c = none → Tp t c H' → Kp [] H H' → Q (.ref t) H'
theorem Tp.kp1 {t c p : Addr} {H H' : Hp} (k : Kp [p] H H') (h : Tp t c H) (n1 : t ≠ p) (n2 : c ≠ p) : Tp t c H' := h.kp k (fun z => n1 (by simpa using z)) (fun z => n2 (by simpa using z))
local macro_rules | `(tactic| walk_at "cg h") => `(tactic| (first
  | ((with_reducible show Tp _ _ _); exact Tp.kp0 (by assumption) (by walk_at "cg h"))
  | fail))
local macro_rules | `(tactic| walk_at "cg h") => `(tactic| (first
  | ((with_reducible show Tp _ _ _); exact Tp.kp1 (by assumption) (by walk_at "cg h") (by walk_at "cg ne") (by walk_at "cg ne"))
  | fail))
local macro_rules | `(tactic| walk_at "cg h") => `(tactic| assumption)
theorem Tp.nef {t c p : Addr} {H : Hp} (hp : H p = none) (h : Tp t c H) : p ≠ t := by
  obtain ⟨o, e⟩ := h.it
  exact (ne_of_none e hp).symm
theorem Tp.nefc {t c p : Addr} {H : Hp} (hp : H p = none) (h : Tp t c H) : p ≠ c := by
  obtain ⟨o, e⟩ := h.itc
  exact (ne_of_none e hp).symm
local macro_rules | `(tactic| walk_at "cg ne") => `(tactic| (first
  | exact Tp.nef (by assumption) (by walk_at "cg h") | exact (Tp.nef (by assumption) (by walk_at "cg h")).symm | exact Tp.nefc (by assumption) (by walk_at "cg h") | exact (Tp.nefc (by assumption) (by walk_at "cg h")).symm
  | fail))
theorem Tp.base {t c : Addr} {H : Hp} (T : Tp t c H) : Kp [t] H H := .base fun b hb => by
  rw [List.mem_singleton] at hb
  subst hb
  exact T.mut
local macro_rules | `(tactic| walk_at "cg kp") => `(tactic| (first
  | ((with_reducible show Kp [_] _ _); exact Tp.base (by assumption))
  | fail))
theorem Tp.free {t c p : Addr} {H0 H1 : Hp} (hp : H1 p = none) (k : Kp [t] H0 H1) (T : Tp t c H1) : H0 p = none := k.free hp fun b hb => by
  rw [List.mem_singleton] at hb
  subst hb
  exact T.it
local macro_rules | `(tactic| walk_at "cg fr") => `(tactic| (first
  | assumption
  | exact Tp.free (by assumption) (by walk_at "cg kp") (by walk_at "cg h")
  | fail))
local macro_rules | `(tactic| walk_at "cg dr") => `(tactic| ((with_reducible refine spDraw_i (c := ?c) ?h ?h1 ?h2 ?_); (case h => walk_at "cg h"); (case h1 => first | omega | decide); (case h2 => first | (with_reducible assumption) | decide)))
local macro_rules | `(tactic| walk_at "cg s") => `(tactic| (walk_at "cg dr"; intro _ _ _ _ _ _))

/-! ### relations and literals -/
inductive Rel where
  | le | ge | eq | ne
  deriving DecidableEq
def Rel.s : Rel → Str
  | .le => "<="
  | .ge => ">="
  | .eq => "="
  | .ne => "!="
def Rel.h : Rel → Int → Int → Bool
  | .le, a, b => decide (a ≤ b)
  | .ge, a, b => decide (b ≤ a)
  | .eq, a, b => decide (a = b)
  | .ne, a, b => decide (a ≠ b)
def Rel.neg : Rel → Rel
  | .le => .ge
  | .ge => .le
  | .eq => .ne
  | .ne => .eq
def Rel.nnum : Rel → Int → Int
  | .le, a => a + 1
  | .ge, a => a - 1
  | _, a => a
theorem Rel.neg_neg (r : Rel) : r.neg.neg = r := by cases r <;> rfl
theorem Rel.nnum_nnum (r : Rel) (a : Int) : r.neg.nnum (r.nnum a) = a := by
  cases r <;> simp [Rel.neg, Rel.nnum] <;> omega
theorem Rel.neg_h (r : Rel) (x a : Int) : r.neg.h x (r.nnum a) = !r.h x a := by
  cases r
  · simp only [Rel.neg, Rel.nnum, Rel.h]
    rw [Bool.eq_iff_iff]; simp; omega
  · simp only [Rel.neg, Rel.nnum, Rel.h]
    rw [Bool.eq_iff_iff]; simp; omega
  · simp [Rel.neg, Rel.nnum, Rel.h]
  · simp [Rel.neg, Rel.nnum, Rel.h]
theorem ix_rel3 {K : PySem.W.Frag} {p : Addr} {H : Hp} {Q : VK} {d : Int} (h : H p = some (.lst [.str (Str.ofString "<="), .str (Str.ofString ">="), .str (Str.ofString "=")])) (h0 : 0 ≤ d) (h1 : d < 3) (q : ∀ r : Rel, r ≠ .ne → Q (.str r.s) H) : rIxL K (.ref p) (.int d) H Q := by
  have e : d = 0 ∨ d = 1 ∨ d = 2 := by omega
  rcases e with rfl | rfl | rfl
  · exact r_ixL h rfl (q .le (by decide))
  · exact r_ixL h rfl (q .ge (by decide))
  · exact r_ixL h rfl (q .eq (by decide))
def spRel : Sp := fun vs H Q _ => ∃ (r : Rel) (a b : Int), vs = [.str r.s, .int a, .int b] ∧ Q (.bl (r.h a b)) H
theorem spRel_i (r : Rel) {a b : Int} {H : Hp} {Q : VK} {E : XK} (q : Q (.bl (r.h a b)) H) : spRel [.str r.s, .int a, .int b] H Q E := ⟨r, a, b, rfl, q⟩
/-- a literal stands at p -/
abbrev LitAt (K : PySem.W.Frag) (H : Hp) (p : Addr) (v : Int) (r : Rel) (a : Int) : Prop := SqT K H p [.int v, .str r.s, .int a]
def spLit (K : PySem.W.Frag) : Sp := fun vs H Q _ => ∃ (p : Addr) (v : Int) (r : Rel) (a x : Int), vs = [.ref p, .int x] ∧ LitAt K H p v r a ∧ Q (.bl (r.h x a)) H
def spNeg (K : PySem.W.Frag) : Sp := fun vs H Q _ => ∃ (p : Addr) (v : Int) (r : Rel) (a : Int), vs = [.ref p] ∧ LitAt K H p v r a ∧ ∀ (p' : Addr) (H' : Hp), LitAt K H' p' v r.neg (r.nnum a) → Kp [] H H' → Q (.ref p') H'
def spSame : Sp := fun vs H Q _ => ∃ (a b : Bool), vs = [.bl a, .bl b] ∧ Q (.bl (decide (a = b))) H
theorem ix_rel4 {K : PySem.W.Frag} {p : Addr} {H : Hp} {Q : VK} {d : Int} (h : H p = some (.lst [.str (Str.ofString "<="), .str (Str.ofString ">="), .str (Str.ofString "="), .str (Str.ofString "!=")])) (h0 : 0 ≤ d) (h1 : d < 4) (q : ∀ r : Rel, Q (.str r.s) H) : rIxL K (.ref p) (.int d) H Q := by
  have e : d = 0 ∨ d = 1 ∨ d = 2 ∨ d = 3 := by omega
  rcases e with rfl | rfl | rfl | rfl
  · exact r_ixL h rfl (q .le)
  · exact r_ixL h rfl (q .ge)
  · exact r_ixL h rfl (q .eq)
  · exact r_ixL h rfl (q .ne)
def litD (v : Int) (r : Rel) (a : Int) : PyData := .tuple [.int v, .str r.s, .int a]
theorem Rel.ok (r : Rel) : PyData.strOk r.s = true := by cases r <;> decide +kernel
theorem litD_shaped (v : Int) (r : Rel) (a : Int) : SeqAt.shaped (litD v r a) = true := by
  simp [litD, Rel.ok, SeqAt.shaped, PyData.canLay0, PyData.canLayAll0, PyData.depth, PyData.depthAll]
theorem litD_self (v : Int) (r : Rel) (a : Int) : PyData.eqv (litD v r a) (litD v r a) = true := by
  simp [litD, PyData.eqv, PyData.eqvAll]
theorem LitAt.dp {K : PySem.W.Frag} {H : Hp} {p : Addr} {v : Int} {r : Rel} {a : Int} (h : LitAt K H p v r a) : Dp K H (.ref p) (litD v r a) :=
  .tup h (.cons (.int _) (.cons (.str _) (.cons (.int _) .nil)))
local macro_rules | `(tactic| walk_at "cg s") => `(tactic| (with_reducible refine spRel_i _ ?_))
theorem spSame_i {a b : Bool} {H : Hp} {Q : VK} {E : XK} (q : Q (.bl (decide (a = b))) H) : spSame [.bl a, .bl b] H Q E := ⟨a, b, rfl, q⟩
local macro_rules | `(tactic| walk_at "cg s") => `(tactic| (with_reducible refine spSame_i ?_))
theorem spLit_i {K : PySem.W.Frag} {H : Hp} {Q : VK} {E : XK} {p : Addr} {v : Int} {r : Rel} {a x : Int} (h : LitAt K H p v r a) (q : Q (.bl (r.h x a)) H) : spLit K [.ref p, .int x] H Q E := ⟨p, v, r, a, x, rfl, h, q⟩
local macro_rules | `(tactic| walk_at "cg s") => `(tactic| ((with_reducible show spLit _ _ _ _ _); refine spLit_i (by walk_at "cg h") ?_))

/-! ### terms and rows -/
structure Shp (n : Nat) (d : PyData) : Prop where
  lay : d.canLay0 = true
  dep : d.depth ≤ n
theorem Shp.int {n : Nat} (i : Int) : Shp n (.int i) := ⟨rfl, Nat.zero_le _⟩
theorem Shp.bool {n : Nat} (b : Bool) : Shp n (.bool b) := ⟨rfl, Nat.zero_le _⟩
theorem Shp.none {n : Nat} : Shp n .none := ⟨rfl, Nat.zero_le _⟩
theorem Shp.str {n : Nat} {x : Str} (h : PyData.strOk x = true) : Shp n (.str x) := ⟨by simp only [PyData.canLay0]; exact h, Nat.zero_le _⟩
theorem shpAll {n : Nat} : ∀ {ds : List PyData}, (∀ d ∈ ds, Shp n d) → PyData.canLayAll0 ds = true ∧ PyData.depthAll ds ≤ n
  | [], _ => ⟨rfl, Nat.zero_le _⟩
  | d :: ds, h => by
    have h1 := h d List.mem_cons_self
    have h2 := shpAll (ds := ds) fun e he => h e (List.mem_cons_of_mem _ he)
    refine ⟨?_, ?_⟩
    · simp only [PyData.canLayAll0, h1.lay, h2.1, Bool.and_self]
    · simp only [PyData.depthAll]
      exact Nat.max_le.mpr ⟨h1.dep, h2.2⟩
theorem Shp.tup {n : Nat} {ds : List PyData} (h : ∀ d ∈ ds, Shp n d) : Shp (n + 1) (.tuple ds) := by
  have q := shpAll h
  exact ⟨by simp only [PyData.canLay0]; exact q.1, by simp only [PyData.depth]; omega⟩
theorem Shp.list {n : Nat} {ds : List PyData} (h : ∀ d ∈ ds, Shp n d) : Shp (n + 1) (.list ds) := by
  have q := shpAll h
  exact ⟨by simp only [PyData.canLay0]; exact q.1, by simp only [PyData.depth]; omega⟩
theorem Shp.mono {n m : Nat} {d : PyData} (h : Shp n d) (l : n ≤ m) : Shp m d := ⟨h.lay, Nat.le_trans h.dep l⟩
theorem Shp.ok {n : Nat} {d : PyData} (h : Shp n d) (l : n ≤ 64 := by decide) : SeqAt.shaped d = true := by
  unfold SeqAt.shaped
  rw [h.lay, decide_eq_true (Nat.le_trans h.dep l)]
  rfl
theorem Shp.self {n : Nat} {d : PyData} (h : Shp n d) : PyData.eqv d d = true := PySem.SeqAt.eqv_refl d h.lay
theorem shp_nil {n : Nat} : ∀ d ∈ ([] : List PyData), Shp n d := fun _ h => by cases h
theorem shp_cons {n : Nat} {d : PyData} {ds : List PyData} (h : Shp n d) (h' : ∀ e ∈ ds, Shp n e) : ∀ e ∈ d :: ds, Shp n e := fun e he => by
  rcases List.mem_cons.mp he with rfl | he
  · exact h
  · exact h' e he
theorem atI_nat {α : Type} {xs : List α} {i : Int} (h0 : 0 ≤ i) (h1 : i < xs.length) : atI xs i = xs[i.toNat]? := by
  simp [atI, ixN, h0, h1]
theorem atI_ints {ns : List Int} {i : Int} (h0 : 0 ≤ i) (h1 : i < ns.length) : atI (ns.map V.int) i = some (.int (ns.getD i.toNat 0)) := by
  have e : i.toNat < ns.length := by omega
  rw [atI_nat h0 (by rw [List.length_map]; exact h1)]
  simp [e]
abbrev Tms := List (Int × Int)
def tD (z : Int × Int) : PyData := .tuple [.int z.1, .int z.2]
def tmD (ts : Tms) : PyData := .tuple (ts.map tD)
def negT (ts : Tms) : Tms := ts.map fun z => (z.1, -z.2)
def sumAt (ts : Tms) (pt : List Int) : Int := (ts.map fun z => z.2 * pt.getD z.1.toNat 0).sum
theorem tD_shp (z : Int × Int) : Shp 1 (tD z) := .tup (shp_cons (.int _) (shp_cons (.int _) shp_nil))
theorem tmD_shp (ts : Tms) : Shp 2 (tmD ts) := .tup fun d hd => by
  obtain ⟨z, _, rfl⟩ := List.mem_map.mp hd
  exact tD_shp z
theorem sumAt_snoc (ts : Tms) (z : Int × Int) (pt : List Int) : sumAt (ts ++ [z]) pt = sumAt ts pt + z.2 * pt.getD z.1.toNat 0 := by
  simp [sumAt]
theorem sumAt_take {ts : Tms} {z : Int × Int} {i : Nat} (pt : List Int) (h : ts[i]? = some z) : sumAt (ts.take (i + 1)) pt = sumAt (ts.take i) pt + z.2 * pt.getD z.1.toNat 0 := by
  rw [List.take_add_one, h]
  exact sumAt_snoc _ _ _
theorem map_take_snoc {α β : Type} {l : List α} {f : α → β} {i : Nat} {x : α} (h : l[i]? = some x) : (l.take (i + 1)).map f = (l.take i).map f ++ [f x] := by
  rw [List.take_add_one, h]
  simp
/-- the terms stand within a point of n numbers and are small -/
def TmOk (ts : Tms) (n : Nat) : Prop := ∀ z ∈ ts, 0 ≤ z.1 ∧ z.1 < n ∧ -1000000000000 < z.2 ∧ z.2 < 1000000000000
def spSum (K : PySem.W.Frag) : Sp := fun vs H Q _ => ∃ (p q : Addr) (ts : Tms) (pt : List Int), vs = [.ref p, .ref q] ∧ Im K H (.ref p) (tmD ts) ∧ SqT K H q (pt.map V.int) ∧ TmOk ts pt.length ∧ Q (.int (sumAt ts pt)) H
def spNegT (K : PySem.W.Frag) : Sp := fun vs H Q _ => ∃ (p : Addr) (ts : Tms), vs = [.ref p] ∧ Im K H (.ref p) (tmD ts) ∧ ts.length ≤ 1000 ∧ ∀ (p' : Addr) (H' : Hp), Im K H' (.ref p') (tmD (negT ts)) → Kp [] H H' → Q (.ref p') H'

/-! ### data: when equal -/
mutual
/-- no bool, no dict, no list within -/
def nb : PyData → Bool
  | .none => true
  | .int _ => true
  | .str _ => true
  | .tuple xs => nbAll xs
  | _ => false
def nbAll : List PyData → Bool
  | [] => true
  | x :: xs => nb x && nbAll xs
end
mutual
theorem eqv_nb : ∀ (d e : PyData), nb d = true → nb e = true → PyData.eqv d e = true → d = e
  | .none, .none, _, _, _ => rfl
  | .int i, .int j, _, _, h => by
    have h' : (i == j) = true := by simpa only [PyData.eqv] using h
    rw [beq_iff_eq.mp h']
  | .str i, .str j, _, _, h => by
    have h' : (i == j) = true := by simpa only [PyData.eqv] using h
    rw [beq_iff_eq.mp h']
  | .tuple xs, .tuple ys, h1, h2, h => by
    rw [eqvAll_nb xs ys (by simpa only [nb] using h1) (by simpa only [nb] using h2) (by simpa only [PyData.eqv] using h)]
  | .none, .int _, _, _, h => by simp [PyData.eqv] at h
  | .none, .str _, _, _, h => by simp [PyData.eqv] at h
  | .none, .tuple _, _, _, h => by simp [PyData.eqv] at h
  | .int _, .none, _, _, h => by simp [PyData.eqv] at h
  | .int _, .str _, _, _, h => by simp [PyData.eqv] at h
  | .int _, .tuple _, _, _, h => by simp [PyData.eqv] at h
  | .str _, .none, _, _, h => by simp [PyData.eqv] at h
  | .str _, .int _, _, _, h => by simp [PyData.eqv] at h
  | .str _, .tuple _, _, _, h => by simp [PyData.eqv] at h
  | .tuple _, .none, _, _, h => by simp [PyData.eqv] at h
  | .tuple _, .int _, _, _, h => by simp [PyData.eqv] at h
  | .tuple _, .str _, _, _, h => by simp [PyData.eqv] at h
  | .bool _, _, h, _, _ => by simp [nb] at h
  | .list _, _, h, _, _ => by simp [nb] at h
  | .dict _, _, h, _, _ => by simp [nb] at h
  | _, .bool _, _, h, _ => by simp [nb] at h
  | _, .list _, _, h, _ => by simp [nb] at h
  | _, .dict _, _, h, _ => by simp [nb] at h
theorem eqvAll_nb : ∀ (ds es : List PyData), nbAll ds = true → nbAll es = true → PyData.eqvAll ds es = true → ds = es
  | [], [], _, _, _ => rfl
  | [], _ :: _, _, _, h => by simp [PyData.eqvAll] at h
  | _ :: _, [], _, _, h => by simp [PyData.eqvAll] at h
  | d :: ds, e :: es, h1, h2, h => by
    simp only [nbAll, Bool.and_eq_true] at h1 h2
    simp only [PyData.eqvAll, Bool.and_eq_true] at h
    rw [eqv_nb d e h1.1 h2.1 h.1, eqvAll_nb ds es h1.2 h2.2 h.2]
end
theorem nbAll_of {ds : List PyData} (h : ∀ d ∈ ds, nb d = true) : nbAll ds = true := by
  induction ds with
  | nil => rfl
  | cons d ds ih => simp only [nbAll, h d List.mem_cons_self, ih fun e he => h e (List.mem_cons_of_mem _ he), Bool.and_self]
/-- an encoding whose values are equal exactly if the data are -/
theorem eqv_dec {α : Type} [DecidableEq α] {f : α → PyData} (hf : ∀ a b, f a = f b → a = b) (hn : ∀ a, nb (f a) = true) (hs : ∀ a, (f a).canLay0 = true) (a b : α) : PyData.eqv (f a) (f b) = decide (a = b) := by
  by_cases h : a = b
  · subst h
    rw [PySem.SeqAt.eqv_refl _ (hs a), decide_eq_true rfl]
  · rw [decide_eq_false h]
    cases q : PyData.eqv (f a) (f b) with
    | false => rfl
    | true => exact absurd (hf a b (eqv_nb _ _ (hn a) (hn b) q)) h
theorem map_inj {α β : Type} {f : α → β} (hf : ∀ a b, f a = f b → a = b) : ∀ {xs ys : List α}, xs.map f = ys.map f → xs = ys
  | [], [], _ => rfl
  | [], _ :: _, h => by simp at h
  | _ :: _, [], h => by simp at h
  | x :: xs, y :: ys, h => by
    simp only [List.map_cons, List.cons.injEq] at h
    rw [hf x y h.1, map_inj hf h.2]
theorem tD_inj (a b : Int × Int) (h : tD a = tD b) : a = b := by
  simp only [tD, PyData.tuple.injEq, List.cons.injEq, PyData.int.injEq, and_true] at h
  exact Prod.ext h.1 h.2
theorem tmD_inj (a b : Tms) (h : tmD a = tmD b) : a = b := by
  simp only [tmD, PyData.tuple.injEq] at h
  exact map_inj tD_inj h
theorem tmD_nb (a : Tms) : nb (tmD a) = true := by
  simp only [tmD, nb]
  exact nbAll_of fun d hd => by
    obtain ⟨z, _, rfl⟩ := List.mem_map.mp hd
    rfl
theorem tmD_eqv (a b : Tms) : PyData.eqv (tmD a) (tmD b) = decide (a = b) := eqv_dec tmD_inj tmD_nb (fun a => (tmD_shp a).lay) a b
/-! ### literals and facts -/
structure Lit where
  v : Int
  r : Rel
  a : Int
  deriving DecidableEq
def Lit.d (l : Lit) : PyData := litD l.v l.r l.a
theorem Rel.s_inj (a b : Rel) (h : a.s = b.s) : a = b := by
  have e : (decide (a = b) || !decide (a.s = b.s)) = true := by
    cases a <;> cases b <;> decide +kernel
  rw [h, decide_eq_true rfl, Bool.not_true, Bool.or_false] at e
  exact of_decide_eq_true e
theorem Lit.d_inj (a b : Lit) (h : a.d = b.d) : a = b := by
  simp only [Lit.d, litD, PyData.tuple.injEq, List.cons.injEq, PyData.int.injEq, PyData.str.injEq, and_true] at h
  obtain ⟨h1, h2, h3⟩ := h
  cases a
  cases b
  simp only at h1 h2 h3
  rw [h1, Rel.s_inj _ _ h2, h3]
theorem Lit.shp (l : Lit) : Shp 1 l.d := .tup (shp_cons (.int _) (shp_cons (.str (Rel.ok _)) (shp_cons (.int _) shp_nil)))
theorem Lit.d_nb (l : Lit) : nb l.d = true := rfl
theorem Lit.eqv (a b : Lit) : PyData.eqv a.d b.d = decide (a = b) := eqv_dec Lit.d_inj Lit.d_nb (fun a => (Lit.shp a).lay) a b
def litsD (ls : List Lit) : PyData := .tuple (ls.map Lit.d)
theorem litsD_shp (ls : List Lit) : Shp 2 (litsD ls) := .tup fun d hd => by
  obtain ⟨z, _, rfl⟩ := List.mem_map.mp hd
  exact Lit.shp z
def Lit.h (l : Lit) (pt : List Int) : Bool := l.r.h (pt.getD l.v.toNat 0) l.a
inductive Fact where
  | row (ts : Tms) (n : Int)
  | any (ls : List Lit)
  deriving DecidableEq
def Fact.d : Fact → PyData
  | .row ts n => .tuple [.str (Str.ofString "row"), tmD ts, .int n]
  | .any ls => .tuple [.str (Str.ofString "any"), litsD ls]
theorem Fact.shp (f : Fact) : Shp 3 f.d := by
  cases f with
  | row ts n => exact .tup (shp_cons (.str (by decide +kernel)) (shp_cons (tmD_shp ts) (shp_cons (.int _) shp_nil)))
  | any ls => exact .tup (shp_cons (.str (by decide +kernel)) (shp_cons (litsD_shp ls) shp_nil))
def Fact.h (pt : List Int) : Fact → Bool
  | .row ts n => decide (sumAt ts pt ≤ n)
  | .any ls => ls.any fun l => l.h pt
abbrev FactAt (K : PySem.W.Frag) (H : Hp) (p : Addr) (f : Fact) : Prop := Im K H (.ref p) f.d
section
variable {K : PySem.W.Frag} {H : Hp} {p : Addr} {ts : Tms} {n : Int} {ls : List Lit} {l : Lit} {x : V}
theorem row_open (h : FactAt K H p (.row ts n)) : ∃ q, SqT K H p [.str (Str.ofString "row"), .ref q, .int n] ∧ Im K H (.ref q) (tmD ts) := by
  obtain ⟨xs, h1, h2⟩ := Im.open h
  cases h2 with
  | cons a1 h2 =>
    cases h2 with
    | cons a2 h2 =>
      cases h2 with
      | cons a3 h2 =>
        cases h2
        cases a1
        cases a3
        obtain ⟨q, rfl⟩ := a2.isRef
        exact ⟨q, h1, a2⟩
theorem any_open (h : FactAt K H p (.any ls)) : ∃ q, SqT K H p [.str (Str.ofString "any"), .ref q] ∧ Im K H (.ref q) (litsD ls) := by
  obtain ⟨xs, h1, h2⟩ := Im.open h
  cases h2 with
  | cons a1 h2 =>
    cases h2 with
    | cons a2 h2 =>
      cases h2
      cases a1
      obtain ⟨q, rfl⟩ := a2.isRef
      exact ⟨q, h1, a2⟩
theorem row_mk (h1 : SqT K H p [.str (Str.ofString "row"), x, .int n]) (h2 : Im K H x (tmD ts)) : FactAt K H p (.row ts n) := .tup h1 (.cons (.str _) (.cons h2 (.cons (.int _) .nil)))
theorem any_mk (h1 : SqT K H p [.str (Str.ofString "any"), x]) (h2 : Im K H x (litsD ls)) : FactAt K H p (.any ls) := .tup h1 (.cons (.str _) (.cons h2 .nil))
theorem lit_mk {v a : Int} {r : Rel} (h : LitAt K H p v r a) : Im K H (.ref p) (Lit.d ⟨v, r, a⟩) := .tup h (.cons (.int _) (.cons (.str _) (.cons (.int _) .nil)))
theorem lit_at (h : Im K H x l.d) : ∃ q, x = .ref q ∧ LitAt K H q l.v l.r l.a := by
  obtain ⟨q, rfl⟩ := Im.isRef h
  exact ⟨q, rfl, Im.sq h rfl⟩
theorem term_at {z : Int × Int} (h : Im K H x (tD z)) : ∃ q, x = .ref q ∧ SqT K H q [.int z.1, .int z.2] := by
  obtain ⟨q, rfl⟩ := Im.isRef h
  exact ⟨q, rfl, Im.sq h rfl⟩
theorem mapGet {α : Type} {f : α → PyData} {xs : List V} {as : List α} {i : Nat} (h : ImAll K H xs (as.map f)) (e : xs[i]? = some x) : ∃ a, as[i]? = some a ∧ Im K H x (f a) := by
  obtain ⟨d, h1, h2⟩ := h.get e
  rw [List.getElem?_map] at h1
  cases q : as[i]? with
  | none =>
    rw [q] at h1
    cases h1
  | some a =>
    rw [q] at h1
    cases h1
    exact ⟨a, rfl, h2⟩
theorem mapLen {α : Type} {f : α → PyData} {xs : List V} {as : List α} (h : ImAll K H xs (as.map f)) : xs.length = as.length := by
  rw [h.length, List.length_map]
end
theorem room65 {k : Nat} {A : Around} (r : Room k A) : A.units + 65 < cLine := by have := r.un; omega
/-! ### x in a tuple of data -/
section
variable {X : Cx}
def rInDT (K : PySem.W.Frag) : R2 := fun x y H Q => ∃ d ds, Dp K H x d ∧ Dp K H y (.tuple ds) ∧ SeqAt.shaped d = true ∧ SeqAt.shaped (.tuple ds) = true ∧ Q (.bl (ds.any fun z => PyData.eqv z d)) H
theorem cg_inDT (hu : X.A.units + 65 < cLine) : OpR X (compareOp .In) (rInDT X.K) := by
  intro pins s σ H x y v u Q I rx ry h
  obtain ⟨d, ds, hd, he, sd, se, q⟩ := h
  obtain ⟨as, r1⟩ := Dp.reads I d x v hd rx
  obtain ⟨bs, r2⟩ := Dp.reads I (.tuple ds) y u he ry
  exact SeqAt.in_tuple_reads r2 r1 (by have q := SeqAt.canLay_of_shaped se; simpa only [PyData.canLay0] using q) (SeqAt.canLay_of_shaped sd) (PyProof.Rows.room_in_shaped sd hu) ⟨.bl _, H, I, rfl, q⟩
theorem inDT (K : PySem.W.Frag) {k : Nat} {A : Around} (r : Room k A) (h : X.K = K := by rfl) (ha : X.A = A := by rfl) : OpR X (compareOp .In) (rInDT K) := h ▸ cg_inDT (by rw [ha]; exact room65 r)
end
def impB (v1 : Int) (r1 : Rel) (n1 v2 : Int) (r2 : Rel) (n2 : Int) : Bool :=
  if v1 = v2 then (match r1 with | .eq => r2.h n1 n2 | .ne => decide (r2 = .ne) && decide (n1 = n2) | .le => (match r2 with | .le => decide (n1 ≤ n2) | .ne => !decide (n2 ≤ n1) | _ => false) | .ge => (match r2 with | .ge => decide (n2 ≤ n1) | .ne => !decide (n1 ≤ n2) | _ => false)) else false
theorem impB_sound {v1 : Int} {r1 : Rel} {n1 v2 : Int} {r2 : Rel} {n2 : Int} (h : impB v1 r1 n1 v2 r2 n2 = true) : v1 = v2 ∧ ∀ x, r1.h x n1 = true → r2.h x n2 = true := by
  unfold impB at h
  by_cases hv : v1 = v2
  · rw [if_pos hv] at h
    refine ⟨hv, fun x hx => ?_⟩
    cases r1 <;> cases r2 <;> simp [Rel.h] at h hx ⊢ <;> omega
  · rw [if_neg hv] at h
    cases h
def spImp (K : PySem.W.Frag) : Sp := fun vs H Q _ => ∃ (p q : Addr) (v1 : Int) (r1 : Rel) (n1 v2 : Int) (r2 : Rel) (n2 : Int), vs = [.ref p, .ref q] ∧ LitAt K H p v1 r1 n1 ∧ LitAt K H q v2 r2 n2 ∧ Q (.bl (impB v1 r1 n1 v2 r2 n2)) H
theorem spImp_i {K : PySem.W.Frag} {H : Hp} {Q : VK} {E : XK} {p q : Addr} {v1 : Int} {r1 : Rel} {n1 v2 : Int} {r2 : Rel} {n2 : Int} (h1 : LitAt K H p v1 r1 n1) (h2 : LitAt K H q v2 r2 n2) (k : Q (.bl (impB v1 r1 n1 v2 r2 n2)) H) : spImp K [.ref p, .ref q] H Q E :=
  ⟨p, q, v1, r1, n1, v2, r2, n2, rfl, h1, h2, k⟩
/-! ### the forms of facts -/
def Fact.isCon : Fact → Bool
  | .row ts n => ts.isEmpty && decide (n < 0)
  | .any ls => ls.isEmpty
def Fact.asRow : Fact → Option (Tms × Int)
  | .row ts n => some (ts, n)
  | .any [⟨v, .le, a⟩] => some ([(v, 1)], a)
  | .any [⟨v, .ge, a⟩] => some ([(v, -1)], -a)
  | _ => none
def Fact.asLit : Fact → Option Lit
  | .row [(v, c)] n => if 0 < c then some ⟨v, .le, n / c⟩ else some ⟨v, .ge, -(n / -c)⟩
  | .any [l] => some l
  | _ => none
def impL (l m : Lit) : Bool := impB l.v l.r l.a m.v m.r m.a
def litsImp (f g : Fact) : Bool := match f.asLit with
  | none => false
  | some l => match g with
    | .any ls => ls.any fun m => impL l m
    | g => match g.asLit with
      | none => false
      | some m => impL l m
def midF (f g : Fact) : Bool := match g with
  | .row ts n => (match f.asRow with | some (us, k) => decide (us = ts) && decide (k ≤ n) | none => false)
  | .any ms => (match f with | .any ls => ls.all fun l => decide (l ∈ ms) | _ => false)
def implF (f g : Fact) : Bool := f.isCon || (midF f g || litsImp f g)
theorem asRow_two (l l' : Lit) (ls : List Lit) : (Fact.any (l :: l' :: ls)).asRow = none := by
  obtain ⟨v, r, a⟩ := l
  cases r <;> rfl
theorem asLit_two (l l' : Lit) (ls : List Lit) : (Fact.any (l :: l' :: ls)).asLit = none := by
  obtain ⟨v, r, a⟩ := l
  rfl
theorem asLit_row2 (z z' : Int × Int) (ts : Tms) (n : Int) : (Fact.row (z :: z' :: ts) n).asLit = none := by
  obtain ⟨v, c⟩ := z
  rfl
/-- coefficients that are not 0 and small -/
def Fact.ok (m : Int) : Fact → Prop
  | .row ts n => (∀ z ∈ ts, 0 ≤ z.1 ∧ z.1 < m ∧ z.2 ≠ 0 ∧ -1000000000 ≤ z.2 ∧ z.2 ≤ 1000000000) ∧ ts.length ≤ 200 ∧ -1000000000 ≤ n ∧ n ≤ 1000000000
  | .any ls => (∀ l ∈ ls, 0 ≤ l.v ∧ l.v < m ∧ -1000000000 ≤ l.a ∧ l.a ≤ 1000000000) ∧ ls.length ≤ 200
def spCon (K : PySem.W.Frag) : Sp := fun vs H Q _ => ∃ (p : Addr) (f : Fact), vs = [.ref p] ∧ FactAt K H p f ∧ Q (.bl f.isCon) H
/-- a row that may be there -/
inductive RowO (K : PySem.W.Frag) (H : Hp) : V → Option (Tms × Int) → Prop
  | none : RowO K H .non Option.none
  | some {p : Addr} {ts : Tms} {n : Int} (h : FactAt K H p (.row ts n)) : RowO K H (.ref p) (Option.some (ts, n))
inductive LitO (K : PySem.W.Frag) (H : Hp) : V → Option Lit → Prop
  | none : LitO K H .non Option.none
  | some {p : Addr} {l : Lit} (h : LitAt K H p l.v l.r l.a) : LitO K H (.ref p) (Option.some l)
def spAsRow (K : PySem.W.Frag) : Sp := fun vs H Q _ => ∃ (p : Addr) (f : Fact), vs = [.ref p] ∧ FactAt K H p f ∧ ∀ (x : V) (H' : Hp), RowO K H' x f.asRow → Kp [] H H' → Q x H'
def spAsLit (K : PySem.W.Frag) : Sp := fun vs H Q _ => ∃ (p : Addr) (f : Fact) (m : Int), vs = [.ref p] ∧ FactAt K H p f ∧ f.ok m ∧ ∀ (x : V) (H' : Hp), LitO K H' x f.asLit → Kp [] H H' → Q x H'
theorem litsImp_any {f : Fact} {l : Lit} {ms : List Lit} (h : f.asLit = some l) : litsImp f (.any ms) = (ms.map fun m => impL l m).any id := by
  unfold litsImp
  rw [h]
  simp only [List.any_map]
  rfl
theorem litsImp_row {f : Fact} {l : Lit} {ts : Tms} {n : Int} (h : f.asLit = some l) : litsImp f (.row ts n) = (match (Fact.row ts n).asLit with | none => false | some m => impL l m) := by
  unfold litsImp
  rw [h]
theorem litsImp_none {f g : Fact} (h : f.asLit = none) : litsImp f g = false := by
  unfold litsImp
  rw [h]
def spImpl (K : PySem.W.Frag) (b : Fact → Fact → Bool) : Sp := fun vs H Q _ => ∃ (p q : Addr) (f g : Fact) (m : Int), vs = [.ref p, .ref q] ∧ FactAt K H p f ∧ FactAt K H q g ∧ f.ok m ∧ g.ok m ∧ ∀ (H' : Hp), Kp [] H H' → Q (.bl (b f g)) H'

/-! ### the law's own terms, literals, facts -/
def spLawTerms (K : PySem.W.Frag) : Sp := fun vs H Q _ => ∃ (t c : Addr) (m : Int), vs = [.ref t, .int m] ∧ Tp t c H ∧ 0 ≤ m ∧ m ≤ 60 ∧ ∀ (p : Addr) (ts : Tms) (H' : Hp), Im K H' (.ref p) (tmD ts) →
  (∀ z ∈ ts, 0 ≤ z.1 ∧ z.1 < m ∧ z.2 ≠ 0 ∧ -3 ≤ z.2 ∧ z.2 ≤ 3) → (ts.length : Int) ≤ m → Tp t c H' → Kp [t] H H' → Q (.ref p) H'
def spLawLiteral (K : PySem.W.Frag) : Sp := fun vs H Q _ => ∃ (t c : Addr) (m : Int), vs = [.ref t, .int m] ∧ Tp t c H ∧ 1 ≤ m ∧ m ≤ 60 ∧ ∀ (p : Addr) (l : Lit) (H' : Hp), LitAt K H' p l.v l.r l.a →
  0 ≤ l.v → l.v < m → -3 ≤ l.a → l.a ≤ 5 → Tp t c H' → Kp [t] H H' → Q (.ref p) H'
def spLawLit (K : PySem.W.Frag) : Sp := fun vs H Q _ => ∃ (p q : Addr) (l : Lit) (pt : List Int), vs = [.ref p, .ref q] ∧ LitAt K H p l.v l.r l.a ∧ SqT K H q (pt.map V.int) ∧ 0 ≤ l.v ∧ l.v < pt.length ∧ Q (.bl (l.h pt)) H
def spTrue (K : PySem.W.Frag) : Sp := fun vs H Q _ => ∃ (p q : Addr) (f : Fact) (pt : List Int), vs = [.ref p, .ref q] ∧ FactAt K H p f ∧ SqT K H q (pt.map V.int) ∧ f.ok pt.length ∧ ∀ H', Kp [] H H' → Q (.bl (f.h pt)) H'
def Fact.small (f : Fact) (b : Int) : Prop := match f with
  | .row _ n => -b ≤ n ∧ n ≤ b
  | .any ls => ∀ l ∈ ls, -b ≤ l.a ∧ l.a ≤ b
def Fact.few (f : Fact) : Prop := match f with
  | .row _ _ => True
  | .any ls => ls.length ≤ 100
/-- the bounds with room -/
def Fact.okB (m b : Int) : Fact → Prop
  | .row ts n => (∀ z ∈ ts, 0 ≤ z.1 ∧ z.1 < m ∧ z.2 ≠ 0 ∧ -b ≤ z.2 ∧ z.2 ≤ b) ∧ ts.length ≤ 60 ∧ -b ≤ n ∧ n ≤ b
  | .any ls => (∀ l ∈ ls, 0 ≤ l.v ∧ l.v < m ∧ -b ≤ l.a ∧ l.a ≤ b) ∧ ls.length ≤ 60
theorem Fact.okB_ok {m b : Int} {f : Fact} (h : f.okB m b) (hb : b ≤ 1000000000) : f.ok m := by
  cases f with
  | row ts n => exact ⟨fun z hz => by have q := h.1 z hz; omega, by have q := h.2.1; omega, by have q := h.2.2; omega, by have q := h.2.2; omega⟩
  | any ls => exact ⟨fun z hz => by have q := h.1 z hz; omega, by have q := h.2; omega⟩
def spLawFact (K : PySem.W.Frag) : Sp := fun vs H Q _ => ∃ (t c : Addr) (m : Int), vs = [.ref t, .int m] ∧ Tp t c H ∧ 1 ≤ m ∧ m ≤ 60 ∧ ∀ (p : Addr) (f : Fact) (H' : Hp), FactAt K H' p f → f.ok m → f.small 100 → f.few → f.okB m 9 → Tp t c H' → Kp [t] H H' → Q (.ref p) H'

/-! ### the negation of a fact; its unknowns -/
def Lit.neg (l : Lit) : Lit := ⟨l.v, l.r.neg, l.r.nnum l.a⟩
theorem Lit.neg_neg (l : Lit) : l.neg.neg = l := by
  obtain ⟨v, r, a⟩ := l
  simp [Lit.neg, Rel.neg_neg, Rel.nnum_nnum]
theorem Lit.neg_h (l : Lit) (pt : List Int) : l.neg.h pt = !l.h pt := Rel.neg_h l.r _ l.a
def Fact.neg : Fact → Option Fact
  | .row ts n => some (.row (negT ts) (-n - 1))
  | .any [l] => some (.any [l.neg])
  | _ => none
theorem negT_negT (ts : Tms) : negT (negT ts) = ts := by
  unfold negT
  rw [List.map_map]
  conv => rhs; rw [← List.map_id ts]
  refine List.map_congr_left fun z _ => ?_
  simp
theorem sum_neg (ts : Tms) (pt : List Int) : sumAt (negT ts) pt = -sumAt ts pt := by
  induction ts with
  | nil => rfl
  | cons z ts ih =>
    have e1 : sumAt (negT (z :: ts)) pt = (-z.2) * pt.getD z.1.toNat 0 + sumAt (negT ts) pt := by simp [sumAt, negT]
    have e2 : sumAt (z :: ts) pt = z.2 * pt.getD z.1.toNat 0 + sumAt ts pt := by simp [sumAt]
    rw [e1, e2, ih, Int.neg_mul]
    omega
theorem Fact.neg_two (l l' : Lit) (ls : List Lit) : (Fact.any (l :: l' :: ls)).neg = none := rfl
theorem Fact.neg_neg {f g : Fact} (e : f.neg = some g) : g.neg = some f := by
  cases f with
  | row ts n =>
    cases e
    simp only [Fact.neg, negT_negT, Option.some.injEq, Fact.row.injEq, true_and]
    omega
  | any ls =>
    match ls, e with
    | [], e => cases e
    | l :: l' :: ls, e => cases e
    | [l], e =>
      cases e
      simp [Fact.neg, Lit.neg_neg]
theorem Fact.neg_h {f g : Fact} {pt : List Int} (e : f.neg = some g) : g.h pt = !f.h pt := by
  cases f with
  | row ts n =>
    cases e
    simp only [Fact.h, sum_neg]
    rw [Bool.eq_iff_iff]
    simp
    omega
  | any ls =>
    match ls, e with
    | [], e => cases e
    | l :: l' :: ls, e => cases e
    | [l], e =>
      cases e
      simp [Fact.h, Lit.neg_h]
theorem atI_0 {α : Type} {x : α} {xs : List α} : atI (x :: xs) 0 = some x := by
  rw [atI_nat (by decide) (by simp <;> omega)]
  rfl
theorem atI_1 {α : Type} {x y : α} {xs : List α} : atI (x :: y :: xs) 1 = some y := by
  rw [atI_nat (by decide) (by simp <;> omega)]
  rfl
inductive FactO (K : PySem.W.Frag) (H : Hp) : V → Option Fact → Prop
  | none : FactO K H .non Option.none
  | some {p : Addr} {f : Fact} (h : FactAt K H p f) : FactO K H (.ref p) (Option.some f)
def spNegF (K : PySem.W.Frag) : Sp := fun vs H Q _ => ∃ (p : Addr) (f : Fact) (m : Int), vs = [.ref p] ∧ FactAt K H p f ∧ f.ok m ∧ ∀ (x : V) (H' : Hp), FactO K H' x f.neg → Kp [] H H' → Q x H'
def Fact.vars : Fact → List Int
  | .row ts _ => ts.map (·.1)
  | .any ls => ls.map (·.v)
def spVars (K : PySem.W.Frag) : Sp := fun vs H Q _ => ∃ (p : Addr) (f : Fact), vs = [.ref p] ∧ FactAt K H p f ∧ f.vars.length < 64 ∧ ∀ (l : Addr) (ns : List Int) (H' : Hp), H l = none → H' l = some (.lst (ns.map V.int)) → ns.Pairwise (· < ·) → (∀ k, k ∈ ns ↔ k ∈ f.vars) → Kp [] H H' → Q (.ref l) H'
def Fact.grow (s : Int) : Fact → Fact
  | .row ts n => .row (ts.map fun z => (z.1, z.2 * s)) (n * s + s / 2)
  | .any ls => .any (ls.map fun l => ⟨l.v, l.r, l.a * s⟩)
theorem mul_small {a s b t : Int} (h0 : -b ≤ a) (h1 : a ≤ b) (s0 : 1 ≤ s) (s1 : s ≤ t) (hb : 0 ≤ b) : -(b * t) ≤ a * s ∧ a * s ≤ b * t := by
  have e1 : a * s ≤ b * s := Int.mul_le_mul_of_nonneg_right h1 (by omega)
  have e2 : b * s ≤ b * t := Int.mul_le_mul_of_nonneg_left s1 hb
  have e3 : -b * s ≤ a * s := Int.mul_le_mul_of_nonneg_right h0 (by omega)
  rw [Int.neg_mul] at e3
  omega
theorem Fact.grow_okB {f : Fact} {m s : Int} (h : f.okB m 9) (s0 : 1 ≤ s) (s1 : s ≤ 1000000) : (f.grow s).okB m 10000000 := by
  cases f with
  | row ts n =>
    refine ⟨fun z hz => ?_, by rw [List.length_map]; exact h.2.1, ?_, ?_⟩
    · obtain ⟨y, hy, rfl⟩ := List.mem_map.mp hz
      have q := h.1 y hy
      have b := mul_small q.2.2.2.1 q.2.2.2.2 s0 s1 (by decide)
      have nz : y.2 * s ≠ 0 := Int.mul_ne_zero q.2.2.1 (by omega)
      simp only
      omega
    all_goals
      have b := mul_small h.2.2.1 h.2.2.2 s0 s1 (by decide)
      omega
  | any ls =>
    refine ⟨fun z hz => ?_, by rw [List.length_map]; exact h.2⟩
    obtain ⟨y, hy, rfl⟩ := List.mem_map.mp hz
    have q := h.1 y hy
    have b := mul_small q.2.2.1 q.2.2.2 s0 s1 (by decide)
    simp only
    omega
def spGrown (K : PySem.W.Frag) : Sp := fun vs H Q _ => ∃ (p : Addr) (f : Fact) (m s : Int), vs = [.ref p, .int s] ∧ FactAt K H p f ∧ f.okB m 9 ∧ 1 ≤ s ∧ s ≤ 1000000 ∧ ∀ (q : Addr) (H' : Hp), FactAt K H' q (f.grow s) → Kp [] H H' → Q (.ref q) H'

def top (i : Nat) : Stmt := PySem.Challenge.pw_commonground_k13_facts_and_their_forms.main.body.getD i (.Pass ⟨0, 0, 0, 0⟩)
abbrev s_relation_holds : Stmt := top 1
theorem sc_relation_holds : FnScope ["relation", "left", "right"] ["relation", "left", "right"] (defScope s_relation_holds) := ⟨rfl, rfl, rfl, by decide +kernel, rfl, by decide +kernel, by decide +kernel⟩
theorem st_relation_holds (v0 v1 v2 : V) : L2.start ["relation", "left", "right"] [v0, v1, v2] = [some v0, some v1, some v2] := rfl
abbrev s_literal_holds : Stmt := top 2
theorem sc_literal_holds : FnScope ["literal", "worth"] ["literal", "worth"] (defScope s_literal_holds) := ⟨rfl, rfl, rfl, by decide +kernel, rfl, by decide +kernel, by decide +kernel⟩
theorem st_literal_holds (v0 v1 : V) : L2.start ["literal", "worth"] [v0, v1] = [some v0, some v1] := rfl
abbrev s_negated : Stmt := top 3
theorem sc_negated : FnScope ["literal", "v", "relation", "a"] ["literal"] (defScope s_negated) := ⟨rfl, rfl, rfl, by decide +kernel, rfl, by decide +kernel, by decide +kernel⟩
theorem st_negated (v0 : V) : L2.start ["literal", "v", "relation", "a"] [v0] = [some v0, none, none, none] := rfl
abbrev s_terms_sum : Stmt := top 4
theorem sc_terms_sum : FnScope ["terms", "point", "total", "v", "c"] ["terms", "point"] (defScope s_terms_sum) := ⟨rfl, rfl, rfl, by decide +kernel, rfl, by decide +kernel, by decide +kernel⟩
theorem st_terms_sum (v0 v1 : V) : L2.start ["terms", "point", "total", "v", "c"] [v0, v1] = [some v0, some v1, none, none, none] := rfl
abbrev s_negated_terms : Stmt := top 5
theorem sc_negated_terms : FnScope ["terms", "v", "c"] ["terms"] (defScope s_negated_terms) := ⟨rfl, rfl, rfl, by decide +kernel, rfl, by decide +kernel, by decide +kernel⟩
theorem st_negated_terms (v0 : V) : L2.start ["terms", "v", "c"] [v0] = [some v0, none, none] := rfl
abbrev s_fact_holds : Stmt := top 7
theorem sc_fact_holds : FnScope ["fact", "point", "literal"] ["fact", "point"] (defScope s_fact_holds) := ⟨rfl, rfl, rfl, by decide +kernel, rfl, by decide +kernel, by decide +kernel⟩
theorem st_fact_holds (v0 v1 : V) : L2.start ["fact", "point", "literal"] [v0, v1] = [some v0, some v1, none] := rfl
abbrev s_is_contradiction : Stmt := top 8
theorem sc_is_contradiction : FnScope ["fact"] ["fact"] (defScope s_is_contradiction) := ⟨rfl, rfl, rfl, by decide +kernel, rfl, by decide +kernel, by decide +kernel⟩
theorem st_is_contradiction (v0 : V) : L2.start ["fact"] [v0] = [some v0] := rfl
abbrev s_as_row : Stmt := top 9
theorem sc_as_row : FnScope ["fact", "v", "relation", "a"] ["fact"] (defScope s_as_row) := ⟨rfl, rfl, rfl, by decide +kernel, rfl, by decide +kernel, by decide +kernel⟩
theorem st_as_row (v0 : V) : L2.start ["fact", "v", "relation", "a"] [v0] = [some v0, none, none, none] := rfl
abbrev s_as_literal : Stmt := top 10
theorem sc_as_literal : FnScope ["fact", "v", "c"] ["fact"] (defScope s_as_literal) := ⟨rfl, rfl, rfl, by decide +kernel, rfl, by decide +kernel, by decide +kernel⟩
theorem st_as_literal (v0 : V) : L2.start ["fact", "v", "c"] [v0] = [some v0, none, none] := rfl
abbrev s_negation : Stmt := top 11
theorem sc_negation : FnScope ["fact"] ["fact"] (defScope s_negation) := ⟨rfl, rfl, rfl, by decide +kernel, rfl, by decide +kernel, by decide +kernel⟩
theorem st_negation (v0 : V) : L2.start ["fact"] [v0] = [some v0] := rfl
abbrev s_unknowns_in : Stmt := top 12
theorem sc_unknowns_in : FnScope ["fact", "part"] ["fact"] (defScope s_unknowns_in) := ⟨rfl, rfl, rfl, by decide +kernel, rfl, by decide +kernel, by decide +kernel⟩
theorem st_unknowns_in (v0 : V) : L2.start ["fact", "part"] [v0] = [some v0, none] := rfl
abbrev s_law_same : Stmt := top 14
theorem sc_law_same : FnScope ["_law_told", "_law_due"] ["_law_told", "_law_due"] (defScope s_law_same) := ⟨rfl, rfl, rfl, by decide +kernel, rfl, by decide +kernel, by decide +kernel⟩
theorem st_law_same (v0 v1 : V) : L2.start ["_law_told", "_law_due"] [v0, v1] = [some v0, some v1] := rfl
abbrev s_law_draw : Stmt := top 15
theorem sc_law_draw : FnScope ["_law_tape_here", "_law_many", "_law_cells", "_law_k", "_law_cell", "_law_digit"] ["_law_tape_here", "_law_many"] (defScope s_law_draw) := ⟨rfl, rfl, rfl, by decide +kernel, rfl, by decide +kernel, by decide +kernel⟩
theorem st_law_draw (v0 v1 : V) : L2.start ["_law_tape_here", "_law_many", "_law_cells", "_law_k", "_law_cell", "_law_digit"] [v0, v1] = [some v0, some v1, none, none, none, none] := rfl
abbrev s_law_tape : Stmt := top 16
theorem sc_law_tape : FnScope ["_law_script"] ["_law_script"] (defScope s_law_tape) := ⟨rfl, rfl, rfl, by decide +kernel, rfl, by decide +kernel, by decide +kernel⟩
theorem st_law_tape (v0 : V) : L2.start ["_law_script"] [v0] = [some v0] := rfl
abbrev s_law_terms : Stmt := top 17
theorem sc_law_terms : FnScope ["_law_tape_here", "_law_many", "_law_terms_here", "_law_v", "_law_c"] ["_law_tape_here", "_law_many"] (defScope s_law_terms) := ⟨rfl, rfl, rfl, by decide +kernel, rfl, by decide +kernel, by decide +kernel⟩
theorem st_law_terms (v0 v1 : V) : L2.start ["_law_tape_here", "_law_many", "_law_terms_here", "_law_v", "_law_c"] [v0, v1] = [some v0, some v1, none, none, none] := rfl
abbrev s_law_literal : Stmt := top 18
theorem sc_law_literal : FnScope ["_law_tape_here", "_law_many", "_law_relation"] ["_law_tape_here", "_law_many"] (defScope s_law_literal) := ⟨rfl, rfl, rfl, by decide +kernel, rfl, by decide +kernel, by decide +kernel⟩
theorem st_law_literal (v0 v1 : V) : L2.start ["_law_tape_here", "_law_many", "_law_relation"] [v0, v1] = [some v0, some v1, none] := rfl
abbrev s_law_rel : Stmt := top 19
theorem sc_law_rel : FnScope ["_law_relation", "_law_left", "_law_right"] ["_law_relation", "_law_left", "_law_right"] (defScope s_law_rel) := ⟨rfl, rfl, rfl, by decide +kernel, rfl, by decide +kernel, by decide +kernel⟩
theorem st_law_rel (v0 v1 v2 : V) : L2.start ["_law_relation", "_law_left", "_law_right"] [v0, v1, v2] = [some v0, some v1, some v2] := rfl
abbrev s_law_sum : Stmt := top 20
theorem sc_law_sum : FnScope ["_law_terms_here", "_law_point", "_law_total", "_law_v", "_law_c"] ["_law_terms_here", "_law_point"] (defScope s_law_sum) := ⟨rfl, rfl, rfl, by decide +kernel, rfl, by decide +kernel, by decide +kernel⟩
theorem st_law_sum (v0 v1 : V) : L2.start ["_law_terms_here", "_law_point", "_law_total", "_law_v", "_law_c"] [v0, v1] = [some v0, some v1, none, none, none] := rfl
abbrev s_law_lit : Stmt := top 21
theorem sc_law_lit : FnScope ["_law_literal_here", "_law_point"] ["_law_literal_here", "_law_point"] (defScope s_law_lit) := ⟨rfl, rfl, rfl, by decide +kernel, rfl, by decide +kernel, by decide +kernel⟩
theorem st_law_lit (v0 v1 : V) : L2.start ["_law_literal_here", "_law_point"] [v0, v1] = [some v0, some v1] := rfl
abbrev s_law_true : Stmt := top 22
theorem sc_law_true : FnScope ["_law_fact_here", "_law_point", "_law_literal_here"] ["_law_fact_here", "_law_point"] (defScope s_law_true) := ⟨rfl, rfl, rfl, by decide +kernel, rfl, by decide +kernel, by decide +kernel⟩
theorem st_law_true (v0 v1 : V) : L2.start ["_law_fact_here", "_law_point", "_law_literal_here"] [v0, v1] = [some v0, some v1, none] := rfl
abbrev s_law_fact : Stmt := top 23
theorem sc_law_fact : FnScope ["_law_tape_here", "_law_many", "_law_k"] ["_law_tape_here", "_law_many"] (defScope s_law_fact) := ⟨rfl, rfl, rfl, by decide +kernel, rfl, by decide +kernel, by decide +kernel⟩
theorem st_law_fact (v0 v1 : V) : L2.start ["_law_tape_here", "_law_many", "_law_k"] [v0, v1] = [some v0, some v1, none] := rfl
abbrev s_law_as_row : Stmt := top 24
theorem sc_law_as_row : FnScope ["_law_fact_here"] ["_law_fact_here"] (defScope s_law_as_row) := ⟨rfl, rfl, rfl, by decide +kernel, rfl, by decide +kernel, by decide +kernel⟩
theorem st_law_as_row (v0 : V) : L2.start ["_law_fact_here"] [v0] = [some v0] := rfl
abbrev s_law_as_literal : Stmt := top 25
theorem sc_law_as_literal : FnScope ["_law_fact_here", "_law_v", "_law_c"] ["_law_fact_here"] (defScope s_law_as_literal) := ⟨rfl, rfl, rfl, by decide +kernel, rfl, by decide +kernel, by decide +kernel⟩
theorem st_law_as_literal (v0 : V) : L2.start ["_law_fact_here", "_law_v", "_law_c"] [v0] = [some v0, none, none] := rfl
abbrev s_law_negation : Stmt := top 26
theorem sc_law_negation : FnScope ["_law_fact_here", "_law_v", "_law_relation", "_law_a", "_law_c"] ["_law_fact_here"] (defScope s_law_negation) := ⟨rfl, rfl, rfl, by decide +kernel, rfl, by decide +kernel, by decide +kernel⟩
theorem st_law_negation (v0 : V) : L2.start ["_law_fact_here", "_law_v", "_law_relation", "_law_a", "_law_c"] [v0] = [some v0, none, none, none, none] := rfl
abbrev s_law_grown : Stmt := top 27
theorem sc_law_grown : FnScope ["_law_fact_here", "_law_scale", "_law_v", "_law_c", "_law_relation", "_law_a"] ["_law_fact_here", "_law_scale"] (defScope s_law_grown) := ⟨rfl, rfl, rfl, by decide +kernel, rfl, by decide +kernel, by decide +kernel⟩
theorem st_law_grown (v0 v1 : V) : L2.start ["_law_fact_here", "_law_scale", "_law_v", "_law_c", "_law_relation", "_law_a"] [v0, v1] = [some v0, some v1, none, none, none, none] := rfl
abbrev s_law : Stmt := top 28
theorem sc_law : FnScope ["_law_script", "_law_tape_here", "_law_many", "_law_fact_here", "_law_k", "_law_point", "_law_holds", "_law_row", "_law_literal_here", "_law_other", "_law_empty", "_law_numbers", "_law_found", "_law_v", "_law_part"] ["_law_script"] (defScope s_law) := ⟨rfl, rfl, rfl, by decide +kernel, rfl, by decide +kernel, by decide +kernel⟩
theorem st_law (v0 : V) : L2.start ["_law_script", "_law_tape_here", "_law_many", "_law_fact_here", "_law_k", "_law_point", "_law_holds", "_law_row", "_law_literal_here", "_law_other", "_law_empty", "_law_numbers", "_law_found", "_law_v", "_law_part"] [v0] = [some v0, none, none, none, none, none, none, none, none, none, none, none, none, none, none] := rfl
structure Bi (K : PySem.W.Frag) (mg : Str → Option Value) : Prop where
  n_len : mg "len" = none
  n_int : mg "int" = none
  n_list : mg "list" = none
  n_isinstance : mg "isinstance" = none
  n_bool : mg "bool" = none
  n_tuple : mg "tuple" = none
  n_range : mg "range" = none
  n_any : mg "any" = none
  n_set : mg "set" = none
  n_sorted : mg "sorted" = none
section
variable {P : Program} {w : World} {K : PySem.W.Frag} {mg : Str → Option Value} {base : Heap}
theorem ok_relation_holds {f : Addr} {fd : FuncData} (F : Fun K "relation_holds" "relation_holds" s_relation_holds f fd) (B : Bi K mg)  : FnOk P w K mg base CX0 1 f fd ["relation", "left", "right"] spRel := by
  have nd := sc_relation_holds.nd
  refine F.ok sc_relation_holds ?len (fun cdv A outer s H vs Q E hr h => ?body)
  case len =>
    rintro vs H Q E ⟨r, a, b, rfl, _⟩
    rfl
  case body =>
    obtain ⟨r, a, b, rfl, q⟩ := h
    refine ⟨_, (pss_cons (ps_if (pt_cmpR op_eq (pv 0) pe_str (nomark _))
      (pss_one (ps_ret (pe_cmpR op_le (pv 1) (pv 2) (nomark _))))
      pss_nil)
      (pss_cons (ps_if (pt_cmpR op_eq (pv 0) pe_str (nomark _))
      (pss_one (ps_ret (pe_cmpR op_ge (pv 1) (pv 2) (nomark _))))
      pss_nil)
      (pss_cons (ps_if (pt_cmpR op_eq (pv 0) pe_str (nomark _))
      (pss_one (ps_ret (pe_cmpR op_eq (pv 1) (pv 2) (nomark _))))
      pss_nil)
      (pss_one (ps_ret (pe_cmpR op_ne (pv 1) (pv 2) (nomark _))))))), ?_⟩
    try dsimp only [L2.cxOf, L2.Cx.nox, L2.Cx.wish]
    rw [st_relation_holds]
    cases r
    all_goals
      walk_at "cg"
      exact q

theorem ok_literal_holds {f : Addr} {fd : FuncData} (F : Fun K "literal_holds" "literal_holds" s_literal_holds f fd) (B : Bi K mg) (D_relation_holds : Is P w K mg base CX0 1 "relation_holds" ["relation", "left", "right"] spRel) : FnOk P w K mg base CX0 2 f fd ["literal", "worth"] (spLit K) := by
  have nd := sc_literal_holds.nd
  refine F.ok sc_literal_holds ?len (fun cdv A outer s H vs Q E hr h => ?body)
  case len =>
    rintro vs H Q E ⟨p, v, r, a, x, rfl, _⟩
    rfl
  case body =>
    obtain ⟨p, v, r, a, x, rfl, hL, q⟩ := h
    refine ⟨_, (pss_one (ps_ret (pe_is D_relation_holds (hr.mono (by decide)) rfl pass0 (pa_cons (pe_ix (ixT K) (pv 0) pe_int (fun _ _ => rfl)) (pa_cons (pv 1) (pa_cons (pe_ix (ixT K) (pv 0) pe_int (fun _ _ => rfl)) pa_nil)))))), ?_⟩
    try dsimp only [L2.cxOf, L2.Cx.nox, L2.Cx.wish]
    rw [st_literal_holds]
    walk_at "cg"
    exact q

theorem ok_negated {f : Addr} {fd : FuncData} (F : Fun K "negated" "negated" s_negated f fd) (B : Bi K mg)  : FnOk P w K mg base CX0 1 f fd ["literal"] (spNeg K) := by
  have nd := sc_negated.nd
  refine F.ok sc_negated ?len (fun cdv A outer s H vs Q E hr h => ?body)
  case len =>
    rintro vs H Q E ⟨p, v, r, a, rfl, _⟩
    rfl
  case body =>
    obtain ⟨p, v, r, a, rfl, hL, q⟩ := h
    refine ⟨_, (pss_cons (ps_asg (pv 0) (pg_tup (n := 3) rfl (pgs_cons (pg_name (i := 1) nd rfl (Or.inl rfl)) (pgs_cons (pg_name (i := 2) nd rfl (Or.inl rfl)) (pgs_cons (pg_name (i := 3) nd rfl (Or.inl rfl)) pgs_nil)))))
      (pss_cons (ps_if (pt_cmpR op_eq (pv 2) pe_str (nomark _))
      (pss_one (ps_ret (pe_tup (pa_cons (pv 1) (pa_cons pe_str (pa_cons (pe_op op_add (pv 3) pe_int) pa_nil))))))
      pss_nil)
      (pss_cons (ps_if (pt_cmpR op_eq (pv 2) pe_str (nomark _))
      (pss_one (ps_ret (pe_tup (pa_cons (pv 1) (pa_cons pe_str (pa_cons (pe_op op_sub (pv 3) pe_int) pa_nil))))))
      pss_nil)
      (pss_cons (ps_if (pt_cmpR op_eq (pv 2) pe_str (nomark _))
      (pss_one (ps_ret (pe_tup (pa_cons (pv 1) (pa_cons pe_str (pa_cons (pv 3) pa_nil))))))
      pss_nil)
      (pss_one (ps_ret (pe_tup (pa_cons (pv 1) (pa_cons pe_str (pa_cons (pv 3) pa_nil)))))))))), ?_⟩
    try dsimp only [L2.cxOf, L2.Cx.nox, L2.Cx.wish]
    rw [st_negated]
    cases r
    all_goals
      walk_at "cg"
      exact q _ _ (by assumption) (by walk_at "cg kp")

theorem ok_terms_sum {f : Addr} {fd : FuncData} (F : Fun K "terms_sum" "terms_sum" s_terms_sum f fd) (B : Bi K mg)  : FnOk P w K mg base CX0 1 f fd ["terms", "point"] (spSum K) := by
  have nd := sc_terms_sum.nd
  refine F.ok sc_terms_sum ?len (fun cdv A outer s H vs Q E hr h => ?body)
  case len =>
    rintro vs H Q E ⟨p, q, ts, pt, rfl, _⟩
    rfl
  case body =>
    obtain ⟨p, q, ts, pt, rfl, hI, hP, hT, k⟩ := h
    refine ⟨_, (pss_cons (ps_set (i := 2) nd rfl (Or.inl rfl) pe_int)
      (pss_cons (ps_for PassesOwn.never rfl (pi_tup (pv 0)) (pg_tup (n := 2) rfl (pgs_cons (pg_name (i := 3) nd rfl (Or.inl rfl)) (pgs_cons (pg_name (i := 4) nd rfl (Or.inl rfl)) pgs_nil)))
      (pss_one (ps_aug (i := 2) nd rfl (Or.inl rfl) (pe_op op_mul (pv 4) (pe_ix (ixT K) (pv 1) (pv 3) (fun _ _ => rfl))) ip_add)))
      (pss_one (ps_ret (pv 2))))), ?_⟩
    try dsimp only [L2.cxOf, L2.Cx.nox, L2.Cx.wish]
    rw [st_terms_sum]
    obtain ⟨xs, h1, h2⟩ := hI.open
    walk_at "cg"
    refine r_forT xs (fun i σ' H' => ∃ x3 x4 : Option V, σ' = [some (.ref p), some (.ref q), some (.int (sumAt (ts.take i) pt)), x3, x4] ∧ H = H') ⟨_, _, rfl, rfl⟩ (fun i σ' H' ⟨_, _, _, e⟩ => e ▸ h1) ?_ ?_
    · rintro i x σ' H' hx ⟨x3, x4, rfl, rfl⟩
      obtain ⟨d, hd, hxd⟩ := h2.get hx
      rw [List.getElem?_map] at hd
      cases hz : ts[i]? with
      | none =>
        rw [hz] at hd
        cases hd
      | some z =>
        rw [hz] at hd
        cases hd
        obtain ⟨px, rfl⟩ := hxd.isRef
        have hs := hxd.sq rfl
        have hzt := hT z (List.mem_of_getElem? hz)
        walk_at "cg"
        refine r_ixT hP (atI_ints hzt.1 hzt.2.1) ?_
        walk_at "cg"
        exact ⟨_, _, by rw [sumAt_take pt hz], rfl⟩
    · rintro σ' H' ⟨x3, x4, rfl, rfl⟩
      walk_at "cg"
      have e : ts.take xs.length = ts := by rw [h2.length, List.length_map, List.take_length]
      rw [e]
      exact k
theorem ok_negated_terms {f : Addr} {fd : FuncData} (F : Fun K "negated_terms" "negated_terms" s_negated_terms f fd) (B : Bi K mg)  : FnOk P w K mg base CX0 1 f fd ["terms"] (spNegT K) := by
  have nd := sc_negated_terms.nd
  refine F.ok sc_negated_terms ?len (fun cdv A outer s H vs Q E hr h => ?body)
  case len =>
    rintro vs H Q E ⟨p, ts, rfl, _⟩
    rfl
  case body =>
    obtain ⟨p, ts, rfl, hI, hl, k⟩ := h
    refine ⟨_, (pss_one (ps_ret (pe_callTy (cgTuple K) (by rfl) B.n_tuple (by decide +kernel) (pa_cons (by exact pe_lc (own := [("v", 1), ("c", 2)]) (g := (gTup K 2 (gCons (gName 1) (gCons (gName 2) gNil)))) (tt := tYes) rfl nd (pi_tup (pv 0)) (blkOk_by (N := ["terms", "v", "c"]) (sc := defScope s_negated_terms) (by decide +kernel)) (fun _ _ _ _ _ => (pg_tup (n := 2) rfl (pgs_cons (pg_name (i := 1) nd rfl (Or.inl rfl)) (pgs_cons (pg_name (i := 2) nd rfl (Or.inl rfl)) pgs_nil)))) (fun _ _ _ _ _ => pts_nil) (fun _ _ _ _ _ => (pe_tup (pa_cons (pv 1) (pa_cons (pe_un un_neg (pv 2)) pa_nil))))) pa_nil)))), ?_⟩
    try dsimp only [L2.cxOf, L2.Cx.nox, L2.Cx.wish]
    rw [st_negated_terms]
    obtain ⟨xs, h1, h2⟩ := hI.open
    walk_at "cg"
    refine r_lcT xs (fun D i H' => Kp [] H H' ∧ H D = none ∧ ∃ acc, H' D = some (.lst acc) ∧ ImAll K H' acc ((negT (ts.take i)).map tD)) (fun D H2 hD e2 k2 => ⟨k2, hD, [], e2, .nil⟩) (fun D i H' ⟨k2, _⟩ => k2.tup h1) ?_ ?_
    · rintro D i x H' hx ⟨k2, hD, acc, eD, hA⟩
      obtain ⟨d, hd, hxd⟩ := h2.get hx
      rw [List.getElem?_map] at hd
      cases hz : ts[i]? with
      | none =>
        rw [hz] at hd
        cases hd
      | some z =>
        rw [hz] at hd
        cases hd
        obtain ⟨px, rfl⟩ := hxd.isRef
        have hs := hxd.sq rfl
        have hi : i < ts.length := (List.getElem?_eq_some_iff.mp hz).1
        have hal := hA.length
        rw [List.length_map] at hal
        unfold negT at hal
        rw [List.length_map, List.length_take] at hal
        walk_at "cg"
        rename_i pn H3 hpn hsn k3
        refine r_ap (by walk_at "cg h") (small1000 (by omega)) fun H4 e4 k4 => ?_
        refine ⟨by walk_at "cg kp", hD, _, e4, ?_⟩
        have e5 : (negT (ts.take (i + 1))).map tD = (negT (ts.take i)).map tD ++ [tD (z.1, -z.2)] := by
          unfold negT
          rw [map_take_snoc hz, List.map_append]
          rfl
        rw [e5]
        exact (k4.imAll (k3.imAll hA)).snoc (.tup (k4.tup hsn) (.cons (.int _) (.cons (.int _) .nil)))
    · rintro D H' ⟨k2, hD, acc, eD, hA⟩
      have e : ts.take xs.length = ts := by rw [h2.length, List.length_map, List.take_length]
      rw [e] at hA
      walk_at "cg"
      rename_i l H2 hl2 hS k3
      exact k _ _ (.tup hS (k3.imAll hA)) (by walk_at "cg kp")

theorem ok_fact_holds {f : Addr} {fd : FuncData} (F : Fun K "fact_holds" "fact_holds" s_fact_holds f fd) (B : Bi K mg) (D_terms_sum : Is P w K mg base CX0 1 "terms_sum" ["terms", "point"] (spSum K)) (D_literal_holds : Is P w K mg base CX0 2 "literal_holds" ["literal", "worth"] (spLit K)) : FnOk P w K mg base CX0 3 f fd ["fact", "point"] (spTrue K) := by
  have nd := sc_fact_holds.nd
  refine F.ok sc_fact_holds ?len (fun cdv A outer s H vs Q E hr h => ?body)
  case len =>
    rintro vs H Q E ⟨p, q, f, pt, rfl, _⟩
    rfl
  case body =>
    obtain ⟨p, q, f, pt, rfl, hf, hP, ok, k⟩ := h
    refine ⟨_, (pss_cons (ps_if (pt_cmpR op_eq (pe_ix (ixT K) (pv 0) pe_int (fun _ _ => rfl)) pe_str (nomark _))
      (pss_one (ps_ret (pe_cmpR op_le (pe_is D_terms_sum (hr.mono (by decide)) rfl pass0 (pa_cons (pe_ix (ixT K) (pv 0) pe_int (fun _ _ => rfl)) (pa_cons (pv 1) pa_nil))) (pe_ix (ixT K) (pv 0) pe_int (fun _ _ => rfl)) (nomark _))))
      pss_nil)
      (pss_one (ps_ret (pe_callB (cr_any rfl) (by rfl) B.n_any (by decide +kernel) (pa_cons (by exact pe_lc (own := [("literal", 2)]) (g := (gName 2)) (tt := tYes) rfl nd (pi_tup (pe_ix (ixT K) (pv 0) pe_int (fun _ _ => rfl))) (blkOk_by (N := ["fact", "point", "literal"]) (sc := defScope s_fact_holds) (by decide +kernel)) (fun _ _ _ _ _ => (pg_name (i := 2) nd rfl (Or.inl rfl))) (fun _ _ _ _ _ => pts_nil) (fun _ _ _ _ _ => (pe_is D_literal_holds (hr.mono (by decide)) rfl pass0 (pa_cons (pv 2) (pa_cons (pe_ix (ixT K) (pv 1) (pe_ix (ixT K) (pv 2) pe_int (fun _ _ => rfl)) (fun _ _ => rfl)) pa_nil))))) pa_nil))))), ?_⟩
    try dsimp only [L2.cxOf, L2.Cx.nox, L2.Cx.wish]
    rw [st_fact_holds]
    cases f with
    | row ts n =>
      obtain ⟨qf, sf, jf⟩ := row_open hf
      walk_at "cg"
      refine ⟨qf, q, ts, pt, rfl, jf, hP, fun z hz => ?_, ?_⟩
      · have q := ok.1 z hz
        omega
      · walk_at "cg"
        exact k _ .refl
    | any ls =>
      obtain ⟨qf, sf, jf⟩ := any_open hf
      obtain ⟨xs, s2, i2⟩ := Im.open jf
      have hln := mapLen i2
      have hm := ok.2
      walk_at "cg"
      refine r_lcT xs (fun D i H' => Kp [] H H' ∧ H D = none ∧ H' D = some (.lst (((ls.take i).map fun l => l.h pt).map V.bl))) (fun D H2 hD e2 k2 => ⟨k2, hD, e2⟩) (fun D i H' ⟨k2, _⟩ => k2.tup s2) ?_ ?_
      · rintro D i x H' hx ⟨k2, hD, eD⟩
        obtain ⟨l, hl', hxm⟩ := mapGet i2 hx
        obtain ⟨qx, rfl, Lx⟩ := lit_at hxm
        have hlo := ok.1 l (List.mem_of_getElem? hl')
        walk_at "cg"
        refine r_ixT (k2.tup hP) (atI_ints hlo.1 hlo.2.1) ?_
        walk_at "cg"
        have hi : i < ls.length := (List.getElem?_eq_some_iff.mp hl').1
        refine r_ap (by walk_at "cg h") (small1000 (by simp; omega)) fun H4 e4 k4 => ?_
        refine ⟨by walk_at "cg kp", hD, ?_⟩
        rw [e4, map_take_snoc hl', List.map_append]
        rfl
      · rintro D H' ⟨k2, hD, eD⟩
        walk_at "cg"
        rw [hln, List.take_length] at eD
        refine r_any eD ?_
        have e5 : (ls.map fun l => l.h pt).any id = (Fact.any ls).h pt := by
          rw [List.any_map]
          rfl
        rw [e5]
        exact k _ (by walk_at "cg kp")
theorem ok_negation {f : Addr} {fd : FuncData} (F : Fun K "negation" "negation" s_negation f fd) (B : Bi K mg) (D_negated_terms : Is P w K mg base CX0 1 "negated_terms" ["terms"] (spNegT K)) (D_negated : Is P w K mg base CX0 1 "negated" ["literal"] (spNeg K)) : FnOk P w K mg base CX0 2 f fd ["fact"] (spNegF K) := by
  have nd := sc_negation.nd
  refine F.ok sc_negation ?len (fun cdv A outer s H vs Q E hr h => ?body)
  case len =>
    rintro vs H Q E ⟨p, f, m, rfl, _⟩
    rfl
  case body =>
    obtain ⟨p, f, m, rfl, hf, ok, k⟩ := h
    refine ⟨_, (pss_cons (ps_if (pt_cmpR op_eq (pe_ix (ixT K) (pv 0) pe_int (fun _ _ => rfl)) pe_str (nomark _))
      (pss_one (ps_ret (pe_tup (pa_cons pe_str (pa_cons (pe_is D_negated_terms (hr.mono (by decide)) rfl pass0 (pa_cons (pe_ix (ixT K) (pv 0) pe_int (fun _ _ => rfl)) pa_nil)) (pa_cons (pe_op op_sub (pe_un un_neg (pe_ix (ixT K) (pv 0) pe_int (fun _ _ => rfl))) pe_int) pa_nil))))))
      pss_nil)
      (pss_cons (ps_if (pt_cmpR op_ne (pe_callB (cgLen K) (by rfl) B.n_len PySem.boot_len (pa_cons (pe_ix (ixT K) (pv 0) pe_int (fun _ _ => rfl)) pa_nil)) pe_int (nomark _))
      (pss_one (ps_ret pe_non))
      pss_nil)
      (pss_one (ps_ret (pe_tup (pa_cons pe_str (pa_cons (pe_tup (pa_cons (pe_is D_negated (hr.mono (by decide)) rfl pass0 (pa_cons (pe_ix (ixT K) (pe_ix (ixT K) (pv 0) pe_int (fun _ _ => rfl)) pe_int (fun _ _ => rfl)) pa_nil)) pa_nil)) pa_nil))))))), ?_⟩
    try dsimp only [L2.cxOf, L2.Cx.nox, L2.Cx.wish]
    rw [st_negation]
    cases f with
    | row ts n =>
      obtain ⟨qf, sf, jf⟩ := row_open hf
      have hl := ok.2.1
      walk_at "cg"
      refine ⟨qf, ts, rfl, jf, by omega, fun p' H' I' k' => ?_⟩
      walk_at "cg"
      exact k _ _ (.some (row_mk (by assumption) (by walk_at "cg h"))) (by walk_at "cg kp")
    | any ls =>
      obtain ⟨qf, sf, jf⟩ := any_open hf
      obtain ⟨xs, s2, i2⟩ := Im.open jf
      have hl := mapLen i2
      match ls, i2, k, hl with
      | [], i2, k, hl =>
        simp only [List.length_nil] at hl
        walk_at "cg"
        exact k _ _ .none .refl
      | l :: l' :: ls, i2, k, hl =>
        simp only [List.length_cons] at hl
        walk_at "cg"
        exact k _ _ .none .refl
      | [l], i2, k, hl =>
        cases i2 with
        | cons h1 h2 =>
        cases h2
        obtain ⟨ql, rfl, L⟩ := lit_at h1
        walk_at "cg"
        refine ⟨ql, l.v, l.r, l.a, rfl, L, fun p' H' L' k' => ?_⟩
        walk_at "cg"
        exact k _ _ (.some (any_mk (by assumption) (.tup (by walk_at "cg h") (.cons (lit_mk (by walk_at "cg h")) .nil)))) (by walk_at "cg kp")
theorem ok_unknowns_in {f : Addr} {fd : FuncData} (F : Fun K "unknowns_in" "unknowns_in" s_unknowns_in f fd) (B : Bi K mg)  : FnOk P w K mg base CX0 1 f fd ["fact"] (spVars K) := by
  have nd := sc_unknowns_in.nd
  refine F.ok sc_unknowns_in ?len (fun cdv A outer s H vs Q E hr h => ?body)
  case len =>
    rintro vs H Q E ⟨p, f, rfl, _⟩
    rfl
  case body =>
    obtain ⟨p, f, rfl, hf, few, k⟩ := h
    refine ⟨_, (pss_one (ps_ret (pe_callB (cr_sortedSet rfl) (by rfl) B.n_sorted (by decide +kernel) (pa_cons (pe_callTy (cg_setL rfl) (by rfl) B.n_set PyProof.Rows.boot_set (pa_cons (by exact pe_lc (own := [("part", 1)]) (g := (gName 1)) (tt := tYes) rfl nd (pi_tup (pe_ix (ixT K) (pv 0) pe_int (fun _ _ => rfl))) (blkOk_by (N := ["fact", "part"]) (sc := defScope s_unknowns_in) (by decide +kernel)) (fun _ _ _ _ _ => (pg_name (i := 1) nd rfl (Or.inl rfl))) (fun _ _ _ _ _ => pts_nil) (fun _ _ _ _ _ => (pe_ix (ixT K) (pv 1) pe_int (fun _ _ => rfl)))) pa_nil)) pa_nil)))), ?_⟩
    try dsimp only [L2.cxOf, L2.Cx.nox, L2.Cx.wish]
    rw [st_unknowns_in]
    have op : ∃ (q : Addr) (ds xs : List V), SqT K H p (V.str (Str.ofString (match f with | .row _ _ => "row" | .any _ => "any")) :: V.ref q :: ds) ∧ SqT K H q xs ∧ xs.length = f.vars.length ∧ ∀ (i : Nat) (x : V), xs[i]? = some x → ∃ (a : Addr) (u : Int) (ys : List V), x = V.ref a ∧ f.vars[i]? = some u ∧ SqT K H a (V.int u :: ys) := by
      cases f with
      | row ts n =>
        obtain ⟨qf, sf, jf⟩ := row_open hf
        obtain ⟨xs, s2, i2⟩ := Im.open jf
        refine ⟨qf, _, xs, sf, s2, by rw [mapLen i2, Fact.vars, List.length_map], fun i x hx => ?_⟩
        obtain ⟨z, hz, hxd⟩ := mapGet i2 hx
        obtain ⟨a, rfl, sa⟩ := term_at hxd
        exact ⟨a, z.1, _, rfl, by simp [Fact.vars, hz], sa⟩
      | any ls =>
        obtain ⟨qf, sf, jf⟩ := any_open hf
        obtain ⟨xs, s2, i2⟩ := Im.open jf
        refine ⟨qf, _, xs, sf, s2, by rw [mapLen i2, Fact.vars, List.length_map], fun i x hx => ?_⟩
        obtain ⟨z, hz, hxd⟩ := mapGet i2 hx
        obtain ⟨a, rfl, sa⟩ := lit_at hxd
        exact ⟨a, z.v, _, rfl, by simp [Fact.vars, hz], sa⟩
    obtain ⟨q, ds, xs, sp, sq, hln, at_⟩ := op
    walk_at "cg"
    refine r_ixT sp atI_1 ?_
    walk_at "cg"
    refine r_lcT xs (fun D i H' => Kp [] H H' ∧ H D = none ∧ H' D = some (.lst ((f.vars.take i).map V.int))) (fun D H2 hD e2 k2 => ⟨k2, hD, e2⟩) (fun D i H' ⟨k2, _⟩ => k2.tup sq) ?_ ?_
    · rintro D i x H' hx ⟨k2, hD, eD⟩
      obtain ⟨a, u, ys, rfl, hu, sa⟩ := at_ i x hx
      have hi : i < f.vars.length := (List.getElem?_eq_some_iff.mp hu).1
      walk_at "cg"
      refine r_ixT (k2.tup sa) atI_0 ?_
      walk_at "cg"
      refine r_ap (by walk_at "cg h") (small1000 (by simp; omega)) fun H4 e4 k4 => ?_
      refine ⟨by walk_at "cg kp", hD, ?_⟩
      rw [e4, map_take_snoc hu]
    · rintro D H' ⟨k2, hD, eD⟩
      rw [hln, List.take_length] at eD
      walk_at "cg"
      refine ⟨D, f.vars, rfl, SqL.of eD, by omega, fun S c hS hc => ?_⟩
      walk_at "cg"
      refine ⟨S, _, c, rfl, upd_same, by omega, fun ns l hp hm hn hl => ?_⟩
      have f1 : H S = none := k2.free0 hS
      have f2 : H l = none := k2.free0 (by
        cases q : H' l with
        | none => rfl
        | some o =>
          rw [upd_ne (ne_of_none q hS), q] at hl
          cases hl)
      refine k l ns _ f2 upd_same hp (fun j => by rw [hm j]; simp) ⟨fun b o _ e => ?_, fun _ h => by cases h⟩
      rw [upd_ne (ne_of_none e f2), upd_ne (ne_of_none e f1)]
      exact k2.get0 e

end
section
variable {P : Program} {w : World} {K : PySem.W.Frag} {mg : Str → Option Value} {base : Heap}
theorem ok_law_draw {f : Addr} {fd : FuncData} (F : Fun K "_law_draw" "_law_draw" s_law_draw f fd) (B : Bi K mg)  : FnOk P w K mg base CX0 1 f fd ["_law_tape_here", "_law_many"] spDraw := by
  have nd := sc_law_draw.nd
  refine F.ok sc_law_draw ?len (fun cdv A outer s H vs Q E hr h => ?body)
  case len =>
    rintro vs H Q E ⟨t, c, m, rfl, _⟩
    rfl
  case body =>
    obtain ⟨t, c, m, rfl, T, hm1, hm2, q⟩ := h
    refine ⟨_, (Evl.pss_cut (ps_if (pt_cmpR op_lt (pe_ix (ixL K) (pv 0) pe_int (fun _ _ => rfl)) (pv 1) (nomark _))
      (pss_cons (ps_set (i := 2) nd rfl (Or.inl rfl) (pe_ix (ixL K) (pv 0) pe_int (fun _ _ => rfl)))
      (pss_cons (ps_set (i := 3) nd rfl (Or.inl rfl) (pe_ix (ixL K) (pv 0) pe_int (fun _ _ => rfl)))
      (pss_cons (ps_set (i := 4) nd rfl (Or.inl rfl) pe_int)
      (Evl.pss_cut (ps_if (pt_cmpR op_lt (pv 3) (pe_callB (cgLen K) (by rfl) B.n_len PySem.boot_len (pa_cons (pv 2) pa_nil)) (nomark _))
      (pss_one (ps_set (i := 4) nd rfl (Or.inl rfl) (pe_ix (ixL K) (pv 2) (pv 3) (fun _ _ => rfl))))
      pss_nil)
      (Evl.pss_cut (ps_if (pt_cmpR op_lt (pv 4) pe_int (nomark _))
      (pss_one (ps_set (i := 4) nd rfl (Or.inl rfl) (pe_op op_sub (pe_op op_mul (pe_un un_neg pe_int) (pv 4)) pe_int)))
      pss_nil)
      (Evl.pss_cut (ps_if (pt_cmpR op_lt (pv 4) (pe_op op_pow pe_int pe_int) (nomark _))
      (pss_cons (ps_set (i := 4) nd rfl (Or.inl rfl) (pe_op op_mod (pe_callTy cg_int (by rfl) B.n_int PyProof.Rows.boot_int (pa_cons (pe_op op_add (pe_op op_add (pe_op op_mul (pv 4) pe_int) (pe_op op_mul (pv 3) pe_int)) pe_int) pa_nil)) pe_int))
      (pss_one (ps_set (i := 4) nd rfl (Or.inl rfl) (pe_op op_mod (pe_callTy cg_int (by rfl) B.n_int PyProof.Rows.boot_int (pa_cons (pe_op op_add (pe_op op_add (pe_op op_mul (pv 4) pe_int) (pe_op op_mul (pv 3) pe_int)) pe_int) pa_nil)) pe_int))))
      pss_nil)
      (pss_cons (ps_asg (pe_op op_add (pv 3) pe_int) (pg_sub (pv 0) pe_int set_list))
      (pss_one (ps_asg (pv 4) (pg_sub (pv 0) pe_int set_list))))))))))
      pss_nil)
      (pss_cons (ps_set (i := 5) nd rfl (Or.inl rfl) (pe_op op_mod (pe_callTy cg_int (by rfl) B.n_int PyProof.Rows.boot_int (pa_cons (pe_ix (ixL K) (pv 0) pe_int (fun _ _ => rfl)) pa_nil)) (pv 1)))
      (pss_cons (ps_asg (pe_op op_fdivW (pe_ix (ixL K) (pv 0) pe_int (fun _ _ => rfl)) (pv 1)) (pg_sub (pv 0) pe_int set_list))
      (pss_one (ps_ret (pv 5)))))), ?_⟩
    try dsimp only [L2.cxOf, L2.Cx.nox, L2.Cx.wish]
    rw [st_law_draw]
    obtain ⟨ns, k, z, h1, h2, hk, hz⟩ := id T.ex
    have net := T.ne
    show Evl.tCut _ _ _ _ _
    refine ⟨fun σ' H1 => ∃ (k z : Int) (x1 x2 x3 x4 : Option V), σ' = [some (V.ref t), some (.int m), x1, x2, x3, x4] ∧ H1 t = some (.lst [.ref c, .int k, .int z]) ∧ H1 c = some (.lst (ns.map V.int)) ∧ 0 ≤ k ∧ 0 ≤ z ∧ (H1 = H ∨ Kp [t] H H1), ?_, ?_⟩
    · walk_at "cg"
      refine if_S (fun hc => ?_) (fun hc => ?_)
      · walk_at "cg"
        refine ⟨fun σ' H1 => ∃ z' : Int, σ' = [some (V.ref t), some (.int m), some (V.ref c), some (.int k), some (.int z'), none] ∧ H = H1, ?_, ?_⟩
        · walk_at "cg"
          refine if_S (fun hk1 => ?_) (fun hk1 => ?_)
          · walk_at "cg"
            rw [List.length_map] at hk1
            refine r_ixL h2 (v := .int (ns.getD k.toNat 0)) ?_ ?_
            · have e : k.toNat < ns.length := by omega
              simp [atI, ixN, hk, hk1, e]
            · walk_at "cg"
              exact ⟨_, rfl, rfl⟩
          · walk_at "cg"
            exact ⟨_, rfl, rfl⟩
        · rintro σ' H1 ⟨z1, rfl, rfl⟩
          refine ⟨fun σ' H2 => ∃ z' : Int, 0 ≤ z' ∧ σ' = [some (V.ref t), some (.int m), some (V.ref c), some (.int k), some (.int z'), none] ∧ H = H2, ?_, ?_⟩
          · walk_at "cg"
            refine if_S (fun hk1 => ?_) (fun hk1 => ?_)
            · walk_at "cg"
              exact ⟨_, by omega, rfl, rfl⟩
            · walk_at "cg"
              exact ⟨_, by omega, rfl, rfl⟩
          · rintro σ' H2 ⟨z2, hz2, rfl, rfl⟩
            refine ⟨fun σ' H2 => ∃ z' : Int, 0 ≤ z' ∧ σ' = [some (V.ref t), some (.int m), some (V.ref c), some (.int k), some (.int z'), none] ∧ H = H2, ?_, ?_⟩
            · walk_at "cg"
              refine if_S (fun hk1 => ?_) (fun hk1 => ?_)
              · walk_at "cg"
                exact ⟨_, by omega, rfl, rfl⟩
              · walk_at "cg"
                exact ⟨_, hz2, rfl, rfl⟩
            · rintro σ' H2 ⟨z3, hz3, rfl, rfl⟩
              walk_at "cg"
              intro H2 e1 k1
              walk_at "cg"
              intro H3 e2 k2
              walk_at "cg"
              exact ⟨k + 1, z3, _, _, _, _, rfl, e2, k2.get1 net.symm (k1.get1 net.symm h2), by omega, hz3, .inr ⟨fun b o hb e => k2.k b o hb (k1.k b o hb e), k1.mu⟩⟩
      · walk_at "cg"
        exact ⟨k, z, _, _, _, _, rfl, h1, h2, hk, hz, .inl rfl⟩
    · rintro σ' H1 ⟨k, z, x1, x2, x3, x4, rfl, g1, g2, gk, gz, hk⟩
      walk_at "cg"
      refine r_rI (bigB_ok hm1 hm2) ?_
      walk_at "cg"
      intro H2 e1 k1
      walk_at "cg"
      refine q _ _ (Int.emod_nonneg _ (by omega)) (Int.emod_lt_of_pos _ (by omega)) ⟨ns, k, _, e1, k1.get1 net.symm g2, gk, Int.ediv_nonneg gz (by omega)⟩ ?_
      rcases hk with rfl | hk
      · exact k1
      · exact ⟨fun b o hb e => k1.k b o hb (hk.k b o hb e), hk.mu⟩

theorem ok_law_tape {f : Addr} {fd : FuncData} (F : Fun K "_law_tape" "_law_tape" s_law_tape f fd) (B : Bi K mg)  : FnOk P w K mg base CX0 1 f fd ["_law_script"] (spTape K) := by
  have nd := sc_law_tape.nd
  refine F.ok sc_law_tape ?len (fun cdv A outer s H vs Q E hr h => ?body)
  case len =>
    rintro vs H Q E ⟨a, ns, rfl, _⟩
    rfl
  case body =>
    obtain ⟨a, ns, rfl, hS, q⟩ := h
    refine ⟨_, (pss_one (ps_ret (pe_lst (pa_cons (pe_callTy (cgList K) (by rfl) B.n_list (by decide +kernel) (pa_cons (pv 0) pa_nil)) (pa_cons pe_int (pa_cons pe_int pa_nil)))))), ?_⟩
    try dsimp only [L2.cxOf, L2.Cx.nox, L2.Cx.wish]
    rw [st_law_tape]
    walk_at "cg"
    rename_i c H1 hc h1 k1 t H2 ht h2 k2
    exact q _ _ _ (Kp.free0 (by assumption) ht) hc ⟨ns, 0, 0, h2, k2.get0 h1, by decide, by decide⟩ (by walk_at "cg kp")

theorem ok_law_same {f : Addr} {fd : FuncData} (F : Fun K "_law_same" "_law_same" s_law_same f fd) (B : Bi K mg)  : FnOk P w K mg base CX0 1 f fd ["_law_told", "_law_due"] spSame := by
  have nd := sc_law_same.nd
  refine F.ok sc_law_same ?len (fun cdv A outer s H vs Q E hr h => ?body)
  case len =>
    rintro vs H Q E ⟨a, b, rfl, _⟩
    rfl
  case body =>
    obtain ⟨a, b, rfl, q⟩ := h
    refine ⟨_, (pss_one (ps_ret (pe_and (pe_callB (cgIsi K) (by rfl) B.n_isinstance (by decide +kernel) (pa_cons (pv 0) (pa_cons (pe_bltn (v := .ty "bool") rfl B.n_bool (by decide +kernel) rfl) pa_nil))) (pe_one (pe_cmpR op_eq (pv 0) (pv 1) (nomark _)))))), ?_⟩
    try dsimp only [L2.cxOf, L2.Cx.nox, L2.Cx.wish]
    rw [st_law_same]
    walk_at "cg"
    exact q

theorem ok_law_rel {f : Addr} {fd : FuncData} (F : Fun K "_law_rel" "_law_rel" s_law_rel f fd) (B : Bi K mg)  : FnOk P w K mg base CX0 1 f fd ["_law_relation", "_law_left", "_law_right"] spRel := by
  have nd := sc_law_rel.nd
  refine F.ok sc_law_rel ?len (fun cdv A outer s H vs Q E hr h => ?body)
  case len =>
    rintro vs H Q E ⟨r, a, b, rfl, _⟩
    rfl
  case body =>
    obtain ⟨r, a, b, rfl, q⟩ := h
    refine ⟨_, (pss_cons (ps_if (pt_cmpR op_eq (pv 0) pe_str (nomark _))
      (pss_one (ps_ret (pe_cmpR op_le (pv 1) (pv 2) (nomark _))))
      pss_nil)
      (pss_cons (ps_if (pt_cmpR op_eq (pv 0) pe_str (nomark _))
      (pss_one (ps_ret (pe_cmpR op_ge (pv 1) (pv 2) (nomark _))))
      pss_nil)
      (pss_one (ps_ret (pe_cmpR op_eq (pe_cmpR op_eq (pv 1) (pv 2) (nomark _)) (pe_cmpR op_eq (pv 0) pe_str (nomark _)) (nomark _)))))), ?_⟩
    try dsimp only [L2.cxOf, L2.Cx.nox, L2.Cx.wish]
    rw [st_law_rel]
    have e : Rel.h r a b = (match r with | .le => decide (a ≤ b) | .ge => decide (b ≤ a) | .eq => decide (decide (a = b) = true) | .ne => decide (decide (a = b) = false)) := by
      cases r <;> simp only [Rel.h] <;> rw [Bool.eq_iff_iff] <;> simp
    rw [e] at q
    cases r
    all_goals
      walk_at "cg"
      exact q
theorem ok_law_terms {f : Addr} {fd : FuncData} (F : Fun K "_law_terms" "_law_terms" s_law_terms f fd) (B : Bi K mg) (D_law_draw : Is P w K mg base CX0 1 "_law_draw" ["_law_tape_here", "_law_many"] spDraw) : FnOk P w K mg base CX0 2 f fd ["_law_tape_here", "_law_many"] (spLawTerms K) := by
  have nd := sc_law_terms.nd
  refine F.ok sc_law_terms ?len (fun cdv A outer s H vs Q E hr h => ?body)
  case len =>
    rintro vs H Q E ⟨t, c, m, rfl, _⟩
    rfl
  case body =>
    obtain ⟨t, c, m, rfl, T, m0, m1, q⟩ := h
    refine ⟨_, (pss_cons (ps_set (i := 2) nd rfl (Or.inl rfl) (pe_lst pa_nil))
      (pss_cons (ps_for PassesOwn.never rfl (pi_range1 rfl B.n_range (pa_cons (pv 1) pa_nil)) (pg_name (i := 3) nd rfl (Or.inl rfl))
      (pss_cons (ps_set (i := 4) nd rfl (Or.inl rfl) (pe_op op_sub (pe_is D_law_draw (hr.mono (by decide)) rfl pass0 (pa_cons (pv 0) (pa_cons pe_int pa_nil))) pe_int))
      (pss_one (ps_if (pt_cmpR op_ne (pv 4) pe_int (nomark _))
      (pss_one (ps_expr (pe_bm PySem.F.plainAttrs_list PySem.F.slot_list_append PySem.F.type_list_append mt_append (pv 2) (pa_cons (pe_tup (pa_cons (pv 3) (pa_cons (pv 4) pa_nil))) pa_nil))))
      pss_nil))))
      (pss_one (ps_ret (pe_callTy (cgTuple K) (by rfl) B.n_tuple (by decide +kernel) (pa_cons (pv 2) pa_nil)))))), ?_⟩
    try dsimp only [L2.cxOf, L2.Cx.nox, L2.Cx.wish]
    rw [st_law_terms]
    walk_at "cg"
    rename_i l H1 hl el kl
    have nlt : l ≠ t := by walk_at "cg ne"
    have nlc : l ≠ c := by walk_at "cg ne"
    have T1 : Tp t c H1 := by walk_at "cg h"
    refine r_forR (fun i σ' H' => ∃ (ts : Tms) (refs : List V) (x3 x4 : Option V), σ' = [some (.ref t), some (.int m), some (.ref l), x3, x4] ∧ Tp t c H' ∧ Kp [t] H H' ∧ H' l = some (.lst refs) ∧ ImAll K H' refs (ts.map tD) ∧
      (∀ z ∈ ts, 0 ≤ z.1 ∧ z.1 < i ∧ z.2 ≠ 0 ∧ -3 ≤ z.2 ∧ z.2 ≤ 3) ∧ ts.length ≤ i) ⟨[], [], none, none, rfl, T1, by walk_at "cg kp", el, .nil, (fun z hz => by cases hz), Nat.le_refl _⟩ ?_ ?_
    · rintro i σ' H2 hi ⟨ts, refs, x3, x4, rfl, T2, k2, e2, A2, ok, hn⟩
      have hrl := mapLen A2
      clear T1 el kl T
      walk_at "cg"
      refine if_S (fun h0 => ?_) (fun h0 => ?_)
      · walk_at "cg"
        rename_i d H3 d0 d6 T3 k3 pn H4 hpn sn k4 H5 e5 k5
        refine ⟨ts ++ [((i : Int), d - 3)], refs ++ [.ref pn], some (.int (0 + (i : Int))), some (.int (d - 3)), rfl, by walk_at "cg h", by walk_at "cg kp", e5, ?_, fun z hz => ?_, by simp; omega⟩
        · rw [List.map_append]
          refine (k5.imAll (k4.imAll (k3.imAll A2))).snoc (.tup (k5.tup sn) ?_)
          rw [show (0 + (i : Int)) = (i : Int) by omega]
          exact .cons (.int _) (.cons (.int _) .nil)
        · rcases List.mem_append.mp hz with h | h
          · have q := ok z h
            omega
          · rw [List.mem_singleton] at h
            subst h
            simp only
            omega
      · walk_at "cg"
        rename_i d H3 d0 d6 T3 k3
        exact ⟨ts, refs, some (.int (0 + (i : Int))), some (.int (d - 3)), rfl, by walk_at "cg h", by walk_at "cg kp", by walk_at "cg h", by walk_at "cg h", (fun z hz => by have q := ok z hz; omega), by omega⟩
    · rintro σ' H2 ⟨ts, refs, x3, x4, rfl, T2, k2, e2, A2, ok, hn⟩
      clear T1 el kl T
      walk_at "cg"
      exact q _ _ _ (.tup (by assumption) (by walk_at "cg h")) (fun z hz => by have q := ok z hz; omega) (by omega) (by walk_at "cg h") (by walk_at "cg kp")
theorem ok_law_literal {f : Addr} {fd : FuncData} (F : Fun K "_law_literal" "_law_literal" s_law_literal f fd) (B : Bi K mg) (D_law_draw : Is P w K mg base CX0 1 "_law_draw" ["_law_tape_here", "_law_many"] spDraw) : FnOk P w K mg base CX0 2 f fd ["_law_tape_here", "_law_many"] (spLawLiteral K) := by
  have nd := sc_law_literal.nd
  refine F.ok sc_law_literal ?len (fun cdv A outer s H vs Q E hr h => ?body)
  case len =>
    rintro vs H Q E ⟨t, c, m, rfl, _⟩
    rfl
  case body =>
    obtain ⟨t, c, m, rfl, T, m0, m1, q⟩ := h
    refine ⟨_, (pss_cons (ps_set (i := 2) nd rfl (Or.inl rfl) (pe_ix (ixL K) (pe_lst (pa_cons pe_str (pa_cons pe_str (pa_cons pe_str (pa_cons pe_str pa_nil))))) (pe_is D_law_draw (hr.mono (by decide)) rfl pass0 (pa_cons (pv 0) (pa_cons pe_int pa_nil))) (fun _ _ => rfl)))
      (pss_one (ps_ret (pe_tup (pa_cons (pe_is D_law_draw (hr.mono (by decide)) rfl pass0 (pa_cons (pv 0) (pa_cons (pv 1) pa_nil))) (pa_cons (pv 2) (pa_cons (pe_op op_sub (pe_is D_law_draw (hr.mono (by decide)) rfl pass0 (pa_cons (pv 0) (pa_cons pe_int pa_nil))) pe_int) pa_nil))))))), ?_⟩
    try dsimp only [L2.cxOf, L2.Cx.nox, L2.Cx.wish]
    rw [st_law_literal]
    have mb : m < bigB := by
      have e : (60 : Int) < bigB := by decide
      omega
    walk_at "cg"
    refine ix_rel4 (by walk_at "cg h") (by assumption) (by assumption) fun r => ?_
    walk_at "cg"
    rename_i d1 _ _ _ _ _ d2 _ _ _ _ _ p1 H5 _ _ _
    exact q p1 ⟨d1, r, d2 - 3⟩ _ (by assumption) (by assumption) (by assumption) (by simp only; omega) (by simp only; omega) (by walk_at "cg h") (by walk_at "cg kp")
theorem ok_law_sum {f : Addr} {fd : FuncData} (F : Fun K "_law_sum" "_law_sum" s_law_sum f fd) (B : Bi K mg)  : FnOk P w K mg base CX0 1 f fd ["_law_terms_here", "_law_point"] (spSum K) := by
  have nd := sc_law_sum.nd
  refine F.ok sc_law_sum ?len (fun cdv A outer s H vs Q E hr h => ?body)
  case len =>
    rintro vs H Q E ⟨p, q, ts, pt, rfl, _⟩
    rfl
  case body =>
    obtain ⟨p, q, ts, pt, rfl, hI, hP, hT, k⟩ := h
    refine ⟨_, (pss_cons (ps_set (i := 2) nd rfl (Or.inl rfl) pe_int)
      (pss_cons (ps_for PassesOwn.never rfl (pi_tup (pv 0)) (pg_tup (n := 2) rfl (pgs_cons (pg_name (i := 3) nd rfl (Or.inl rfl)) (pgs_cons (pg_name (i := 4) nd rfl (Or.inl rfl)) pgs_nil)))
      (pss_one (ps_set (i := 2) nd rfl (Or.inl rfl) (pe_op op_add (pv 2) (pe_op op_mul (pv 4) (pe_ix (ixT K) (pv 1) (pv 3) (fun _ _ => rfl)))))))
      (pss_one (ps_ret (pv 2))))), ?_⟩
    try dsimp only [L2.cxOf, L2.Cx.nox, L2.Cx.wish]
    rw [st_law_sum]
    obtain ⟨xs, h1, h2⟩ := hI.open
    have hl := mapLen h2
    walk_at "cg"
    refine r_forT xs (fun i σ' H' => ∃ x3 x4 : Option V, σ' = [some (.ref p), some (.ref q), some (.int (sumAt (ts.take i) pt)), x3, x4] ∧ H = H') ⟨_, _, rfl, rfl⟩ (fun i σ' H' ⟨_, _, _, e⟩ => e ▸ h1) ?_ ?_
    · rintro i x σ' H' hx ⟨x3, x4, rfl, rfl⟩
      obtain ⟨z, hz, hxd⟩ := mapGet h2 hx
      obtain ⟨px, rfl, hs⟩ := term_at hxd
      have hzt := hT z (List.mem_of_getElem? hz)
      walk_at "cg"
      refine r_ixT hP (atI_ints hzt.1 hzt.2.1) ?_
      walk_at "cg"
      exact ⟨_, _, by rw [sumAt_take pt hz], rfl⟩
    · rintro σ' H' ⟨x3, x4, rfl, rfl⟩
      walk_at "cg"
      rw [hl, List.take_length]
      exact k
theorem ok_law_lit {f : Addr} {fd : FuncData} (F : Fun K "_law_lit" "_law_lit" s_law_lit f fd) (B : Bi K mg) (D_law_rel : Is P w K mg base CX0 1 "_law_rel" ["_law_relation", "_law_left", "_law_right"] spRel) : FnOk P w K mg base CX0 2 f fd ["_law_literal_here", "_law_point"] (spLawLit K) := by
  have nd := sc_law_lit.nd
  refine F.ok sc_law_lit ?len (fun cdv A outer s H vs Q E hr h => ?body)
  case len =>
    rintro vs H Q E ⟨p, q, l, pt, rfl, _⟩
    rfl
  case body =>
    obtain ⟨p, q, l, pt, rfl, hL, hP, h0, h1, k⟩ := h
    refine ⟨_, (pss_one (ps_ret (pe_is D_law_rel (hr.mono (by decide)) rfl pass0 (pa_cons (pe_ix (ixT K) (pv 0) pe_int (fun _ _ => rfl)) (pa_cons (pe_ix (ixT K) (pv 1) (pe_ix (ixT K) (pv 0) pe_int (fun _ _ => rfl)) (fun _ _ => rfl)) (pa_cons (pe_ix (ixT K) (pv 0) pe_int (fun _ _ => rfl)) pa_nil)))))), ?_⟩
    try dsimp only [L2.cxOf, L2.Cx.nox, L2.Cx.wish]
    rw [st_law_lit]
    walk_at "cg"
    refine r_ixT hP (atI_ints h0 h1) ?_
    walk_at "cg"
    exact k
theorem ok_law_true {f : Addr} {fd : FuncData} (F : Fun K "_law_true" "_law_true" s_law_true f fd) (B : Bi K mg) (D_law_sum : Is P w K mg base CX0 1 "_law_sum" ["_law_terms_here", "_law_point"] (spSum K)) (D_law_lit : Is P w K mg base CX0 2 "_law_lit" ["_law_literal_here", "_law_point"] (spLawLit K)) : FnOk P w K mg base CX0 3 f fd ["_law_fact_here", "_law_point"] (spTrue K) := by
  have nd := sc_law_true.nd
  refine F.ok sc_law_true ?len (fun cdv A outer s H vs Q E hr h => ?body)
  case len =>
    rintro vs H Q E ⟨p, q, f, pt, rfl, _⟩
    rfl
  case body =>
    obtain ⟨p, q, f, pt, rfl, hf, hP, ok, k⟩ := h
    refine ⟨_, (pss_cons (ps_if (pt_cmpR op_eq (pe_ix (ixT K) (pv 0) pe_int (fun _ _ => rfl)) pe_str (nomark _))
      (pss_one (ps_ret (pe_cmpR op_le (pe_is D_law_sum (hr.mono (by decide)) rfl pass0 (pa_cons (pe_ix (ixT K) (pv 0) pe_int (fun _ _ => rfl)) (pa_cons (pv 1) pa_nil))) (pe_ix (ixT K) (pv 0) pe_int (fun _ _ => rfl)) (nomark _))))
      pss_nil)
      (pss_one (ps_ret (pe_cmpR (inS K) pe_bl (by exact pe_lc (own := [("_law_literal_here", 2)]) (g := (gName 2)) (tt := tYes) rfl nd (pi_tup (pe_ix (ixT K) (pv 0) pe_int (fun _ _ => rfl))) (blkOk_by (N := ["_law_fact_here", "_law_point", "_law_literal_here"]) (sc := defScope s_law_true) (by decide +kernel)) (fun _ _ _ _ _ => (pg_name (i := 2) nd rfl (Or.inl rfl))) (fun _ _ _ _ _ => pts_nil) (fun _ _ _ _ _ => (pe_is D_law_lit (hr.mono (by decide)) rfl pass0 (pa_cons (pv 2) (pa_cons (pv 1) pa_nil))))) rfl)))), ?_⟩
    try dsimp only [L2.cxOf, L2.Cx.nox, L2.Cx.wish]
    rw [st_law_true]
    cases f with
    | row ts n =>
      obtain ⟨qf, sf, jf⟩ := row_open hf
      walk_at "cg"
      refine ⟨qf, q, ts, pt, rfl, jf, hP, fun z hz => ?_, ?_⟩
      · have q := ok.1 z hz
        omega
      · walk_at "cg"
        exact k _ .refl
    | any ls =>
      obtain ⟨qf, sf, jf⟩ := any_open hf
      obtain ⟨xs, s2, i2⟩ := Im.open jf
      have hln := mapLen i2
      have hm := ok.2
      walk_at "cg"
      refine r_lcT xs (fun D i H' => Kp [] H H' ∧ H D = none ∧ H' D = some (.lst (((ls.take i).map fun l => l.h pt).map V.bl))) (fun D H2 hD e2 k2 => ⟨k2, hD, e2⟩) (fun D i H' ⟨k2, _⟩ => k2.tup s2) ?_ ?_
      · rintro D i x H' hx ⟨k2, hD, eD⟩
        obtain ⟨l, hl', hxm⟩ := mapGet i2 hx
        obtain ⟨qx, rfl, Lx⟩ := lit_at hxm
        have hlo := ok.1 l (List.mem_of_getElem? hl')
        walk_at "cg"
        refine ⟨qx, q, l, pt, rfl, by walk_at "cg h", by walk_at "cg h", hlo.1, hlo.2.1, ?_⟩
        walk_at "cg"
        have hi : i < ls.length := (List.getElem?_eq_some_iff.mp hl').1
        refine r_ap (by walk_at "cg h") (small1000 (by simp; omega)) fun H4 e4 k4 => ?_
        refine ⟨by walk_at "cg kp", hD, ?_⟩
        rw [e4, map_take_snoc hl', List.map_append]
        rfl
      · rintro D H' ⟨k2, hD, eD⟩
        refine r_inL (b := (ls.any fun l => l.h pt)) (by walk_at "cg h") rfl (flat_bls _) ?_ ?_
        · show inV _ _ = _
          rw [inV_true, hln, List.take_length, List.any_map]
          rfl
        · exact k _ (by walk_at "cg kp")

theorem ok_law_fact {f : Addr} {fd : FuncData} (F : Fun K "_law_fact" "_law_fact" s_law_fact f fd) (B : Bi K mg) (D_law_draw : Is P w K mg base CX0 1 "_law_draw" ["_law_tape_here", "_law_many"] spDraw) (D_law_terms : Is P w K mg base CX0 2 "_law_terms" ["_law_tape_here", "_law_many"] (spLawTerms K)) (D_law_literal : Is P w K mg base CX0 2 "_law_literal" ["_law_tape_here", "_law_many"] (spLawLiteral K)) : FnOk P w K mg base CX0 3 f fd ["_law_tape_here", "_law_many"] (spLawFact K) := by
  have nd := sc_law_fact.nd
  refine F.ok sc_law_fact ?len (fun cdv A outer s H vs Q E hr h => ?body)
  case len =>
    rintro vs H Q E ⟨t, c, m, rfl, _⟩
    rfl
  case body =>
    obtain ⟨t, c, m, rfl, T, m0, m1, q⟩ := h
    refine ⟨_, (pss_cons (ps_if (pt_cmpR op_eq (pe_is D_law_draw (hr.mono (by decide)) rfl pass0 (pa_cons (pv 0) (pa_cons pe_int pa_nil))) pe_int (nomark _))
      (pss_one (ps_ret (pe_tup (pa_cons pe_str (pa_cons (pe_is D_law_terms (hr.mono (by decide)) rfl pass0 (pa_cons (pv 0) (pa_cons (pv 1) pa_nil))) (pa_cons (pe_op op_sub (pe_is D_law_draw (hr.mono (by decide)) rfl pass0 (pa_cons (pv 0) (pa_cons pe_int pa_nil))) pe_int) pa_nil))))))
      pss_nil)
      (pss_one (ps_ret (pe_tup (pa_cons pe_str (pa_cons (pe_callTy (cgTuple K) (by rfl) B.n_tuple (by decide +kernel) (pa_cons (by exact pe_lc (own := [("_law_k", 2)]) (g := (gName 2)) (tt := tYes) rfl nd (pi_range1 rfl B.n_range (pa_cons (pe_is D_law_draw (hr.mono (by decide)) rfl pass0 (pa_cons (pv 0) (pa_cons pe_int pa_nil))) pa_nil)) (blkOk_by (N := ["_law_tape_here", "_law_many", "_law_k"]) (sc := defScope s_law_fact) (by decide +kernel)) (fun _ _ _ _ _ => (pg_name (i := 2) nd rfl (Or.inl rfl))) (fun _ _ _ _ _ => pts_nil) (fun _ _ _ _ _ => (pe_is D_law_literal (hr.mono (by decide)) rfl pass0 (pa_cons (pv 0) (pa_cons (pv 1) pa_nil))))) pa_nil)) pa_nil)))))), ?_⟩
    try dsimp only [L2.cxOf, L2.Cx.nox, L2.Cx.wish]
    rw [st_law_fact]
    walk_at "cg"
    refine if_S (fun h0 => ?_) (fun h0 => ?_)
    · walk_at "cg"
      refine ⟨t, c, m, rfl, by walk_at "cg h", by omega, by omega, fun p ts H2 I2 ok2 hn T2 k2 => ?_⟩
      walk_at "cg"
      exact q _ (.row ts _) _ (row_mk (by assumption) (by walk_at "cg h")) ⟨fun z hz => by have q := ok2 z hz; omega, by omega, by omega, by omega⟩ ⟨by omega, by omega⟩ trivial ⟨fun z hz => by have q := ok2 z hz; omega, by omega, by omega, by omega⟩ (by walk_at "cg h") (by walk_at "cg kp")
    · walk_at "cg"
      rename_i d0 H0 _ _ T0 k0 d H1 d0 d4 T1 k1
      refine r_lcR (fun D i H' => Kp [t] H1 H' ∧ H1 D = none ∧ Tp t c H' ∧ ∃ (ls : List Lit) (refs : List V), H' D = some (.lst refs) ∧ ImAll K H' refs (ls.map Lit.d) ∧ ls.length = i ∧ (∀ l ∈ ls, 0 ≤ l.v ∧ l.v < m ∧ -3 ≤ l.a ∧ l.a ≤ 5))
        (fun D H2 hD e2 k2 => ⟨by walk_at "cg kp", hD, by walk_at "cg h", [], [], e2, .nil, rfl, fun l hl => by cases hl⟩) ?_ ?_
      · rintro D i H' hi ⟨k2, hD, T2, ls, refs, eD, A2, hn, ok⟩
        have nDt : D ≠ t := by walk_at "cg ne"
        have nDc : D ≠ c := by walk_at "cg ne"
        have hrl := mapLen A2
        walk_at "cg"
        refine ⟨t, c, m, rfl, by walk_at "cg h", m0, m1, fun p l H3 L3 v0 v1 a0 a1 T3 k3 => ?_⟩
        walk_at "cg"
        refine r_ap (by walk_at "cg h") (small1000 (by omega)) fun H4 e4 k4 => ?_
        refine ⟨by walk_at "cg kp", hD, by walk_at "cg h", ls ++ [l], refs ++ [.ref p], e4, ?_, by simp [hn], fun z hz => ?_⟩
        · rw [List.map_append]
          exact (k4.imAll (k3.imAll A2)).snoc (k4.im (lit_mk L3))
        · rcases List.mem_append.mp hz with h | h
          · exact ok z h
          · rw [List.mem_singleton] at h
            subst h
            exact ⟨v0, v1, a0, a1⟩
      · rintro D H' ⟨k2, hD, T2, ls, refs, eD, A2, hn, ok⟩
        walk_at "cg"
        exact q _ (.any ls) _ (any_mk (by assumption) (.tup (by walk_at "cg h") (by walk_at "cg h"))) ⟨fun z hz => by have q := ok z hz; omega, by omega⟩ (fun z hz => by have q := ok z hz; omega) (by show _ ≤ _; omega) ⟨fun z hz => by have q := ok z hz; omega, by omega⟩ (by walk_at "cg h") (by walk_at "cg kp")
theorem ok_law_as_row {f : Addr} {fd : FuncData} (F : Fun K "_law_as_row" "_law_as_row" s_law_as_row f fd) (B : Bi K mg)  : FnOk P w K mg base CX0 1 f fd ["_law_fact_here"] (spAsRow K) := by
  have nd := sc_law_as_row.nd
  refine F.ok sc_law_as_row ?len (fun cdv A outer s H vs Q E hr h => ?body)
  case len =>
    rintro vs H Q E ⟨p, f, rfl, _⟩
    rfl
  case body =>
    obtain ⟨p, f, rfl, hf, k⟩ := h
    refine ⟨_, (pss_cons (ps_if (pt_cmpR op_eq (pe_ix (ixT K) (pv 0) pe_int (fun _ _ => rfl)) pe_str (nomark _))
      (pss_one (ps_ret (pv 0)))
      pss_nil)
      (pss_cons (ps_if (PW.pt (pw_and (pt_cmpR op_eq (pe_callB (cgLen K) (by rfl) B.n_len PySem.boot_len (pa_cons (pe_ix (ixT K) (pv 0) pe_int (fun _ _ => rfl)) pa_nil)) pe_int (nomark _)) (pw_and1 (pt_cmpR op_eq (pe_ix (ixT K) (pe_ix (ixT K) (pe_ix (ixT K) (pv 0) pe_int (fun _ _ => rfl)) pe_int (fun _ _ => rfl)) pe_int (fun _ _ => rfl)) pe_str (nomark _)))))
      (pss_one (ps_ret (pe_tup (pa_cons pe_str (pa_cons (pe_tup (pa_cons (pe_tup (pa_cons (pe_ix (ixT K) (pe_ix (ixT K) (pe_ix (ixT K) (pv 0) pe_int (fun _ _ => rfl)) pe_int (fun _ _ => rfl)) pe_int (fun _ _ => rfl)) (pa_cons pe_int pa_nil))) pa_nil)) (pa_cons (pe_ix (ixT K) (pe_ix (ixT K) (pe_ix (ixT K) (pv 0) pe_int (fun _ _ => rfl)) pe_int (fun _ _ => rfl)) pe_int (fun _ _ => rfl)) pa_nil))))))
      pss_nil)
      (pss_cons (ps_if (PW.pt (pw_and (pt_cmpR op_eq (pe_callB (cgLen K) (by rfl) B.n_len PySem.boot_len (pa_cons (pe_ix (ixT K) (pv 0) pe_int (fun _ _ => rfl)) pa_nil)) pe_int (nomark _)) (pw_and1 (pt_cmpR op_eq (pe_ix (ixT K) (pe_ix (ixT K) (pe_ix (ixT K) (pv 0) pe_int (fun _ _ => rfl)) pe_int (fun _ _ => rfl)) pe_int (fun _ _ => rfl)) pe_str (nomark _)))))
      (pss_one (ps_ret (pe_tup (pa_cons pe_str (pa_cons (pe_tup (pa_cons (pe_tup (pa_cons (pe_ix (ixT K) (pe_ix (ixT K) (pe_ix (ixT K) (pv 0) pe_int (fun _ _ => rfl)) pe_int (fun _ _ => rfl)) pe_int (fun _ _ => rfl)) (pa_cons (pe_op op_sub pe_int pe_int) pa_nil))) pa_nil)) (pa_cons (pe_op op_sub pe_int (pe_ix (ixT K) (pe_ix (ixT K) (pe_ix (ixT K) (pv 0) pe_int (fun _ _ => rfl)) pe_int (fun _ _ => rfl)) pe_int (fun _ _ => rfl))) pa_nil))))))
      pss_nil)
      (pss_one (ps_ret pe_non))))), ?_⟩
    try dsimp only [L2.cxOf, L2.Cx.nox, L2.Cx.wish]
    rw [st_law_as_row]
    cases f with
    | row ts n =>
      obtain ⟨q, s1, i1⟩ := row_open hf
      walk_at "cg"
      exact k _ _ (.some hf) .refl
    | any ls =>
      obtain ⟨q, s1, i1⟩ := any_open hf
      obtain ⟨xs, s2, i2⟩ := Im.open i1
      have hl := mapLen i2
      match ls, i2, k, hl with
      | [], i2, k, hl =>
        simp only [List.length_nil] at hl
        walk_at "cg"
        exact k _ _ .none .refl
      | l :: l' :: ls, i2, k, hl =>
        simp only [List.length_cons] at hl
        rw [asRow_two] at k
        walk_at "cg"
        exact k _ _ .none .refl
      | [⟨v, r, a⟩], i2, k, hl =>
        cases i2 with
        | cons h1 h2 =>
        cases h2
        obtain ⟨ql, rfl, L⟩ := lit_at h1
        dsimp only at L
        cases r
        · walk_at "cg"
          exact k _ _ (.some (row_mk (by assumption) (.tup (by walk_at "cg h") (.cons (.tup (by walk_at "cg h") (.cons (.int _) (.cons (.int _) .nil))) .nil)))) (by walk_at "cg kp")
        · walk_at "cg"
          rename_i px Hx _ sx kx
          rw [Int.zero_sub] at sx
          exact k _ _ (.some (row_mk sx (.tup (by walk_at "cg h") (.cons (.tup (by walk_at "cg h") (.cons (.int _) (.cons (.int _) .nil))) .nil)))) (by walk_at "cg kp")
        · walk_at "cg"
          exact k _ _ .none .refl
        · walk_at "cg"
          exact k _ _ .none .refl
theorem ok_law_as_literal {f : Addr} {fd : FuncData} (F : Fun K "_law_as_literal" "_law_as_literal" s_law_as_literal f fd) (B : Bi K mg)  : FnOk P w K mg base CX0 1 f fd ["_law_fact_here"] (spAsLit K) := by
  have nd := sc_law_as_literal.nd
  refine F.ok sc_law_as_literal ?len (fun cdv A outer s H vs Q E hr h => ?body)
  case len =>
    rintro vs H Q E ⟨p, f, m, rfl, _⟩
    rfl
  case body =>
    obtain ⟨p, f, m, rfl, hf, ok, k⟩ := h
    refine ⟨_, (pss_cons (ps_if (pt_cmpR op_ne (pe_callB (cgLen K) (by rfl) B.n_len PySem.boot_len (pa_cons (pe_ix (ixT K) (pv 0) pe_int (fun _ _ => rfl)) pa_nil)) pe_int (nomark _))
      (pss_one (ps_ret pe_non))
      pss_nil)
      (pss_cons (ps_if (pt_cmpR op_eq (pe_ix (ixT K) (pv 0) pe_int (fun _ _ => rfl)) pe_str (nomark _))
      (pss_one (ps_ret (pe_ix (ixT K) (pe_ix (ixT K) (pv 0) pe_int (fun _ _ => rfl)) pe_int (fun _ _ => rfl))))
      pss_nil)
      (pss_cons (ps_asg (pe_ix (ixT K) (pe_ix (ixT K) (pv 0) pe_int (fun _ _ => rfl)) pe_int (fun _ _ => rfl)) (pg_tup (n := 2) rfl (pgs_cons (pg_name (i := 1) nd rfl (Or.inl rfl)) (pgs_cons (pg_name (i := 2) nd rfl (Or.inl rfl)) pgs_nil))))
      (pss_cons (ps_if (pt_cmpR op_gt (pv 2) pe_int (nomark _))
      (pss_one (ps_ret (pe_tup (pa_cons (pv 1) (pa_cons pe_str (pa_cons (pe_op op_fdiv (pe_ix (ixT K) (pv 0) pe_int (fun _ _ => rfl)) (pv 2)) pa_nil))))))
      pss_nil)
      (pss_one (ps_ret (pe_tup (pa_cons (pv 1) (pa_cons pe_str (pa_cons (pe_op op_sub pe_int (pe_op op_fdiv (pe_ix (ixT K) (pv 0) pe_int (fun _ _ => rfl)) (pe_op op_sub pe_int (pv 2)))) pa_nil)))))))))), ?_⟩
    try dsimp only [L2.cxOf, L2.Cx.nox, L2.Cx.wish]
    rw [st_law_as_literal]
    cases f with
    | row ts n =>
      obtain ⟨q, s1, i1⟩ := row_open hf
      obtain ⟨xs, s2, i2⟩ := Im.open i1
      have hl := mapLen i2
      match ts, i2, k, hl, ok with
      | [], i2, k, hl, ok =>
        simp only [List.length_nil] at hl
        walk_at "cg"
        exact k _ _ .none .refl
      | l :: l' :: ls, i2, k, hl, ok =>
        simp only [List.length_cons] at hl
        rw [asLit_row2] at k
        walk_at "cg"
        exact k _ _ .none .refl
      | [(v, co)], i2, k, hl, ok =>
        have okz := ok.1 (v, co) List.mem_cons_self
        cases i2 with
        | cons h1 h2 =>
        cases h2
        obtain ⟨ql, rfl, L⟩ := term_at h1
        dsimp only at L okz
        walk_at "cg"
        by_cases hc : 0 < co
        · simp only [Fact.asLit, if_pos hc] at k
          walk_at "cg"
          exact k _ _ (.some (l := ⟨v, .le, n / co⟩) (by walk_at "cg h")) (by walk_at "cg kp")
        · simp only [Fact.asLit, if_neg hc] at k
          walk_at "cg"
          rename_i px Hx _ sx kx
          rw [Int.zero_sub, Int.zero_sub] at sx
          exact k _ _ (.some (l := ⟨v, .ge, -(n / -co)⟩) sx) (by walk_at "cg kp")
    | any ls =>
      obtain ⟨q, s1, i1⟩ := any_open hf
      obtain ⟨xs, s2, i2⟩ := Im.open i1
      have hl := mapLen i2
      match ls, i2, k, hl with
      | [], i2, k, hl =>
        simp only [List.length_nil] at hl
        walk_at "cg"
        exact k _ _ .none .refl
      | l :: l' :: ls, i2, k, hl =>
        simp only [List.length_cons] at hl
        rw [asLit_two] at k
        walk_at "cg"
        exact k _ _ .none .refl
      | [l], i2, k, hl =>
        cases i2 with
        | cons h1 h2 =>
        cases h2
        obtain ⟨ql, rfl, L⟩ := lit_at h1
        walk_at "cg"
        exact k _ _ (.some L) .refl

theorem ok_is_contradiction {f : Addr} {fd : FuncData} (F : Fun K "is_contradiction" "is_contradiction" s_is_contradiction f fd) (B : Bi K mg)  : FnOk P w K mg base CX0 1 f fd ["fact"] (spCon K) := by
  have nd := sc_is_contradiction.nd
  refine F.ok sc_is_contradiction ?len (fun cdv A outer s H vs Q E hr h => ?body)
  case len =>
    rintro vs H Q E ⟨p, f, rfl, _⟩
    rfl
  case body =>
    obtain ⟨p, f, rfl, hf, k⟩ := h
    refine ⟨_, (pss_cons (ps_if (pt_cmpR op_eq (pe_ix (ixT K) (pv 0) pe_int (fun _ _ => rfl)) pe_str (nomark _))
      (pss_one (ps_ret (pe_and (pe_cmpR op_eq (pe_callB (cgLen K) (by rfl) B.n_len PySem.boot_len (pa_cons (pe_ix (ixT K) (pv 0) pe_int (fun _ _ => rfl)) pa_nil)) pe_int (nomark _)) (pe_one (pe_cmpR op_lt (pe_ix (ixT K) (pv 0) pe_int (fun _ _ => rfl)) pe_int (nomark _))))))
      pss_nil)
      (pss_one (ps_ret (pe_cmpR op_eq (pe_callB (cgLen K) (by rfl) B.n_len PySem.boot_len (pa_cons (pe_ix (ixT K) (pv 0) pe_int (fun _ _ => rfl)) pa_nil)) pe_int (nomark _))))), ?_⟩
    try dsimp only [L2.cxOf, L2.Cx.nox, L2.Cx.wish]
    rw [st_is_contradiction]
    cases f with
    | row ts n =>
      obtain ⟨q, s1, i1⟩ := row_open hf
      obtain ⟨xs, s2, i2⟩ := Im.open i1
      have hl := mapLen i2
      have e : decide ((xs.length : Int) = 0) = ts.isEmpty := by
        rw [hl]
        cases ts <;> simp <;> omega
      walk_at "cg"
      rw [e]
      refine if_B (fun e1 => ?_) (fun e1 => ?_)
      · walk_at "cg"
        simp only [Fact.isCon, e1, Bool.true_and] at k
        exact k
      · walk_at "cg"
        simp only [Fact.isCon, e1, Bool.false_and] at k
        exact k
    | any ls =>
      obtain ⟨q, s1, i1⟩ := any_open hf
      obtain ⟨xs, s2, i2⟩ := Im.open i1
      have hl := mapLen i2
      have e : decide ((xs.length : Int) = 0) = ls.isEmpty := by
        rw [hl]
        cases ls <;> simp <;> omega
      walk_at "cg"
      rw [e]
      exact k
theorem ok_as_row {f : Addr} {fd : FuncData} (F : Fun K "as_row" "as_row" s_as_row f fd) (B : Bi K mg)  : FnOk P w K mg base CX0 1 f fd ["fact"] (spAsRow K) := by
  have nd := sc_as_row.nd
  refine F.ok sc_as_row ?len (fun cdv A outer s H vs Q E hr h => ?body)
  case len =>
    rintro vs H Q E ⟨p, f, rfl, _⟩
    rfl
  case body =>
    obtain ⟨p, f, rfl, hf, k⟩ := h
    refine ⟨_, (pss_cons (ps_if (pt_cmpR op_eq (pe_ix (ixT K) (pv 0) pe_int (fun _ _ => rfl)) pe_str (nomark _))
      (pss_one (ps_ret (pv 0)))
      pss_nil)
      (pss_cons (ps_if (pt_cmpR op_ne (pe_callB (cgLen K) (by rfl) B.n_len PySem.boot_len (pa_cons (pe_ix (ixT K) (pv 0) pe_int (fun _ _ => rfl)) pa_nil)) pe_int (nomark _))
      (pss_one (ps_ret pe_non))
      pss_nil)
      (pss_cons (ps_asg (pe_ix (ixT K) (pe_ix (ixT K) (pv 0) pe_int (fun _ _ => rfl)) pe_int (fun _ _ => rfl)) (pg_tup (n := 3) rfl (pgs_cons (pg_name (i := 1) nd rfl (Or.inl rfl)) (pgs_cons (pg_name (i := 2) nd rfl (Or.inl rfl)) (pgs_cons (pg_name (i := 3) nd rfl (Or.inl rfl)) pgs_nil)))))
      (pss_cons (ps_if (pt_cmpR op_eq (pv 2) pe_str (nomark _))
      (pss_one (ps_ret (pe_tup (pa_cons pe_str (pa_cons (pe_tup (pa_cons (pe_tup (pa_cons (pv 1) (pa_cons pe_int pa_nil))) pa_nil)) (pa_cons (pv 3) pa_nil))))))
      pss_nil)
      (pss_cons (ps_if (pt_cmpR op_eq (pv 2) pe_str (nomark _))
      (pss_one (ps_ret (pe_tup (pa_cons pe_str (pa_cons (pe_tup (pa_cons (pe_tup (pa_cons (pv 1) (pa_cons (pe_un un_neg pe_int) pa_nil))) pa_nil)) (pa_cons (pe_un un_neg (pv 3)) pa_nil))))))
      pss_nil)
      (pss_one (ps_ret pe_non))))))), ?_⟩
    try dsimp only [L2.cxOf, L2.Cx.nox, L2.Cx.wish]
    rw [st_as_row]
    cases f with
    | row ts n =>
      obtain ⟨q, s1, i1⟩ := row_open hf
      walk_at "cg"
      exact k _ _ (.some hf) .refl
    | any ls =>
      obtain ⟨q, s1, i1⟩ := any_open hf
      obtain ⟨xs, s2, i2⟩ := Im.open i1
      have hl := mapLen i2
      match ls, i2, k, hl with
      | [], i2, k, hl =>
        simp only [List.length_nil] at hl
        walk_at "cg"
        exact k _ _ .none .refl
      | l :: l' :: ls, i2, k, hl =>
        simp only [List.length_cons] at hl
        rw [asRow_two] at k
        walk_at "cg"
        exact k _ _ .none .refl
      | [⟨v, r, a⟩], i2, k, hl =>
        cases i2 with
        | cons h1 h2 =>
        cases h2
        obtain ⟨ql, rfl, L⟩ := lit_at h1
        dsimp only at L
        cases r
        · walk_at "cg"
          exact k _ _ (.some (row_mk (by assumption) (.tup (by walk_at "cg h") (.cons (.tup (by walk_at "cg h") (.cons (.int _) (.cons (.int _) .nil))) .nil)))) (by walk_at "cg kp")
        · walk_at "cg"
          exact k _ _ (.some (row_mk (by assumption) (.tup (by walk_at "cg h") (.cons (.tup (by walk_at "cg h") (.cons (.int _) (.cons (.int _) .nil))) .nil)))) (by walk_at "cg kp")
        · walk_at "cg"
          exact k _ _ .none .refl
        · walk_at "cg"
          exact k _ _ .none .refl
theorem ok_as_literal {f : Addr} {fd : FuncData} (F : Fun K "as_literal" "as_literal" s_as_literal f fd) (B : Bi K mg)  : FnOk P w K mg base CX0 1 f fd ["fact"] (spAsLit K) := by
  have nd := sc_as_literal.nd
  refine F.ok sc_as_literal ?len (fun cdv A outer s H vs Q E hr h => ?body)
  case len =>
    rintro vs H Q E ⟨p, f, m, rfl, _⟩
    rfl
  case body =>
    obtain ⟨p, f, m, rfl, hf, ok, k⟩ := h
    refine ⟨_, (pss_cons (ps_if (pt_cmpR op_ne (pe_callB (cgLen K) (by rfl) B.n_len PySem.boot_len (pa_cons (pe_ix (ixT K) (pv 0) pe_int (fun _ _ => rfl)) pa_nil)) pe_int (nomark _))
      (pss_one (ps_ret pe_non))
      pss_nil)
      (pss_cons (ps_if (pt_cmpR op_eq (pe_ix (ixT K) (pv 0) pe_int (fun _ _ => rfl)) pe_str (nomark _))
      (pss_one (ps_ret (pe_ix (ixT K) (pe_ix (ixT K) (pv 0) pe_int (fun _ _ => rfl)) pe_int (fun _ _ => rfl))))
      pss_nil)
      (pss_cons (ps_asg (pe_ix (ixT K) (pe_ix (ixT K) (pv 0) pe_int (fun _ _ => rfl)) pe_int (fun _ _ => rfl)) (pg_tup (n := 2) rfl (pgs_cons (pg_name (i := 1) nd rfl (Or.inl rfl)) (pgs_cons (pg_name (i := 2) nd rfl (Or.inl rfl)) pgs_nil))))
      (pss_cons (ps_if (pt_cmpR op_gt (pv 2) pe_int (nomark _))
      (pss_one (ps_ret (pe_tup (pa_cons (pv 1) (pa_cons pe_str (pa_cons (pe_op op_fdiv (pe_ix (ixT K) (pv 0) pe_int (fun _ _ => rfl)) (pv 2)) pa_nil))))))
      pss_nil)
      (pss_one (ps_ret (pe_tup (pa_cons (pv 1) (pa_cons pe_str (pa_cons (pe_un un_neg (pe_op op_fdiv (pe_ix (ixT K) (pv 0) pe_int (fun _ _ => rfl)) (pe_un un_neg (pv 2)))) pa_nil)))))))))), ?_⟩
    try dsimp only [L2.cxOf, L2.Cx.nox, L2.Cx.wish]
    rw [st_as_literal]
    cases f with
    | row ts n =>
      obtain ⟨q, s1, i1⟩ := row_open hf
      obtain ⟨xs, s2, i2⟩ := Im.open i1
      have hl := mapLen i2
      match ts, i2, k, hl, ok with
      | [], i2, k, hl, ok =>
        simp only [List.length_nil] at hl
        walk_at "cg"
        exact k _ _ .none .refl
      | l :: l' :: ls, i2, k, hl, ok =>
        simp only [List.length_cons] at hl
        rw [asLit_row2] at k
        walk_at "cg"
        exact k _ _ .none .refl
      | [(v, co)], i2, k, hl, ok =>
        have okz := ok.1 (v, co) List.mem_cons_self
        cases i2 with
        | cons h1 h2 =>
        cases h2
        obtain ⟨ql, rfl, L⟩ := term_at h1
        dsimp only at L okz
        by_cases hc : 0 < co
        · simp only [Fact.asLit, if_pos hc] at k
          walk_at "cg"
          exact k _ _ (.some (l := ⟨v, .le, n / co⟩) (by walk_at "cg h")) (by walk_at "cg kp")
        · simp only [Fact.asLit, if_neg hc] at k
          walk_at "cg"
          exact k _ _ (.some (l := ⟨v, .ge, -(n / -co)⟩) (by walk_at "cg h")) (by walk_at "cg kp")
    | any ls =>
      obtain ⟨q, s1, i1⟩ := any_open hf
      obtain ⟨xs, s2, i2⟩ := Im.open i1
      have hl := mapLen i2
      match ls, i2, k, hl with
      | [], i2, k, hl =>
        simp only [List.length_nil] at hl
        walk_at "cg"
        exact k _ _ .none .refl
      | l :: l' :: ls, i2, k, hl =>
        simp only [List.length_cons] at hl
        rw [asLit_two] at k
        walk_at "cg"
        exact k _ _ .none .refl
      | [l], i2, k, hl =>
        cases i2 with
        | cons h1 h2 =>
        cases h2
        obtain ⟨ql, rfl, L⟩ := lit_at h1
        walk_at "cg"
        exact k _ _ (.some L) .refl

theorem ok_law_negation {f : Addr} {fd : FuncData} (F : Fun K "_law_negation" "_law_negation" s_law_negation f fd) (B : Bi K mg)  : FnOk P w K mg base CX0 1 f fd ["_law_fact_here"] (spNegF K) := by
  have nd := sc_law_negation.nd
  refine F.ok sc_law_negation ?len (fun cdv A outer s H vs Q E hr h => ?body)
  case len =>
    rintro vs H Q E ⟨p, f, m, rfl, _⟩
    rfl
  case body =>
    obtain ⟨p, f, m, rfl, hf, ok, k⟩ := h
    refine ⟨_, (pss_cons (ps_if (pt_cmpR op_eq (pe_ix (ixT K) (pv 0) pe_int (fun _ _ => rfl)) pe_str (nomark _))
      (pss_one (ps_ret (pe_tup (pa_cons pe_str (pa_cons (pe_callTy (cgTuple K) (by rfl) B.n_tuple (by decide +kernel) (pa_cons (by exact pe_lc (own := [("_law_v", 1), ("_law_c", 4)]) (g := (gTup K 2 (gCons (gName 1) (gCons (gName 4) gNil)))) (tt := tYes) rfl nd (pi_tup (pe_ix (ixT K) (pv 0) pe_int (fun _ _ => rfl))) (blkOk_by (N := ["_law_fact_here", "_law_v", "_law_relation", "_law_a", "_law_c"]) (sc := defScope s_law_negation) (by decide +kernel)) (fun _ _ _ _ _ => (pg_tup (n := 2) rfl (pgs_cons (pg_name (i := 1) nd rfl (Or.inl rfl)) (pgs_cons (pg_name (i := 4) nd rfl (Or.inl rfl)) pgs_nil)))) (fun _ _ _ _ _ => pts_nil) (fun _ _ _ _ _ => (pe_tup (pa_cons (pv 1) (pa_cons (pe_op op_sub pe_int (pv 4)) pa_nil))))) pa_nil)) (pa_cons (pe_op op_sub (pe_op op_sub pe_int (pe_ix (ixT K) (pv 0) pe_int (fun _ _ => rfl))) pe_int) pa_nil))))))
      pss_nil)
      (pss_cons (ps_if (pt_cmpR op_ne (pe_callB (cgLen K) (by rfl) B.n_len PySem.boot_len (pa_cons (pe_ix (ixT K) (pv 0) pe_int (fun _ _ => rfl)) pa_nil)) pe_int (nomark _))
      (pss_one (ps_ret pe_non))
      pss_nil)
      (pss_cons (ps_asg (pe_ix (ixT K) (pe_ix (ixT K) (pv 0) pe_int (fun _ _ => rfl)) pe_int (fun _ _ => rfl)) (pg_tup (n := 3) rfl (pgs_cons (pg_name (i := 1) nd rfl (Or.inl rfl)) (pgs_cons (pg_name (i := 2) nd rfl (Or.inl rfl)) (pgs_cons (pg_name (i := 3) nd rfl (Or.inl rfl)) pgs_nil)))))
      (pss_cons (ps_if (pt_cmpR op_eq (pv 2) pe_str (nomark _))
      (pss_one (ps_ret (pe_tup (pa_cons pe_str (pa_cons (pe_tup (pa_cons (pe_tup (pa_cons (pv 1) (pa_cons pe_str (pa_cons (pe_op op_add (pv 3) pe_int) pa_nil)))) pa_nil)) pa_nil)))))
      pss_nil)
      (pss_cons (ps_if (pt_cmpR op_eq (pv 2) pe_str (nomark _))
      (pss_one (ps_ret (pe_tup (pa_cons pe_str (pa_cons (pe_tup (pa_cons (pe_tup (pa_cons (pv 1) (pa_cons pe_str (pa_cons (pe_op op_sub (pv 3) pe_int) pa_nil)))) pa_nil)) pa_nil)))))
      pss_nil)
      (pss_cons (ps_if (pt_cmpR op_eq (pv 2) pe_str (nomark _))
      (pss_one (ps_ret (pe_tup (pa_cons pe_str (pa_cons (pe_tup (pa_cons (pe_tup (pa_cons (pv 1) (pa_cons pe_str (pa_cons (pv 3) pa_nil)))) pa_nil)) pa_nil)))))
      pss_nil)
      (pss_one (ps_ret (pe_tup (pa_cons pe_str (pa_cons (pe_tup (pa_cons (pe_tup (pa_cons (pv 1) (pa_cons pe_str (pa_cons (pv 3) pa_nil)))) pa_nil)) pa_nil))))))))))), ?_⟩
    try dsimp only [L2.cxOf, L2.Cx.nox, L2.Cx.wish]
    rw [st_law_negation]
    cases f with
    | row ts n =>
      obtain ⟨qf, sf, jf⟩ := row_open hf
      obtain ⟨xs, s2, i2⟩ := Im.open jf
      have hln := mapLen i2
      have hm := ok.2.1
      walk_at "cg"
      refine r_lcT xs (fun D i H' => Kp [] H H' ∧ H D = none ∧ ∃ acc, H' D = some (.lst acc) ∧ ImAll K H' acc ((negT (ts.take i)).map tD)) (fun D H2 hD e2 k2 => ⟨k2, hD, [], e2, .nil⟩) (fun D i H' ⟨k2, _⟩ => k2.tup s2) ?_ ?_
      · rintro D i x H' hx ⟨k2, hD, acc, eD, hA⟩
        obtain ⟨z, hz, hxd⟩ := mapGet i2 hx
        obtain ⟨px, rfl, hs⟩ := term_at hxd
        have hal := mapLen hA
        unfold negT at hal
        rw [List.length_map, List.length_take] at hal
        walk_at "cg"
        rename_i pn H3 hpn hsn k3
        refine r_ap (by walk_at "cg h") (small1000 (by omega)) fun H4 e4 k4 => ?_
        refine ⟨by walk_at "cg kp", hD, _, e4, ?_⟩
        have e5 : (negT (ts.take (i + 1))).map tD = (negT (ts.take i)).map tD ++ [tD (z.1, 0 - z.2)] := by
          unfold negT
          rw [map_take_snoc hz, List.map_append, Int.zero_sub]
          rfl
        rw [e5]
        exact (k4.imAll (k3.imAll hA)).snoc (.tup (k4.tup hsn) (.cons (.int _) (.cons (.int _) .nil)))
      · rintro D H' ⟨k2, hD, acc, eD, hA⟩
        rw [hln, List.take_length] at hA
        walk_at "cg"
        rename_i px Hx _ sx kx
        rw [Int.zero_sub] at sx
        exact k _ _ (.some (row_mk sx (.tup (by walk_at "cg h") (by walk_at "cg h")))) (by walk_at "cg kp")
    | any ls =>
      obtain ⟨qf, sf, jf⟩ := any_open hf
      obtain ⟨xs, s2, i2⟩ := Im.open jf
      have hl := mapLen i2
      match ls, i2, k, hl with
      | [], i2, k, hl =>
        simp only [List.length_nil] at hl
        walk_at "cg"
        exact k _ _ .none .refl
      | l :: l' :: ls, i2, k, hl =>
        simp only [List.length_cons] at hl
        walk_at "cg"
        exact k _ _ .none .refl
      | [⟨v, r, a⟩], i2, k, hl =>
        cases i2 with
        | cons h1 h2 =>
        cases h2
        obtain ⟨ql, rfl, L⟩ := lit_at h1
        dsimp only at L
        cases r
        all_goals
          walk_at "cg"
          exact k _ _ (.some (any_mk (by assumption) (.tup (by walk_at "cg h") (.cons (.tup (by walk_at "cg h") (.cons (.int _) (.cons (.str _) (.cons (.int _) .nil)))) .nil)))) (by walk_at "cg kp")
end
section
variable {P : Program} {w : World} {K : PySem.W.Frag} {mg : Str → Option Value} {base : Heap}
theorem ok_law_grown {f : Addr} {fd : FuncData} (F : Fun K "_law_grown" "_law_grown" s_law_grown f fd) (B : Bi K mg)  : FnOk P w K mg base CX0 1 f fd ["_law_fact_here", "_law_scale"] (spGrown K) := by
  have nd := sc_law_grown.nd
  refine F.ok sc_law_grown ?len (fun cdv A outer s H vs Q E hr h => ?body)
  case len =>
    rintro vs H Q E ⟨p, f, m, s, rfl, _⟩
    rfl
  case body =>
    obtain ⟨p, f, m, s, rfl, hf, ok, s0, s1, k⟩ := h
    refine ⟨_, (pss_cons (ps_if (pt_cmpR op_eq (pe_ix (ixT K) (pv 0) pe_int (fun _ _ => rfl)) pe_str (nomark _))
      (pss_one (ps_ret (pe_tup (pa_cons pe_str (pa_cons (pe_callTy (cgTuple K) (by rfl) B.n_tuple (by decide +kernel) (pa_cons (by exact pe_lc (own := [("_law_v", 2), ("_law_c", 3)]) (g := (gTup K 2 (gCons (gName 2) (gCons (gName 3) gNil)))) (tt := tYes) rfl nd (pi_tup (pe_ix (ixT K) (pv 0) pe_int (fun _ _ => rfl))) (blkOk_by (N := ["_law_fact_here", "_law_scale", "_law_v", "_law_c", "_law_relation", "_law_a"]) (sc := defScope s_law_grown) (by decide +kernel)) (fun _ _ _ _ _ => (pg_tup (n := 2) rfl (pgs_cons (pg_name (i := 2) nd rfl (Or.inl rfl)) (pgs_cons (pg_name (i := 3) nd rfl (Or.inl rfl)) pgs_nil)))) (fun _ _ _ _ _ => pts_nil) (fun _ _ _ _ _ => (pe_tup (pa_cons (pv 2) (pa_cons (pe_op op_mul (pv 3) (pv 1)) pa_nil))))) pa_nil)) (pa_cons (pe_op op_add (pe_op op_mul (pe_ix (ixT K) (pv 0) pe_int (fun _ _ => rfl)) (pv 1)) (pe_op op_fdiv (pv 1) pe_int)) pa_nil))))))
      pss_nil)
      (pss_one (ps_ret (pe_tup (pa_cons pe_str (pa_cons (pe_callTy (cgTuple K) (by rfl) B.n_tuple (by decide +kernel) (pa_cons (by exact pe_lc (own := [("_law_v", 2), ("_law_relation", 4), ("_law_a", 5)]) (g := (gTup K 3 (gCons (gName 2) (gCons (gName 4) (gCons (gName 5) gNil))))) (tt := tYes) rfl nd (pi_tup (pe_ix (ixT K) (pv 0) pe_int (fun _ _ => rfl))) (blkOk_by (N := ["_law_fact_here", "_law_scale", "_law_v", "_law_c", "_law_relation", "_law_a"]) (sc := defScope s_law_grown) (by decide +kernel)) (fun _ _ _ _ _ => (pg_tup (n := 3) rfl (pgs_cons (pg_name (i := 2) nd rfl (Or.inl rfl)) (pgs_cons (pg_name (i := 4) nd rfl (Or.inl rfl)) (pgs_cons (pg_name (i := 5) nd rfl (Or.inl rfl)) pgs_nil))))) (fun _ _ _ _ _ => pts_nil) (fun _ _ _ _ _ => (pe_tup (pa_cons (pv 2) (pa_cons (pv 4) (pa_cons (pe_op op_mul (pv 5) (pv 1)) pa_nil)))))) pa_nil)) pa_nil)))))), ?_⟩
    try dsimp only [L2.cxOf, L2.Cx.nox, L2.Cx.wish]
    rw [st_law_grown]
    cases f with
    | row ts n =>
      obtain ⟨qf, sf, jf⟩ := row_open hf
      obtain ⟨xs, s2, i2⟩ := Im.open jf
      have hln := mapLen i2
      have hm := ok.2.1
      walk_at "cg"
      refine r_lcT xs (fun D i H' => Kp [] H H' ∧ H D = none ∧ ∃ acc, H' D = some (.lst acc) ∧ ImAll K H' acc (((ts.take i).map fun z => (z.1, z.2 * s)).map tD)) (fun D H2 hD e2 k2 => ⟨k2, hD, [], e2, .nil⟩) (fun D i H' ⟨k2, _⟩ => k2.tup s2) ?_ ?_
      · rintro D i x H' hx ⟨k2, hD, acc, eD, hA⟩
        obtain ⟨z, hz, hxd⟩ := mapGet i2 hx
        obtain ⟨px, rfl, hs⟩ := term_at hxd
        have hal := mapLen hA
        rw [List.length_map, List.length_take] at hal
        walk_at "cg"
        rename_i pn H3 hpn hsn k3
        refine r_ap (by walk_at "cg h") (small1000 (by omega)) fun H4 e4 k4 => ?_
        refine ⟨by walk_at "cg kp", hD, _, e4, ?_⟩
        rw [map_take_snoc hz, List.map_append]
        exact (k4.imAll (k3.imAll hA)).snoc (.tup (k4.tup hsn) (.cons (.int _) (.cons (.int _) .nil)))
      · rintro D H' ⟨k2, hD, acc, eD, hA⟩
        rw [hln, List.take_length] at hA
        walk_at "cg"
        exact k _ _ (row_mk (ts := ts.map fun z => (z.1, z.2 * s)) (by assumption) (.tup (by walk_at "cg h") (by walk_at "cg h"))) (by walk_at "cg kp")
    | any ls =>
      obtain ⟨qf, sf, jf⟩ := any_open hf
      obtain ⟨xs, s2, i2⟩ := Im.open jf
      have hln := mapLen i2
      have hm := ok.2
      walk_at "cg"
      refine r_lcT xs (fun D i H' => Kp [] H H' ∧ H D = none ∧ ∃ acc, H' D = some (.lst acc) ∧ ImAll K H' acc (((ls.take i).map fun l => (⟨l.v, l.r, l.a * s⟩ : Lit)).map Lit.d)) (fun D H2 hD e2 k2 => ⟨k2, hD, [], e2, .nil⟩) (fun D i H' ⟨k2, _⟩ => k2.tup s2) ?_ ?_
      · rintro D i x H' hx ⟨k2, hD, acc, eD, hA⟩
        obtain ⟨z, hz, hxd⟩ := mapGet i2 hx
        obtain ⟨px, rfl, hs⟩ := lit_at hxd
        have hal := mapLen hA
        rw [List.length_map, List.length_take] at hal
        walk_at "cg"
        rename_i pn H3 hpn hsn k3
        refine r_ap (by walk_at "cg h") (small1000 (by omega)) fun H4 e4 k4 => ?_
        refine ⟨by walk_at "cg kp", hD, _, e4, ?_⟩
        rw [map_take_snoc hz, List.map_append]
        exact (k4.imAll (k3.imAll hA)).snoc (.tup (k4.tup hsn) (.cons (.int _) (.cons (.str _) (.cons (.int _) .nil))))
      · rintro D H' ⟨k2, hD, acc, eD, hA⟩
        rw [hln, List.take_length] at hA
        walk_at "cg"
        exact k _ _ (any_mk (ls := ls.map fun l => (⟨l.v, l.r, l.a * s⟩ : Lit)) (by assumption) (.tup (by walk_at "cg h") (by walk_at "cg h"))) (by walk_at "cg kp")
end
/-! ### what implies says is so -/
theorem asRow_sound {f : Fact} {us : Tms} {n : Int} {pt : List Int} (e : f.asRow = some (us, n)) : f.h pt = decide (sumAt us pt ≤ n) := by
  cases f with
  | row ts k =>
    cases e
    rfl
  | any ls =>
    match ls, e with
    | [], e => cases e
    | l :: l' :: ls, e =>
      rw [asRow_two] at e
      cases e
    | [⟨v, r, a⟩], e =>
      cases r
      · cases e
        simp [Fact.h, Lit.h, Rel.h, sumAt]
      · cases e
        simp only [Fact.h, Lit.h, Rel.h, sumAt, List.any_cons, List.any_nil, Bool.or_false, List.map_cons, List.map_nil, List.sum_cons, List.sum_nil]
        rw [Bool.eq_iff_iff]
        simp only [decide_eq_true_eq]
        omega
      · cases e
      · cases e
theorem asLit_sound {f : Fact} {l : Lit} {m : Int} {pt : List Int} (ok : f.ok m) (e : f.asLit = some l) : f.h pt = l.h pt := by
  cases f with
  | row ts n =>
    match ts, e, ok with
    | [], e, _ => cases e
    | z :: z' :: ts, e, _ =>
      rw [asLit_row2] at e
      cases e
    | [(v, c)], e, ok =>
      have okz := ok.1 (v, c) List.mem_cons_self
      simp only [Fact.asLit] at e
      dsimp only at okz
      by_cases hc : 0 < c
      · rw [if_pos hc] at e
        cases e
        simp only [Fact.h, Lit.h, Rel.h, sumAt, List.map_cons, List.map_nil, List.sum_cons, List.sum_nil]
        rw [Bool.eq_iff_iff]
        simp only [decide_eq_true_eq]
        rw [Int.le_ediv_iff_mul_le hc, Int.mul_comm]
        omega
      · rw [if_neg hc] at e
        cases e
        simp only [Fact.h, Lit.h, Rel.h, sumAt, List.map_cons, List.map_nil, List.sum_cons, List.sum_nil]
        rw [Bool.eq_iff_iff]
        simp only [decide_eq_true_eq]
        generalize pt.getD v.toNat 0 = x
        have q : -x ≤ n / -c ↔ -x * -c ≤ n := Int.le_ediv_iff_mul_le (by omega)
        have e2 : -x * -c = c * x := by rw [Int.neg_mul_neg, Int.mul_comm]
        rw [e2] at q
        omega
  | any ls =>
    match ls, e with
    | [], e => cases e
    | l :: l' :: ls, e =>
      rw [asLit_two] at e
      cases e
    | [k], e =>
      cases e
      simp [Fact.h]
theorem impL_sound {l m : Lit} {pt : List Int} (h : impL l m = true) (hl : l.h pt = true) : m.h pt = true := by
  obtain ⟨e, q⟩ := impB_sound h
  unfold Lit.h at *
  rw [← e]
  exact q _ hl
theorem implF_sound {f g : Fact} {m : Int} {pt : List Int} (okf : f.ok m) (okg : g.ok m) (h : implF f g = true) (hf : f.h pt = true) : g.h pt = true := by
  unfold implF at h
  rw [Bool.or_eq_true, Bool.or_eq_true] at h
  rcases h with h | h | h
  · cases f with
    | row ts n =>
      simp only [Fact.isCon, Bool.and_eq_true, decide_eq_true_eq, List.isEmpty_iff] at h
      obtain ⟨rfl, h⟩ := h
      simp [Fact.h, sumAt] at hf
      omega
    | any ls =>
      simp only [Fact.isCon, List.isEmpty_iff] at h
      subst h
      simp [Fact.h] at hf
  · cases g with
    | row ts n =>
      cases e1 : f.asRow with
      | none => simp [midF, e1] at h
      | some z =>
        obtain ⟨us, k⟩ := z
        simp only [midF, e1, Bool.and_eq_true, decide_eq_true_eq] at h
        rw [asRow_sound e1] at hf
        obtain ⟨rfl, h⟩ := h
        simp only [Fact.h, decide_eq_true_eq] at *
        omega
    | any ms =>
      cases f with
      | row us k => simp [midF] at h
      | any ls =>
        simp only [midF, List.all_eq_true, decide_eq_true_eq] at h
        simp only [Fact.h, List.any_eq_true] at *
        obtain ⟨l, hl, q⟩ := hf
        exact ⟨l, h l hl, q⟩
  · cases e1 : f.asLit with
    | none =>
      rw [litsImp_none e1] at h
      cases h
    | some l =>
      rw [asLit_sound okf e1] at hf
      cases g with
      | any ms =>
        rw [litsImp_any e1, List.any_map] at h
        obtain ⟨m', hm, q⟩ := List.any_eq_true.mp h
        exact List.any_eq_true.mpr ⟨m', hm, impL_sound q hf⟩
      | row ts n =>
        rw [litsImp_row e1] at h
        cases e2 : (Fact.row ts n).asLit with
        | none => simp [e2] at h
        | some l2 =>
          simp only [e2] at h
          rw [asLit_sound okg e2]
          exact impL_sound h hf

theorem piTup {X : Cx} (K : PySem.W.Frag) {tg l : Expr} {tl : TE} (hl : PE X l tl) (h : X.K = K := by rfl) : PI X tg l (iTup K tl) := h ▸ pi_tup hl
theorem flat_ints (us : List Int) : (us.map V.int).all flatV = true := by
  rw [List.all_map]
  exact List.all_eq_true.mpr fun x _ => rfl
theorem inV_ints (v : Int) (us : List Int) : inV (.int v) (us.map V.int) = decide (v ∈ us) := by
  unfold inV
  rw [List.any_map]
  induction us with
  | nil => rfl
  | cons u us ih =>
    have e : ((fun y => eqV y (.int v)) ∘ V.int) u = decide (v = u) := by
      show (u == v) = decide (v = u)
      rw [Bool.eq_iff_iff, beq_iff_eq, decide_eq_true_eq]
      exact eq_comm
    rw [List.any_cons, ih, e, Bool.eq_iff_iff]
    simp only [Bool.or_eq_true, decide_eq_true_eq, List.mem_cons]
theorem blkOk_nf {N : List Str} {sc scope : Scope} {own : List (Str × Nat)} (h : blkC N { kind := .function, names := [], isGenerator := false, isCoroutine := false } scope own = true) : BlkOk N sc scope own := by
  have q := blkOk_by h
  exact ⟨q.1, q.2, q.3, fun y hy e => (by rcases q.4 y hy e with k | k <;> exact nomatch k), q.5⟩
theorem parts_at {K : PySem.W.Frag} {H : Hp} {p : Addr} {f : Fact} (hf : FactAt K H p f) : ∃ (q : Addr) (ds xs : List V), SqT K H p (V.str (Str.ofString (match f with | .row _ _ => "row" | .any _ => "any")) :: V.ref q :: ds) ∧ SqT K H q xs ∧ xs.length = f.vars.length ∧ ∀ (i : Nat) (x : V), xs[i]? = some x → ∃ (a : Addr) (u : Int) (ys : List V), x = V.ref a ∧ f.vars[i]? = some u ∧ SqT K H a (V.int u :: ys) := by
  cases f with
  | row ts n =>
    obtain ⟨qf, sf, jf⟩ := row_open hf
    obtain ⟨xs, s2, i2⟩ := Im.open jf
    refine ⟨qf, _, xs, sf, s2, by rw [mapLen i2, Fact.vars, List.length_map], fun i x hx => ?_⟩
    obtain ⟨z, hz, hxd⟩ := mapGet i2 hx
    obtain ⟨a, rfl, sa⟩ := term_at hxd
    exact ⟨a, z.1, _, rfl, by simp [Fact.vars, hz], sa⟩
  | any ls =>
    obtain ⟨qf, sf, jf⟩ := any_open hf
    obtain ⟨xs, s2, i2⟩ := Im.open jf
    refine ⟨qf, _, xs, sf, s2, by rw [mapLen i2, Fact.vars, List.length_map], fun i x hx => ?_⟩
    obtain ⟨z, hz, hxd⟩ := mapGet i2 hx
    obtain ⟨a, rfl, sa⟩ := lit_at hxd
    exact ⟨a, z.v, _, rfl, by simp [Fact.vars, hz], sa⟩
theorem sorted_ext : ∀ {xs ys : List Int}, xs.Pairwise (· < ·) → ys.Pairwise (· < ·) → (∀ k, k ∈ xs ↔ k ∈ ys) → xs = ys
  | [], [], _, _, _ => rfl
  | [], y :: ys, _, _, h => by simpa using (h y).2 List.mem_cons_self
  | x :: xs, [], _, _, h => by simpa using (h x).1 List.mem_cons_self
  | x :: xs, y :: ys, h1, h2, h => by
    rw [List.pairwise_cons] at h1 h2
    have e : x = y := by
      rcases List.mem_cons.mp ((h x).1 List.mem_cons_self) with q | q
      · exact q
      · rcases List.mem_cons.mp ((h y).2 List.mem_cons_self) with q2 | q2
        · exact q2.symm
        · have a := h1.1 _ q2
          have b := h2.1 _ q
          omega
    subst e
    rw [sorted_ext h1.2 h2.2 fun k => ?_]
    constructor
    · intro hk
      rcases List.mem_cons.mp ((h k).1 (List.mem_cons_of_mem _ hk)) with q | q
      · subst q
        exact absurd (h1.1 _ hk) (Int.lt_irrefl _)
      · exact q
    · intro hk
      rcases List.mem_cons.mp ((h k).2 (List.mem_cons_of_mem _ hk)) with q | q
      · subst q
        exact absurd (h2.1 _ hk) (Int.lt_irrefl _)
      · exact q
def numsOf (us : List Int) (i : Nat) : List Int := ((List.range i).map Int.ofNat).filter fun v => decide (v ∈ us)
theorem numsOf_succ (us : List Int) (i : Nat) : numsOf us (i + 1) = numsOf us i ++ (if decide (((i : Nat) : Int) ∈ us) = true then [((i : Nat) : Int)] else []) := by
  unfold numsOf
  rw [List.range_succ, List.map_append, List.filter_append]
  congr 1
  simp only [List.map_cons, List.map_nil, List.filter_cons, List.filter_nil]
  rfl
theorem numsOf_le (us : List Int) (i : Nat) : (numsOf us i).length ≤ i := by
  have q := List.length_filter_le (fun v => decide (v ∈ us)) ((List.range i).map Int.ofNat)
  rw [List.length_map, List.length_range] at q
  exact q
theorem numsOf_mem {us : List Int} {i : Nat} {k : Int} : k ∈ numsOf us i ↔ (0 ≤ k ∧ k < i) ∧ k ∈ us := by
  unfold numsOf
  rw [List.mem_filter, List.mem_map]
  simp only [decide_eq_true_eq, List.mem_range]
  constructor
  · rintro ⟨⟨j, hj, rfl⟩, h⟩
    exact ⟨⟨Int.natCast_nonneg j, by show (j : Int) < i; omega⟩, h⟩
  · rintro ⟨⟨h0, h1⟩, h⟩
    exact ⟨⟨k.toNat, by omega, by show ((k.toNat : Nat) : Int) = k; omega⟩, h⟩
theorem numsOf_asc (us : List Int) (i : Nat) : (numsOf us i).Pairwise (· < ·) := by
  refine List.Pairwise.filter _ ?_
  rw [List.pairwise_map]
  exact List.pairwise_lt_range.imp fun {a b} h => by show (a : Int) < b; omega
theorem Fact.vars_ok {f : Fact} {m b : Int} (h : f.okB m b) : (∀ k ∈ f.vars, 0 ≤ k ∧ k < m) ∧ f.vars.length ≤ 60 := by
  cases f with
  | row ts n =>
    refine ⟨fun k hk => ?_, by rw [Fact.vars, List.length_map]; exact h.2.1⟩
    obtain ⟨z, hz, rfl⟩ := List.mem_map.mp hk
    have q := h.1 z hz
    omega
  | any ls =>
    refine ⟨fun k hk => ?_, by rw [Fact.vars, List.length_map]; exact h.2⟩
    obtain ⟨z, hz, rfl⟩ := List.mem_map.mp hk
    have q := h.1 z hz
    omega
theorem Fact.okB_mono {f : Fact} {m b c : Int} (h : f.okB m b) (hb : b ≤ c) : f.okB m c := by
  cases f with
  | row ts n => exact ⟨fun z hz => by have q := h.1 z hz; omega, h.2.1, by have q := h.2.2; omega, by have q := h.2.2; omega⟩
  | any ls => exact ⟨fun z hz => by have q := h.1 z hz; omega, h.2⟩
theorem asRow_okB {f : Fact} {m b : Int} {us : Tms} {n : Int} (h : f.okB m b) (hb : 1 ≤ b) (e : f.asRow = some (us, n)) : (Fact.row us n).okB m b := by
  cases f with
  | row ts k =>
    cases e
    exact h
  | any ls =>
    match ls, e, h with
    | [], e, _ => cases e
    | l :: l' :: ls, e, _ =>
      rw [asRow_two] at e
      cases e
    | [⟨v, r, a⟩], e, h =>
      have q := h.1 ⟨v, r, a⟩ List.mem_cons_self
      dsimp only at q
      cases r
      · cases e
        exact ⟨fun z hz => by rw [List.mem_singleton] at hz; subst hz; simp only; omega, by simp, by omega, by omega⟩
      · cases e
        exact ⟨fun z hz => by rw [List.mem_singleton] at hz; subst hz; simp only; omega, by simp, by omega, by omega⟩
      · cases e
      · cases e
theorem asLit_v {f : Fact} {m : Int} {l : Lit} (h : f.ok m) (e : f.asLit = some l) : 0 ≤ l.v ∧ l.v < m := by
  cases f with
  | row ts n =>
    match ts, e, h with
    | [], e, _ => cases e
    | z :: z' :: ts, e, _ =>
      rw [asLit_row2] at e
      cases e
    | [(v, c)], e, h =>
      have q := h.1 (v, c) List.mem_cons_self
      dsimp only at q
      simp only [Fact.asLit] at e
      by_cases hc : 0 < c
      · rw [if_pos hc] at e
        cases e
        exact ⟨q.1, q.2.1⟩
      · rw [if_neg hc] at e
        cases e
        exact ⟨q.1, q.2.1⟩
  | any ls =>
    match ls, e, h with
    | [], e, _ => cases e
    | l :: l' :: ls, e, _ =>
      rw [asLit_two] at e
      cases e
    | [k], e, h =>
      cases e
      have q := h.1 l List.mem_cons_self
      exact ⟨q.1, q.2.1⟩
theorem neg_okB {f g : Fact} {m b : Int} (h : f.okB m b) (e : f.neg = some g) : g.okB m (b + 1) := by
  cases f with
  | row ts n =>
    cases e
    refine ⟨fun z hz => ?_, by rw [negT, List.length_map]; exact h.2.1, ?_, ?_⟩
    · obtain ⟨y, hy, rfl⟩ := List.mem_map.mp hz
      have q := h.1 y hy
      simp only
      omega
    all_goals
      have q := h.2.2
      omega
  | any ls =>
    match ls, e, h with
    | [], e, _ => cases e
    | l :: l' :: ls, e, _ => cases e
    | [l], e, h =>
      cases e
      refine ⟨fun z hz => ?_, by simp⟩
      rw [List.mem_singleton] at hz
      subst hz
      have q := h.1 l List.mem_cons_self
      obtain ⟨v, r, a⟩ := l
      dsimp only at q
      cases r <;> simp only [Lit.neg, Rel.nnum] <;> omega
def rowOD : Option (Tms × Int) → PyData
  | none => .none
  | some (ts, n) => (Fact.row ts n).d
def litOD : Option Lit → PyData
  | none => .none
  | some l => l.d
def factOD : Option Fact → PyData
  | none => .none
  | some f => f.d
theorem rowOD_shp : ∀ o, Shp 3 (rowOD o)
  | none => .none
  | some (ts, n) => (Fact.row ts n).shp
theorem litOD_shp : ∀ o, Shp 3 (litOD o)
  | none => .none
  | some l => l.shp.mono (by decide)
theorem factOD_shp : ∀ o, Shp 3 (factOD o)
  | none => .none
  | some f => f.shp
section
variable {K : PySem.W.Frag} {H : Hp} {x y : V} {S : List Addr} {H' : Hp} {Q : VK}
theorem RowO.dp {o : Option (Tms × Int)} : RowO K H x o → Dp K H x (rowOD o)
  | .none => .non
  | .some h => Im.dp h
theorem LitO.dp {o : Option Lit} : LitO K H x o → Dp K H x (litOD o)
  | .none => .non
  | .some h => LitAt.dp h
theorem FactO.dp {o : Option Fact} : FactO K H x o → Dp K H x (factOD o)
  | .none => .non
  | .some h => Im.dp h
theorem RowO.kp0 {o : Option (Tms × Int)} (k : Kp [] H H') : RowO K H x o → RowO K H' x o
  | .none => .none
  | .some h => .some (k.im h)
theorem LitO.kp0 {o : Option Lit} (k : Kp [] H H') : LitO K H x o → LitO K H' x o
  | .none => .none
  | .some h => .some (k.tup h)
theorem FactO.kp0 {o : Option Fact} (k : Kp [] H H') : FactO K H x o → FactO K H' x o
  | .none => .none
  | .some h => .some (k.im h)
theorem ne_same {d : PyData} (h1 : Dp K H x d) (h2 : Dp K H y d) (h : Shp 3 d) (q : Q (.bl false) H) : rNeD K x y H Q :=
  ⟨d, d, h1, h2, h.ok, h.ok, by rw [h.self]; exact q⟩
end
def spLaw (K : PySem.W.Frag) : Sp := fun vs H Q _ => ∃ (a : Addr) (ns : List Int), vs = [.ref a] ∧ SqL K H a (ns.map V.int) ∧ ns.length ≤ 63 ∧ ∀ H', Q (.bl true) H'
section
variable {P : Program} {w : World} {K : PySem.W.Frag} {mg : Str → Option Value} {base : Heap}
theorem ok_law {f : Addr} {fd : FuncData} (F : Fun K "law" "law" s_law f fd) (B : Bi K mg) (D_law_tape : Is P w K mg base CX0 1 "_law_tape" ["_law_script"] (spTape K)) (D_law_fact : Is P w K mg base CX0 3 "_law_fact" ["_law_tape_here", "_law_many"] (spLawFact K)) (D_unknowns_in : Is P w K mg base CX0 1 "unknowns_in" ["fact"] (spVars K)) (D_law_draw : Is P w K mg base CX0 1 "_law_draw" ["_law_tape_here", "_law_many"] spDraw) (D_law_grown : Is P w K mg base CX0 1 "_law_grown" ["_law_fact_here", "_law_scale"] (spGrown K)) (D_law_true : Is P w K mg base CX0 3 "_law_true" ["_law_fact_here", "_law_point"] (spTrue K)) (D_as_row : Is P w K mg base CX0 1 "as_row" ["fact"] (spAsRow K)) (D_as_literal : Is P w K mg base CX0 1 "as_literal" ["fact"] (spAsLit K)) (D_negation : Is P w K mg base CX0 2 "negation" ["fact"] (spNegF K)) (D_law_same : Is P w K mg base CX0 1 "_law_same" ["_law_told", "_law_due"] spSame) (D_is_contradiction : Is P w K mg base CX0 1 "is_contradiction" ["fact"] (spCon K)) (D_fact_holds : Is P w K mg base CX0 3 "fact_holds" ["fact", "point"] (spTrue K)) (D_law_as_row : Is P w K mg base CX0 1 "_law_as_row" ["_law_fact_here"] (spAsRow K)) (D_law_as_literal : Is P w K mg base CX0 1 "_law_as_literal" ["_law_fact_here"] (spAsLit K)) (D_law_negation : Is P w K mg base CX0 1 "_law_negation" ["_law_fact_here"] (spNegF K)) (D_law_lit : Is P w K mg base CX0 2 "_law_lit" ["_law_literal_here", "_law_point"] (spLawLit K)) : FnOk P w K mg base CX0 4 f fd ["_law_script"] (spLaw K) := by
  have nd := sc_law.nd
  refine F.ok sc_law ?len (fun cdv A outer s H vs Q E hr h => ?body)
  case len =>
    rintro vs H Q E ⟨a, ns, rfl, _⟩
    rfl
  case body =>
    obtain ⟨a, ns, rfl, hS, hl, q⟩ := h
    refine ⟨_, (pss_cons (ps_set (i := 1) nd rfl (Or.inr rfl) (pe_is D_law_tape (hr.mono (by decide)) rfl pass0 (pa_cons (pv 0) pa_nil)))
      (pss_cons (ps_set (i := 2) nd rfl (Or.inl rfl) (pe_op op_add pe_int (pe_is D_law_draw (hr.mono (by decide)) rfl pass0 (pa_cons (pv 1) (pa_cons pe_int pa_nil)))))
      (pss_cons (ps_set (i := 3) nd rfl (Or.inr rfl) (pe_is D_law_fact (hr.mono (by decide)) rfl pass0 (pa_cons (pv 1) (pa_cons (pv 2) pa_nil))))
      (Evl.pss_cut (ps_if (pt_cmpR op_eq (pe_is D_law_draw (hr.mono (by decide)) rfl pass0 (pa_cons (pv 1) (pa_cons pe_int pa_nil))) pe_int (nomark _))
      (pss_one (ps_set (i := 3) nd rfl (Or.inr rfl) (pe_is D_law_grown (hr.mono (by decide)) rfl pass0 (pa_cons (pv 3) (pa_cons (pe_op op_add pe_int (pe_is D_law_draw (hr.mono (by decide)) rfl pass0 (pa_cons (pv 1) (pa_cons (pe_op op_pow pe_int pe_int) pa_nil)))) pa_nil)))))
      pss_nil)
      (pss_cons (ps_for PassesOwn.never rfl (pi_range1 rfl B.n_range (pa_cons pe_int pa_nil)) (pg_name (i := 4) nd rfl (Or.inl rfl))
      (pss_cons (ps_set (i := 5) nd rfl (Or.inl rfl) (pe_callTy (cgTuple K) (by rfl) B.n_tuple (by decide +kernel) (pa_cons (by exact pe_lc (own := [("_law_v", 13)]) (g := (gName 13)) (tt := tYes) rfl nd (pi_range1 rfl B.n_range (pa_cons (pv 2) pa_nil)) (blkOk_by (N := ["_law_script", "_law_tape_here", "_law_many", "_law_fact_here", "_law_k", "_law_point", "_law_holds", "_law_row", "_law_literal_here", "_law_other", "_law_empty", "_law_numbers", "_law_found", "_law_v", "_law_part"]) (sc := defScope s_law) (by decide +kernel)) (fun _ _ _ _ _ => (pg_name (i := 13) nd rfl (Or.inl rfl))) (fun _ _ _ _ _ => pts_nil) (fun _ _ _ _ _ => (pe_op op_sub (pe_is D_law_draw (hr.mono (by decide)) rfl pass0 (pa_cons (pv 1) (pa_cons pe_int pa_nil))) pe_int))) pa_nil)))
      (pss_cons (ps_set (i := 6) nd rfl (Or.inl rfl) (pe_is D_law_true (hr.mono (by decide)) rfl pass0 (pa_cons (pv 3) (pa_cons (pv 5) pa_nil))))
      (pss_cons (ps_if (pt_not (pt_val (pe_is D_law_same (hr.mono (by decide)) rfl pass0 (pa_cons (pe_is D_fact_holds (hr.mono (by decide)) rfl pass0 (pa_cons (pv 3) (pa_cons (pv 5) pa_nil))) (pa_cons (pv 6) pa_nil)))))
      (pss_one (ps_ret pe_bl))
      pss_nil)
      (pss_cons (ps_set (i := 7) nd rfl (Or.inl rfl) (pe_is D_as_row (hr.mono (by decide)) rfl pass0 (pa_cons (pv 3) pa_nil)))
      (pss_cons (ps_set (i := 8) nd rfl (Or.inl rfl) (pe_is D_as_literal (hr.mono (by decide)) rfl pass0 (pa_cons (pv 3) pa_nil)))
      (pss_cons (ps_set (i := 9) nd rfl (Or.inl rfl) (pe_is D_negation (hr.mono (by decide)) rfl pass0 (pa_cons (pv 3) pa_nil)))
      (pss_cons (ps_if (PW.pt (pw_or (pt_cmpR (neD K hr) (pv 7) (pe_is D_law_as_row (hr.mono (by decide)) rfl pass0 (pa_cons (pv 3) pa_nil)) (nomark _)) (pw_or (pt_cmpR (neD K hr) (pv 8) (pe_is D_law_as_literal (hr.mono (by decide)) rfl pass0 (pa_cons (pv 3) pa_nil)) (nomark _)) (pw_or1 (pt_cmpR (neD K hr) (pv 9) (pe_is D_law_negation (hr.mono (by decide)) rfl pass0 (pa_cons (pv 3) pa_nil)) (nomark _))))))
      (pss_one (ps_ret pe_bl))
      pss_nil)
      (Evl.pss_cut (ps_if (PW.pt (pw_and (pt_cmpR cg_notN (pv 7) pe_non (nomark _)) (pw_and1 (pt_cmpR op_ne (pe_is D_law_true (hr.mono (by decide)) rfl pass0 (pa_cons (pv 7) (pa_cons (pv 5) pa_nil))) (pv 6) (nomark _)))))
      (pss_one (ps_ret pe_bl))
      pss_nil)
      (Evl.pss_cut (ps_if (PW.pt (pw_and (pt_cmpR cg_notN (pv 8) pe_non (nomark _)) (pw_and1 (pt_cmpR op_ne (pe_is D_law_lit (hr.mono (by decide)) rfl pass0 (pa_cons (pv 8) (pa_cons (pv 5) pa_nil))) (pv 6) (nomark _)))))
      (pss_one (ps_ret pe_bl))
      pss_nil)
      (pss_one (ps_if (PW.pt (pw_and (pt_cmpR cg_notN (pv 9) pe_non (nomark _)) (pw_and1 (PW.pt (pw_or (pt_cmpR op_eq (pe_is D_law_true (hr.mono (by decide)) rfl pass0 (pa_cons (pv 9) (pa_cons (pv 5) pa_nil))) (pv 6) (nomark _)) (pw_or1 (pt_cmpR (neD K hr) (pe_is D_negation (hr.mono (by decide)) rfl pass0 (pa_cons (pv 9) pa_nil)) (pv 3) (nomark _))))))))
      (pss_one (ps_ret pe_bl))
      pss_nil))))))))))))
      (pss_cons (ps_set (i := 10) nd rfl (Or.inl rfl) (pe_and (pe_cmpR op_eq (pe_callB (cgLen K) (by rfl) B.n_len PySem.boot_len (pa_cons (pe_ix (ixT K) (pv 3) pe_int (fun _ _ => rfl)) pa_nil)) pe_int (nomark _)) (pe_one (pe_or (pe_cmpR op_eq (pe_ix (ixT K) (pv 3) pe_int (fun _ _ => rfl)) pe_str (nomark _)) (pe_one (pe_cmpR op_lt (pe_ix (ixT K) (pv 3) pe_int (fun _ _ => rfl)) pe_int (nomark _)))))))
      (pss_cons (ps_if (pt_not (pt_val (pe_is D_law_same (hr.mono (by decide)) rfl pass0 (pa_cons (pe_is D_is_contradiction (hr.mono (by decide)) rfl pass0 (pa_cons (pv 3) pa_nil)) (pa_cons (pv 10) pa_nil)))))
      (pss_one (ps_ret pe_bl))
      pss_nil)
      (pss_cons (ps_setLc (i := 11) (own := [("_law_v", 13)]) (g := (gName 13)) rfl nd rfl rfl (sw_true rfl rfl rfl (by decide +kernel)) (pi_range1 rfl B.n_range (pa_cons (pv 2) pa_nil)) (blkOk_by (N := ["_law_script", "_law_tape_here", "_law_many", "_law_fact_here", "_law_k", "_law_point", "_law_holds", "_law_row", "_law_literal_here", "_law_other", "_law_empty", "_law_numbers", "_law_found", "_law_v", "_law_part"]) (sc := defScope s_law) (by decide +kernel)) (fun _ _ _ _ _ => (pg_name (i := 13) nd rfl (Or.inl rfl))) (fun _ _ _ _ _ => pts_one (pt_cmpR (inS K) (pv 13) (by apply pe_lc (own := [("_law_part", 14)]) (g := (gName 14)) (tt := tYes) rfl nd; exact (piTup K (pe_ix (ixT K) (pv 3) pe_int (fun _ _ => rfl))); exact (blkOk_nf (N := ["_law_script", "_law_tape_here", "_law_many", "_law_fact_here", "_law_k", "_law_point", "_law_holds", "_law_row", "_law_literal_here", "_law_other", "_law_empty", "_law_numbers", "_law_found", "_law_v", "_law_part"]) (by decide +kernel)); exact (fun _ _ _ _ _ => (pg_name (i := 14) nd rfl (Or.inl rfl))); exact (fun _ _ _ _ _ => pts_nil); exact (fun _ _ _ _ _ => (pe_ix (ixT K) (pv 14) pe_int (fun _ _ => rfl)))) rfl)) (fun _ _ _ _ _ => (pv 13)))
      (pss_cons (ps_set (i := 12) nd rfl (Or.inl rfl) (pe_is D_unknowns_in (hr.mono (by decide)) rfl pass0 (pa_cons (pv 3) pa_nil)))
      (pss_one (ps_ret (pe_and (pe_callB (cgIsi K) (by rfl) B.n_isinstance (by decide +kernel) (pa_cons (pv 12) (pa_cons (pe_bltn (v := .ty "list") rfl B.n_list (by decide +kernel) rfl) pa_nil))) (pe_one (pe_cmpR (eqD K hr) (pv 12) (pv 11) (nomark _))))))))))))))), ?_⟩
    try dsimp only [L2.cxOf, L2.Cx.nox, L2.Cx.wish]
    rw [st_law]
    walk_at "cg"
    refine ⟨a, ns, rfl, hS, fun t c H1 ht hc T1 k1 => ?_⟩
    walk_at "cg"
    rename_i dm Hm dm0 dm1 Tm km
    have m0 : 1 ≤ 1 + dm := by omega
    have m1 : 1 + dm ≤ 4 := by omega
    generalize 1 + dm = m at *
    have mb : m < bigB := by
      have e : (60 : Int) < bigB := by decide
      omega
    clear km dm0 dm1 k1 T1
    refine ⟨t, c, m, rfl, Tm, m0, by omega, fun pf f H2 If _ _ _ okf T2 k2 => ?_⟩
    clear Tm k2
    walk_at "cg"
    refine ⟨fun σ' H' => ∃ (pf : Addr) (f : Fact), σ' = [some (.ref a), some (.ref t), some (.int m), some (.ref pf), none, none, none, none, none, none, none, none, none, none, none] ∧ Tp t c H' ∧ FactAt K H' pf f ∧ f.okB m 10000000, ?_, ?_⟩
    · walk_at "cg"
      refine if_S (fun h0 => ?_) (fun h0 => ?_)
      · walk_at "cg"
        refine ⟨pf, f, m, _, rfl, by walk_at "cg h", okf, by omega, by omega, fun qf H9 I9 k9 => ?_⟩
        walk_at "cg"
        exact ⟨_, f.grow _, rfl, by walk_at "cg h", by walk_at "cg h", Fact.grow_okB okf (by omega) (by omega)⟩
      · walk_at "cg"
        exact ⟨pf, f, rfl, by walk_at "cg h", by walk_at "cg h", Fact.okB_mono okf (by decide)⟩
    · clear If okf T2
      rintro σ' H3 ⟨pf, f, rfl, T3, If, okf⟩
      have okv := Fact.vars_ok okf
      have okk := Fact.okB_ok okf (by decide)
      walk_at "cg"
      refine r_forR (fun i σ' H' => ∃ x4 x5 x6 x7 x8 x9 : Option V, σ' = [some (.ref a), some (.ref t), some (.int m), some (.ref pf), x4, x5, x6, x7, x8, x9, none, none, none, none, none] ∧ Tp t c H' ∧ FactAt K H' pf f) ⟨_, _, _, _, _, _, rfl, T3, If⟩ ?_ ?_
      · clear T3 If
        rintro i σ' H5 hi ⟨x4, x5, x6, x7, x8, x9, rfl, T5, If⟩
        walk_at "cg"
        refine r_lcR (fun D i H' => Kp [t] H5 H' ∧ H5 D = none ∧ Tp t c H' ∧ ∃ (ps : List Int), H' D = some (.lst (ps.map V.int)) ∧ ps.length = i)
            (fun D H2 hD e2 k2 => ⟨by walk_at "cg kp", hD, by walk_at "cg h", [], e2, rfl⟩) ?_ ?_
        · rintro D j H' hj ⟨k2, hD, T2, ps, eD, hn⟩
          have nDt : D ≠ t := by walk_at "cg ne"
          have nDc : D ≠ c := by walk_at "cg ne"
          walk_at "cg"
          refine r_ap (by walk_at "cg h") (small1000 (by rw [List.length_map]; omega)) fun H9 e9 k9 => ?_
          exact ⟨by walk_at "cg kp", hD, by walk_at "cg h", ps ++ [_], by rw [e9, List.map_append]; rfl, by simp [hn]⟩
        · rintro D H' ⟨k2, hD, T2, ps, eD, hn⟩
          have hpl : (ps.length : Int) = m := by omega
          have okp : f.ok ps.length := by rw [hpl]; exact okk
          have If' : FactAt K H' pf f := by walk_at "cg h"
          walk_at "cg"
          rename_i lp Hlp _ slp klp
          refine ⟨pf, lp, f, ps, rfl, by walk_at "cg h", by walk_at "cg h", okp, fun H9 k9 => ?_⟩
          walk_at "cg"
          refine ⟨pf, _, f, ps, rfl, by walk_at "cg h", by walk_at "cg h", okp, fun H10 k10 => ?_⟩
          walk_at "cg"
          refine ⟨pf, f, rfl, by walk_at "cg h", fun xr H11 R11 k11 => ?_⟩
          walk_at "cg"
          refine ⟨pf, f, m, rfl, by walk_at "cg h", okk, fun xl H12 L12 k12 => ?_⟩
          walk_at "cg"
          refine ⟨pf, f, m, rfl, by walk_at "cg h", okk, fun xo H13 O13 k13 => ?_⟩
          walk_at "cg"
          refine ⟨pf, f, rfl, by walk_at "cg h", fun yr H14 R14 k14 => ?_⟩
          walk_at "cg"
          refine ne_same (RowO.kp0 (by walk_at "cg kp") R11).dp R14.dp (rowOD_shp _) ?_
          walk_at "cg"
          refine ⟨pf, f, m, rfl, by walk_at "cg h", okk, fun yl H15 L15 k15 => ?_⟩
          walk_at "cg"
          refine ne_same (LitO.kp0 (by walk_at "cg kp") L12).dp L15.dp (litOD_shp _) ?_
          walk_at "cg"
          refine ⟨pf, f, m, rfl, by walk_at "cg h", okk, fun yo H16 O16 k16 => ?_⟩
          walk_at "cg"
          refine ne_same (FactO.kp0 (by walk_at "cg kp") O13).dp O16.dp (factOD_shp _) ?_
          walk_at "cg"
          have T16 : Tp t c H16 := by walk_at "cg h"
          have If16 : FactAt K H16 pf f := by walk_at "cg h"
          have s16 : SqT K H16 lp (ps.map V.int) := by walk_at "cg h"
          have R16 : RowO K H16 xr f.asRow := RowO.kp0 (by walk_at "cg kp") R11
          have L16 : LitO K H16 xl f.asLit := LitO.kp0 (by walk_at "cg kp") L12
          have O16' : FactO K H16 xo f.neg := FactO.kp0 (by walk_at "cg kp") O13
          clear T5 If T2 If' slp klp k2 k9 k10 R11 k11 L12 k12 O13 k13 R14 k14 L15 k15 O16 k16 eD
          refine ⟨fun σ' H'' => σ' = [some (.ref a), some (.ref t), some (.int m), some (.ref pf), some (.int (0 + (i : Int))), some (.ref lp), some (.bl (f.h ps)), some xr, some xl, some xo, none, none, none, none, none] ∧ Kp [] H16 H'', ?_, ?_⟩
          · generalize e : f.asRow = o at R16
            cases R16 with
            | none =>
              walk_at "cg"
              exact ⟨rfl, .refl⟩
            | some h =>
              rename_i pr us n
              walk_at "cg"
              refine ⟨pr, lp, .row us n, ps, rfl, h, by walk_at "cg h", by rw [hpl]; exact Fact.okB_ok (asRow_okB okf (by decide) e) (by decide), fun H17 k17 => ?_⟩
              have e2 : (Fact.row us n).h ps = f.h ps := (asRow_sound e).symm
              rw [e2]
              walk_at "cg"
              exact ⟨rfl, k17⟩
          · rintro σ' H17 ⟨rfl, k17⟩
            refine ⟨fun σ' H'' => σ' = [some (.ref a), some (.ref t), some (.int m), some (.ref pf), some (.int (0 + (i : Int))), some (.ref lp), some (.bl (f.h ps)), some xr, some xl, some xo, none, none, none, none, none] ∧ Kp [] H16 H'', ?_, ?_⟩
            · generalize e : f.asLit = o at L16
              cases L16 with
              | none =>
                walk_at "cg"
                exact ⟨rfl, k17⟩
              | some h =>
                rename_i pl l
                have lv := asLit_v okk e
                walk_at "cg"
                refine ⟨pl, lp, l, ps, rfl, k17.tup h, by walk_at "cg h", lv.1, by omega, ?_⟩
                rw [← asLit_sound okk e]
                walk_at "cg"
                exact ⟨rfl, k17⟩
            · clear k17
              rintro σ' H18 ⟨rfl, k18⟩
              generalize e : f.neg = o at O16'
              cases O16' with
              | none =>
                walk_at "cg"
                exact ⟨_, _, _, _, _, _, rfl, by walk_at "cg h", by walk_at "cg h"⟩
              | some h =>
                rename_i pg g
                have okg := neg_okB okf e
                have okg' := Fact.okB_ok okg (by decide)
                walk_at "cg"
                refine ⟨pg, lp, g, ps, rfl, k18.im h, by walk_at "cg h", by rw [hpl]; exact okg', fun H19 k19 => ?_⟩
                rw [Fact.neg_h e]
                walk_at "cg"
                refine ⟨pg, g, m, rfl, by walk_at "cg h", okg', fun y H20 O20 k20 => ?_⟩
                rw [Fact.neg_neg e] at O20
                walk_at "cg"
                refine ne_same O20.dp (Im.dp (by walk_at "cg h")) f.shp ?_
                walk_at "cg"
                exact ⟨_, _, _, _, _, _, rfl, by walk_at "cg h", by walk_at "cg h"⟩
      · rintro σ' H5 ⟨x4, x5, x6, x7, x8, x9, rfl, T5, If5⟩
        have fin : (∃ ts n, f = .row ts n) ∨ (∃ ls, f = .any ls) := by cases f <;> simp
        have op5 := parts_at If5
        rcases fin with ⟨ts, n, hfe⟩ | ⟨ls, hfe⟩
        · have If6 := If5
          rw [hfe] at If6
          obtain ⟨qf, sf, jf⟩ := row_open If6
          obtain ⟨xs, s2, i2⟩ := Im.open jf
          have hln := mapLen i2
          have e : decide ((xs.length : Int) = 0) = ts.isEmpty := by
            rw [hln]
            cases ts <;> simp <;> omega
          walk_at "cg"
          rw [e]
          refine if_B (fun e1 => ?_) (fun e1 => ?_)
          · have hc : f.isCon = decide (n < 0) := by rw [hfe]; simp only [Fact.isCon, e1, Bool.true_and]
            walk_at "cg"
            refine ⟨pf, f, rfl, If5, ?_⟩
            rw [hc]
            walk_at "cg"
            obtain ⟨q5, ds, xs5, sp5, sq5, hl5, at5⟩ := op5
            refine r_lcR (fun D i H' => Kp [] H5 H' ∧ H5 D = none ∧ H' D = some (.lst ((numsOf f.vars i).map V.int))) (fun D H2 hD e2 k2 => ⟨k2, hD, e2⟩) ?_ ?_
            · rintro D j H' hj ⟨k2, hD, eD⟩
              have hnl := numsOf_le f.vars j
              walk_at "cg"
              refine r_ixT (k2.tup sp5) atI_1 ?_
              walk_at "cg"
              refine r_lcT xs5 (fun D2 i2 H2 => Kp [] H' H2 ∧ H' D2 = none ∧ H2 D2 = some (.lst ((f.vars.take i2).map V.int))) (fun D2 H2 hD2 e2 k3 => ⟨k3, hD2, e2⟩) (fun D2 i2 H2 ⟨k3, _⟩ => k3.tup (k2.tup sq5)) ?_ ?_
              · rintro D2 i2 x H2 hx ⟨k3, hD2, eD2⟩
                obtain ⟨ad, u, ys, rfl, hu, sa⟩ := at5 i2 x hx
                have hi : i2 < f.vars.length := (List.getElem?_eq_some_iff.mp hu).1
                walk_at "cg"
                refine r_ixT (k3.tup (k2.tup sa)) atI_0 ?_
                walk_at "cg"
                refine r_ap eD2 (small1000 (by simp; omega)) fun H4 e4 k4 => ?_
                exact ⟨by walk_at "cg kp", hD2, by rw [e4, map_take_snoc hu]⟩
              · rintro D2 H2 ⟨k3, hD2, eD2⟩
                rw [hl5, List.take_length] at eD2
                have eD' : H2 D = some (.lst ((numsOf f.vars j).map V.int)) := k3.get0 eD
                walk_at "cg"
                refine r_inL eD2 rfl (flat_ints _) (inV_ints _ _) ?_
                have es := numsOf_succ f.vars j
                rw [Int.zero_add]
                walk_at "cg"
                refine if_B (fun h => ?_) (fun h => ?_)
                · walk_at "cg"
                  refine r_ap eD' (small1000 (by rw [List.length_map]; omega)) fun H4 e4 k4 => ?_
                  refine ⟨by walk_at "cg kp", hD, ?_⟩
                  rw [e4, es, if_pos h, List.map_append]
                  rfl
                · walk_at "cg"
                  refine ⟨by walk_at "cg kp", hD, ?_⟩
                  rw [eD', es, if_neg (by rw [h]; decide), List.append_nil]
            · rintro D H' ⟨k2, hD, eD⟩
              walk_at "cg"
              refine ⟨pf, f, rfl, by walk_at "cg h", by omega, fun l ns' H7 hl0 el asc mem k7 => ?_⟩
              walk_at "cg"
              have en : ns' = numsOf f.vars m.toNat := sorted_ext asc (numsOf_asc _ _) fun k => by
                rw [mem, numsOf_mem]
                exact ⟨fun h => ⟨by have := okv.1 k h; omega, h⟩, fun h => h.2⟩
              have eD7 : H7 D = some (.lst ((numsOf f.vars m.toNat).map V.int)) := k7.get0 eD
              rw [← en] at eD7
              have dp : ∀ us : List Int, DpAll K H7 (us.map V.int) (us.map PyData.int) := fun us => by
                induction us with
                | nil => exact .nil
                | cons u us ih => exact .cons (.int u) ih
              have sh : Shp 1 (.list (ns'.map PyData.int)) := .list fun d hd => by
                obtain ⟨z, _, rfl⟩ := List.mem_map.mp hd
                exact .int z
              refine ⟨_, _, .lst (SqL.of el) (dp _), .lst (SqL.of eD7) (dp _), sh.ok, sh.ok, ?_⟩
              rw [sh.self]
              exact q _
          · have hc : f.isCon = false := by rw [hfe]; simp only [Fact.isCon, e1, Bool.false_and]
            walk_at "cg"
            refine ⟨pf, f, rfl, If5, ?_⟩
            rw [hc]
            walk_at "cg"
            obtain ⟨q5, ds, xs5, sp5, sq5, hl5, at5⟩ := op5
            refine r_lcR (fun D i H' => Kp [] H5 H' ∧ H5 D = none ∧ H' D = some (.lst ((numsOf f.vars i).map V.int))) (fun D H2 hD e2 k2 => ⟨k2, hD, e2⟩) ?_ ?_
            · rintro D j H' hj ⟨k2, hD, eD⟩
              have hnl := numsOf_le f.vars j
              walk_at "cg"
              refine r_ixT (k2.tup sp5) atI_1 ?_
              walk_at "cg"
              refine r_lcT xs5 (fun D2 i2 H2 => Kp [] H' H2 ∧ H' D2 = none ∧ H2 D2 = some (.lst ((f.vars.take i2).map V.int))) (fun D2 H2 hD2 e2 k3 => ⟨k3, hD2, e2⟩) (fun D2 i2 H2 ⟨k3, _⟩ => k3.tup (k2.tup sq5)) ?_ ?_
              · rintro D2 i2 x H2 hx ⟨k3, hD2, eD2⟩
                obtain ⟨ad, u, ys, rfl, hu, sa⟩ := at5 i2 x hx
                have hi : i2 < f.vars.length := (List.getElem?_eq_some_iff.mp hu).1
                walk_at "cg"
                refine r_ixT (k3.tup (k2.tup sa)) atI_0 ?_
                walk_at "cg"
                refine r_ap eD2 (small1000 (by simp; omega)) fun H4 e4 k4 => ?_
                exact ⟨by walk_at "cg kp", hD2, by rw [e4, map_take_snoc hu]⟩
              · rintro D2 H2 ⟨k3, hD2, eD2⟩
                rw [hl5, List.take_length] at eD2
                have eD' : H2 D = some (.lst ((numsOf f.vars j).map V.int)) := k3.get0 eD
                walk_at "cg"
                refine r_inL eD2 rfl (flat_ints _) (inV_ints _ _) ?_
                have es := numsOf_succ f.vars j
                rw [Int.zero_add]
                walk_at "cg"
                refine if_B (fun h => ?_) (fun h => ?_)
                · walk_at "cg"
                  refine r_ap eD' (small1000 (by rw [List.length_map]; omega)) fun H4 e4 k4 => ?_
                  refine ⟨by walk_at "cg kp", hD, ?_⟩
                  rw [e4, es, if_pos h, List.map_append]
                  rfl
                · walk_at "cg"
                  refine ⟨by walk_at "cg kp", hD, ?_⟩
                  rw [eD', es, if_neg (by rw [h]; decide), List.append_nil]
            · rintro D H' ⟨k2, hD, eD⟩
              walk_at "cg"
              refine ⟨pf, f, rfl, by walk_at "cg h", by omega, fun l ns' H7 hl0 el asc mem k7 => ?_⟩
              walk_at "cg"
              have en : ns' = numsOf f.vars m.toNat := sorted_ext asc (numsOf_asc _ _) fun k => by
                rw [mem, numsOf_mem]
                exact ⟨fun h => ⟨by have := okv.1 k h; omega, h⟩, fun h => h.2⟩
              have eD7 : H7 D = some (.lst ((numsOf f.vars m.toNat).map V.int)) := k7.get0 eD
              rw [← en] at eD7
              have dp : ∀ us : List Int, DpAll K H7 (us.map V.int) (us.map PyData.int) := fun us => by
                induction us with
                | nil => exact .nil
                | cons u us ih => exact .cons (.int u) ih
              have sh : Shp 1 (.list (ns'.map PyData.int)) := .list fun d hd => by
                obtain ⟨z, _, rfl⟩ := List.mem_map.mp hd
                exact .int z
              refine ⟨_, _, .lst (SqL.of el) (dp _), .lst (SqL.of eD7) (dp _), sh.ok, sh.ok, ?_⟩
              rw [sh.self]
              exact q _
        · have If6 := If5
          rw [hfe] at If6
          obtain ⟨qf, sf, jf⟩ := any_open If6
          obtain ⟨xs, s2, i2⟩ := Im.open jf
          have hln := mapLen i2
          have e : decide ((xs.length : Int) = 0) = ls.isEmpty := by
            rw [hln]
            cases ls <;> simp <;> omega
          walk_at "cg"
          rw [e]
          refine if_B (fun e1 => ?_) (fun e1 => ?_)
          · have hc : f.isCon = true := by rw [hfe]; exact e1
            walk_at "cg"
            refine ⟨pf, f, rfl, If5, ?_⟩
            rw [hc]
            walk_at "cg"
            obtain ⟨q5, ds, xs5, sp5, sq5, hl5, at5⟩ := op5
            refine r_lcR (fun D i H' => Kp [] H5 H' ∧ H5 D = none ∧ H' D = some (.lst ((numsOf f.vars i).map V.int))) (fun D H2 hD e2 k2 => ⟨k2, hD, e2⟩) ?_ ?_
            · rintro D j H' hj ⟨k2, hD, eD⟩
              have hnl := numsOf_le f.vars j
              walk_at "cg"
              refine r_ixT (k2.tup sp5) atI_1 ?_
              walk_at "cg"
              refine r_lcT xs5 (fun D2 i2 H2 => Kp [] H' H2 ∧ H' D2 = none ∧ H2 D2 = some (.lst ((f.vars.take i2).map V.int))) (fun D2 H2 hD2 e2 k3 => ⟨k3, hD2, e2⟩) (fun D2 i2 H2 ⟨k3, _⟩ => k3.tup (k2.tup sq5)) ?_ ?_
              · rintro D2 i2 x H2 hx ⟨k3, hD2, eD2⟩
                obtain ⟨ad, u, ys, rfl, hu, sa⟩ := at5 i2 x hx
                have hi : i2 < f.vars.length := (List.getElem?_eq_some_iff.mp hu).1
                walk_at "cg"
                refine r_ixT (k3.tup (k2.tup sa)) atI_0 ?_
                walk_at "cg"
                refine r_ap eD2 (small1000 (by simp; omega)) fun H4 e4 k4 => ?_
                exact ⟨by walk_at "cg kp", hD2, by rw [e4, map_take_snoc hu]⟩
              · rintro D2 H2 ⟨k3, hD2, eD2⟩
                rw [hl5, List.take_length] at eD2
                have eD' : H2 D = some (.lst ((numsOf f.vars j).map V.int)) := k3.get0 eD
                walk_at "cg"
                refine r_inL eD2 rfl (flat_ints _) (inV_ints _ _) ?_
                have es := numsOf_succ f.vars j
                rw [Int.zero_add]
                walk_at "cg"
                refine if_B (fun h => ?_) (fun h => ?_)
                · walk_at "cg"
                  refine r_ap eD' (small1000 (by rw [List.length_map]; omega)) fun H4 e4 k4 => ?_
                  refine ⟨by walk_at "cg kp", hD, ?_⟩
                  rw [e4, es, if_pos h, List.map_append]
                  rfl
                · walk_at "cg"
                  refine ⟨by walk_at "cg kp", hD, ?_⟩
                  rw [eD', es, if_neg (by rw [h]; decide), List.append_nil]
            · rintro D H' ⟨k2, hD, eD⟩
              walk_at "cg"
              refine ⟨pf, f, rfl, by walk_at "cg h", by omega, fun l ns' H7 hl0 el asc mem k7 => ?_⟩
              walk_at "cg"
              have en : ns' = numsOf f.vars m.toNat := sorted_ext asc (numsOf_asc _ _) fun k => by
                rw [mem, numsOf_mem]
                exact ⟨fun h => ⟨by have := okv.1 k h; omega, h⟩, fun h => h.2⟩
              have eD7 : H7 D = some (.lst ((numsOf f.vars m.toNat).map V.int)) := k7.get0 eD
              rw [← en] at eD7
              have dp : ∀ us : List Int, DpAll K H7 (us.map V.int) (us.map PyData.int) := fun us => by
                induction us with
                | nil => exact .nil
                | cons u us ih => exact .cons (.int u) ih
              have sh : Shp 1 (.list (ns'.map PyData.int)) := .list fun d hd => by
                obtain ⟨z, _, rfl⟩ := List.mem_map.mp hd
                exact .int z
              refine ⟨_, _, .lst (SqL.of el) (dp _), .lst (SqL.of eD7) (dp _), sh.ok, sh.ok, ?_⟩
              rw [sh.self]
              exact q _
          · have hc : f.isCon = false := by rw [hfe]; exact e1
            walk_at "cg"
            refine ⟨pf, f, rfl, If5, ?_⟩
            rw [hc]
            walk_at "cg"
            obtain ⟨q5, ds, xs5, sp5, sq5, hl5, at5⟩ := op5
            refine r_lcR (fun D i H' => Kp [] H5 H' ∧ H5 D = none ∧ H' D = some (.lst ((numsOf f.vars i).map V.int))) (fun D H2 hD e2 k2 => ⟨k2, hD, e2⟩) ?_ ?_
            · rintro D j H' hj ⟨k2, hD, eD⟩
              have hnl := numsOf_le f.vars j
              walk_at "cg"
              refine r_ixT (k2.tup sp5) atI_1 ?_
              walk_at "cg"
              refine r_lcT xs5 (fun D2 i2 H2 => Kp [] H' H2 ∧ H' D2 = none ∧ H2 D2 = some (.lst ((f.vars.take i2).map V.int))) (fun D2 H2 hD2 e2 k3 => ⟨k3, hD2, e2⟩) (fun D2 i2 H2 ⟨k3, _⟩ => k3.tup (k2.tup sq5)) ?_ ?_
              · rintro D2 i2 x H2 hx ⟨k3, hD2, eD2⟩
                obtain ⟨ad, u, ys, rfl, hu, sa⟩ := at5 i2 x hx
                have hi : i2 < f.vars.length := (List.getElem?_eq_some_iff.mp hu).1
                walk_at "cg"
                refine r_ixT (k3.tup (k2.tup sa)) atI_0 ?_
                walk_at "cg"
                refine r_ap eD2 (small1000 (by simp; omega)) fun H4 e4 k4 => ?_
                exact ⟨by walk_at "cg kp", hD2, by rw [e4, map_take_snoc hu]⟩
              · rintro D2 H2 ⟨k3, hD2, eD2⟩
                rw [hl5, List.take_length] at eD2
                have eD' : H2 D = some (.lst ((numsOf f.vars j).map V.int)) := k3.get0 eD
                walk_at "cg"
                refine r_inL eD2 rfl (flat_ints _) (inV_ints _ _) ?_
                have es := numsOf_succ f.vars j
                rw [Int.zero_add]
                walk_at "cg"
                refine if_B (fun h => ?_) (fun h => ?_)
                · walk_at "cg"
                  refine r_ap eD' (small1000 (by rw [List.length_map]; omega)) fun H4 e4 k4 => ?_
                  refine ⟨by walk_at "cg kp", hD, ?_⟩
                  rw [e4, es, if_pos h, List.map_append]
                  rfl
                · walk_at "cg"
                  refine ⟨by walk_at "cg kp", hD, ?_⟩
                  rw [eD', es, if_neg (by rw [h]; decide), List.append_nil]
            · rintro D H' ⟨k2, hD, eD⟩
              walk_at "cg"
              refine ⟨pf, f, rfl, by walk_at "cg h", by omega, fun l ns' H7 hl0 el asc mem k7 => ?_⟩
              walk_at "cg"
              have en : ns' = numsOf f.vars m.toNat := sorted_ext asc (numsOf_asc _ _) fun k => by
                rw [mem, numsOf_mem]
                exact ⟨fun h => ⟨by have := okv.1 k h; omega, h⟩, fun h => h.2⟩
              have eD7 : H7 D = some (.lst ((numsOf f.vars m.toNat).map V.int)) := k7.get0 eD
              rw [← en] at eD7
              have dp : ∀ us : List Int, DpAll K H7 (us.map V.int) (us.map PyData.int) := fun us => by
                induction us with
                | nil => exact .nil
                | cons u us ih => exact .cons (.int u) ih
              have sh : Shp 1 (.list (ns'.map PyData.int)) := .list fun d hd => by
                obtain ⟨z, _, rfl⟩ := List.mem_map.mp hd
                exact .int z
              refine ⟨_, _, .lst (SqL.of el) (dp _), .lst (SqL.of eD7) (dp _), sh.ok, sh.ok, ?_⟩
              rw [sh.self]
              exact q _
end
theorem all_mk {l : PySem.W.OpenLaw} {w : World} {K : PySem.W.Frag} {h : Heap} {mg : Str → Option Value} {fa : Addr} (X : K.In h) (G : h.Ns mainGlobals mg) (hfa : mg "law" = some (.ref fa))
    {od_relation_holds an_relation_holds : Option Addr} {sl_relation_holds : Array (Option Value)} {f_relation_holds : Addr} {oc_relation_holds kV_relation_holds dc_relation_holds pm_relation_holds cd_relation_holds ct_relation_holds : Value}
    {od_literal_holds an_literal_holds : Option Addr} {sl_literal_holds : Array (Option Value)} {f_literal_holds : Addr} {oc_literal_holds kV_literal_holds dc_literal_holds pm_literal_holds cd_literal_holds ct_literal_holds : Value}
    {od_negated an_negated : Option Addr} {sl_negated : Array (Option Value)} {f_negated : Addr} {oc_negated kV_negated dc_negated pm_negated cd_negated ct_negated : Value}
    {od_terms_sum an_terms_sum : Option Addr} {sl_terms_sum : Array (Option Value)} {f_terms_sum : Addr} {oc_terms_sum kV_terms_sum dc_terms_sum pm_terms_sum cd_terms_sum ct_terms_sum : Value}
    {od_negated_terms an_negated_terms : Option Addr} {sl_negated_terms : Array (Option Value)} {f_negated_terms : Addr} {oc_negated_terms kV_negated_terms dc_negated_terms pm_negated_terms cd_negated_terms ct_negated_terms : Value}
    {od_fact_holds an_fact_holds : Option Addr} {sl_fact_holds : Array (Option Value)} {f_fact_holds : Addr} {oc_fact_holds kV_fact_holds dc_fact_holds pm_fact_holds cd_fact_holds ct_fact_holds : Value}
    {od_is_contradiction an_is_contradiction : Option Addr} {sl_is_contradiction : Array (Option Value)} {f_is_contradiction : Addr} {oc_is_contradiction kV_is_contradiction dc_is_contradiction pm_is_contradiction cd_is_contradiction ct_is_contradiction : Value}
    {od_as_row an_as_row : Option Addr} {sl_as_row : Array (Option Value)} {f_as_row : Addr} {oc_as_row kV_as_row dc_as_row pm_as_row cd_as_row ct_as_row : Value}
    {od_as_literal an_as_literal : Option Addr} {sl_as_literal : Array (Option Value)} {f_as_literal : Addr} {oc_as_literal kV_as_literal dc_as_literal pm_as_literal cd_as_literal ct_as_literal : Value}
    {od_negation an_negation : Option Addr} {sl_negation : Array (Option Value)} {f_negation : Addr} {oc_negation kV_negation dc_negation pm_negation cd_negation ct_negation : Value}
    {od_unknowns_in an_unknowns_in : Option Addr} {sl_unknowns_in : Array (Option Value)} {f_unknowns_in : Addr} {oc_unknowns_in kV_unknowns_in dc_unknowns_in pm_unknowns_in cd_unknowns_in ct_unknowns_in : Value}
    {od_law_same an_law_same : Option Addr} {sl_law_same : Array (Option Value)} {f_law_same : Addr} {oc_law_same kV_law_same dc_law_same pm_law_same cd_law_same ct_law_same : Value}
    {od_law_draw an_law_draw : Option Addr} {sl_law_draw : Array (Option Value)} {f_law_draw : Addr} {oc_law_draw kV_law_draw dc_law_draw pm_law_draw cd_law_draw ct_law_draw : Value}
    {od_law_tape an_law_tape : Option Addr} {sl_law_tape : Array (Option Value)} {f_law_tape : Addr} {oc_law_tape kV_law_tape dc_law_tape pm_law_tape cd_law_tape ct_law_tape : Value}
    {od_law_terms an_law_terms : Option Addr} {sl_law_terms : Array (Option Value)} {f_law_terms : Addr} {oc_law_terms kV_law_terms dc_law_terms pm_law_terms cd_law_terms ct_law_terms : Value}
    {od_law_literal an_law_literal : Option Addr} {sl_law_literal : Array (Option Value)} {f_law_literal : Addr} {oc_law_literal kV_law_literal dc_law_literal pm_law_literal cd_law_literal ct_law_literal : Value}
    {od_law_rel an_law_rel : Option Addr} {sl_law_rel : Array (Option Value)} {f_law_rel : Addr} {oc_law_rel kV_law_rel dc_law_rel pm_law_rel cd_law_rel ct_law_rel : Value}
    {od_law_sum an_law_sum : Option Addr} {sl_law_sum : Array (Option Value)} {f_law_sum : Addr} {oc_law_sum kV_law_sum dc_law_sum pm_law_sum cd_law_sum ct_law_sum : Value}
    {od_law_lit an_law_lit : Option Addr} {sl_law_lit : Array (Option Value)} {f_law_lit : Addr} {oc_law_lit kV_law_lit dc_law_lit pm_law_lit cd_law_lit ct_law_lit : Value}
    {od_law_true an_law_true : Option Addr} {sl_law_true : Array (Option Value)} {f_law_true : Addr} {oc_law_true kV_law_true dc_law_true pm_law_true cd_law_true ct_law_true : Value}
    {od_law_fact an_law_fact : Option Addr} {sl_law_fact : Array (Option Value)} {f_law_fact : Addr} {oc_law_fact kV_law_fact dc_law_fact pm_law_fact cd_law_fact ct_law_fact : Value}
    {od_law_as_row an_law_as_row : Option Addr} {sl_law_as_row : Array (Option Value)} {f_law_as_row : Addr} {oc_law_as_row kV_law_as_row dc_law_as_row pm_law_as_row cd_law_as_row ct_law_as_row : Value}
    {od_law_as_literal an_law_as_literal : Option Addr} {sl_law_as_literal : Array (Option Value)} {f_law_as_literal : Addr} {oc_law_as_literal kV_law_as_literal dc_law_as_literal pm_law_as_literal cd_law_as_literal ct_law_as_literal : Value}
    {od_law_negation an_law_negation : Option Addr} {sl_law_negation : Array (Option Value)} {f_law_negation : Addr} {oc_law_negation kV_law_negation dc_law_negation pm_law_negation cd_law_negation ct_law_negation : Value}
    {od_law_grown an_law_grown : Option Addr} {sl_law_grown : Array (Option Value)} {f_law_grown : Addr} {oc_law_grown kV_law_grown dc_law_grown pm_law_grown cd_law_grown ct_law_grown : Value}
    {od_law an_law : Option Addr} {sl_law : Array (Option Value)} {f_law : Addr} {oc_law kV_law dc_law pm_law cd_law ct_law : Value}
    (a_relation_holds : PySem.W.nsIn K mainGlobals "relation_holds" = some (some (.ref f_relation_holds))) (l_relation_holds : K.lookup f_relation_holds = some ⟨oc_relation_holds, od_relation_holds, .func (PySem.W.fnOf "relation_holds" "relation_holds" (defArgs s_relation_holds) (defBody s_relation_holds) (defScope s_relation_holds) .none kV_relation_holds dc_relation_holds pm_relation_holds an_relation_holds cd_relation_holds ct_relation_holds), sl_relation_holds⟩) (c_relation_holds : PySem.W.codeIn K cd_relation_holds "relation_holds" = true) (k_relation_holds : PySem.W.keepIn K (.ref f_relation_holds) = true)
    (a_literal_holds : PySem.W.nsIn K mainGlobals "literal_holds" = some (some (.ref f_literal_holds))) (l_literal_holds : K.lookup f_literal_holds = some ⟨oc_literal_holds, od_literal_holds, .func (PySem.W.fnOf "literal_holds" "literal_holds" (defArgs s_literal_holds) (defBody s_literal_holds) (defScope s_literal_holds) .none kV_literal_holds dc_literal_holds pm_literal_holds an_literal_holds cd_literal_holds ct_literal_holds), sl_literal_holds⟩) (c_literal_holds : PySem.W.codeIn K cd_literal_holds "literal_holds" = true) (k_literal_holds : PySem.W.keepIn K (.ref f_literal_holds) = true)
    (a_negated : PySem.W.nsIn K mainGlobals "negated" = some (some (.ref f_negated))) (l_negated : K.lookup f_negated = some ⟨oc_negated, od_negated, .func (PySem.W.fnOf "negated" "negated" (defArgs s_negated) (defBody s_negated) (defScope s_negated) .none kV_negated dc_negated pm_negated an_negated cd_negated ct_negated), sl_negated⟩) (c_negated : PySem.W.codeIn K cd_negated "negated" = true) (k_negated : PySem.W.keepIn K (.ref f_negated) = true)
    (a_terms_sum : PySem.W.nsIn K mainGlobals "terms_sum" = some (some (.ref f_terms_sum))) (l_terms_sum : K.lookup f_terms_sum = some ⟨oc_terms_sum, od_terms_sum, .func (PySem.W.fnOf "terms_sum" "terms_sum" (defArgs s_terms_sum) (defBody s_terms_sum) (defScope s_terms_sum) .none kV_terms_sum dc_terms_sum pm_terms_sum an_terms_sum cd_terms_sum ct_terms_sum), sl_terms_sum⟩) (c_terms_sum : PySem.W.codeIn K cd_terms_sum "terms_sum" = true) (k_terms_sum : PySem.W.keepIn K (.ref f_terms_sum) = true)
    (a_negated_terms : PySem.W.nsIn K mainGlobals "negated_terms" = some (some (.ref f_negated_terms))) (l_negated_terms : K.lookup f_negated_terms = some ⟨oc_negated_terms, od_negated_terms, .func (PySem.W.fnOf "negated_terms" "negated_terms" (defArgs s_negated_terms) (defBody s_negated_terms) (defScope s_negated_terms) .none kV_negated_terms dc_negated_terms pm_negated_terms an_negated_terms cd_negated_terms ct_negated_terms), sl_negated_terms⟩) (c_negated_terms : PySem.W.codeIn K cd_negated_terms "negated_terms" = true) (k_negated_terms : PySem.W.keepIn K (.ref f_negated_terms) = true)
    (a_fact_holds : PySem.W.nsIn K mainGlobals "fact_holds" = some (some (.ref f_fact_holds))) (l_fact_holds : K.lookup f_fact_holds = some ⟨oc_fact_holds, od_fact_holds, .func (PySem.W.fnOf "fact_holds" "fact_holds" (defArgs s_fact_holds) (defBody s_fact_holds) (defScope s_fact_holds) .none kV_fact_holds dc_fact_holds pm_fact_holds an_fact_holds cd_fact_holds ct_fact_holds), sl_fact_holds⟩) (c_fact_holds : PySem.W.codeIn K cd_fact_holds "fact_holds" = true) (k_fact_holds : PySem.W.keepIn K (.ref f_fact_holds) = true)
    (a_is_contradiction : PySem.W.nsIn K mainGlobals "is_contradiction" = some (some (.ref f_is_contradiction))) (l_is_contradiction : K.lookup f_is_contradiction = some ⟨oc_is_contradiction, od_is_contradiction, .func (PySem.W.fnOf "is_contradiction" "is_contradiction" (defArgs s_is_contradiction) (defBody s_is_contradiction) (defScope s_is_contradiction) .none kV_is_contradiction dc_is_contradiction pm_is_contradiction an_is_contradiction cd_is_contradiction ct_is_contradiction), sl_is_contradiction⟩) (c_is_contradiction : PySem.W.codeIn K cd_is_contradiction "is_contradiction" = true) (k_is_contradiction : PySem.W.keepIn K (.ref f_is_contradiction) = true)
    (a_as_row : PySem.W.nsIn K mainGlobals "as_row" = some (some (.ref f_as_row))) (l_as_row : K.lookup f_as_row = some ⟨oc_as_row, od_as_row, .func (PySem.W.fnOf "as_row" "as_row" (defArgs s_as_row) (defBody s_as_row) (defScope s_as_row) .none kV_as_row dc_as_row pm_as_row an_as_row cd_as_row ct_as_row), sl_as_row⟩) (c_as_row : PySem.W.codeIn K cd_as_row "as_row" = true) (k_as_row : PySem.W.keepIn K (.ref f_as_row) = true)
    (a_as_literal : PySem.W.nsIn K mainGlobals "as_literal" = some (some (.ref f_as_literal))) (l_as_literal : K.lookup f_as_literal = some ⟨oc_as_literal, od_as_literal, .func (PySem.W.fnOf "as_literal" "as_literal" (defArgs s_as_literal) (defBody s_as_literal) (defScope s_as_literal) .none kV_as_literal dc_as_literal pm_as_literal an_as_literal cd_as_literal ct_as_literal), sl_as_literal⟩) (c_as_literal : PySem.W.codeIn K cd_as_literal "as_literal" = true) (k_as_literal : PySem.W.keepIn K (.ref f_as_literal) = true)
    (a_negation : PySem.W.nsIn K mainGlobals "negation" = some (some (.ref f_negation))) (l_negation : K.lookup f_negation = some ⟨oc_negation, od_negation, .func (PySem.W.fnOf "negation" "negation" (defArgs s_negation) (defBody s_negation) (defScope s_negation) .none kV_negation dc_negation pm_negation an_negation cd_negation ct_negation), sl_negation⟩) (c_negation : PySem.W.codeIn K cd_negation "negation" = true) (k_negation : PySem.W.keepIn K (.ref f_negation) = true)
    (a_unknowns_in : PySem.W.nsIn K mainGlobals "unknowns_in" = some (some (.ref f_unknowns_in))) (l_unknowns_in : K.lookup f_unknowns_in = some ⟨oc_unknowns_in, od_unknowns_in, .func (PySem.W.fnOf "unknowns_in" "unknowns_in" (defArgs s_unknowns_in) (defBody s_unknowns_in) (defScope s_unknowns_in) .none kV_unknowns_in dc_unknowns_in pm_unknowns_in an_unknowns_in cd_unknowns_in ct_unknowns_in), sl_unknowns_in⟩) (c_unknowns_in : PySem.W.codeIn K cd_unknowns_in "unknowns_in" = true) (k_unknowns_in : PySem.W.keepIn K (.ref f_unknowns_in) = true)
    (a_law_same : PySem.W.nsIn K mainGlobals "_law_same" = some (some (.ref f_law_same))) (l_law_same : K.lookup f_law_same = some ⟨oc_law_same, od_law_same, .func (PySem.W.fnOf "_law_same" "_law_same" (defArgs s_law_same) (defBody s_law_same) (defScope s_law_same) .none kV_law_same dc_law_same pm_law_same an_law_same cd_law_same ct_law_same), sl_law_same⟩) (c_law_same : PySem.W.codeIn K cd_law_same "_law_same" = true) (k_law_same : PySem.W.keepIn K (.ref f_law_same) = true)
    (a_law_draw : PySem.W.nsIn K mainGlobals "_law_draw" = some (some (.ref f_law_draw))) (l_law_draw : K.lookup f_law_draw = some ⟨oc_law_draw, od_law_draw, .func (PySem.W.fnOf "_law_draw" "_law_draw" (defArgs s_law_draw) (defBody s_law_draw) (defScope s_law_draw) .none kV_law_draw dc_law_draw pm_law_draw an_law_draw cd_law_draw ct_law_draw), sl_law_draw⟩) (c_law_draw : PySem.W.codeIn K cd_law_draw "_law_draw" = true) (k_law_draw : PySem.W.keepIn K (.ref f_law_draw) = true)
    (a_law_tape : PySem.W.nsIn K mainGlobals "_law_tape" = some (some (.ref f_law_tape))) (l_law_tape : K.lookup f_law_tape = some ⟨oc_law_tape, od_law_tape, .func (PySem.W.fnOf "_law_tape" "_law_tape" (defArgs s_law_tape) (defBody s_law_tape) (defScope s_law_tape) .none kV_law_tape dc_law_tape pm_law_tape an_law_tape cd_law_tape ct_law_tape), sl_law_tape⟩) (c_law_tape : PySem.W.codeIn K cd_law_tape "_law_tape" = true) (k_law_tape : PySem.W.keepIn K (.ref f_law_tape) = true)
    (a_law_terms : PySem.W.nsIn K mainGlobals "_law_terms" = some (some (.ref f_law_terms))) (l_law_terms : K.lookup f_law_terms = some ⟨oc_law_terms, od_law_terms, .func (PySem.W.fnOf "_law_terms" "_law_terms" (defArgs s_law_terms) (defBody s_law_terms) (defScope s_law_terms) .none kV_law_terms dc_law_terms pm_law_terms an_law_terms cd_law_terms ct_law_terms), sl_law_terms⟩) (c_law_terms : PySem.W.codeIn K cd_law_terms "_law_terms" = true) (k_law_terms : PySem.W.keepIn K (.ref f_law_terms) = true)
    (a_law_literal : PySem.W.nsIn K mainGlobals "_law_literal" = some (some (.ref f_law_literal))) (l_law_literal : K.lookup f_law_literal = some ⟨oc_law_literal, od_law_literal, .func (PySem.W.fnOf "_law_literal" "_law_literal" (defArgs s_law_literal) (defBody s_law_literal) (defScope s_law_literal) .none kV_law_literal dc_law_literal pm_law_literal an_law_literal cd_law_literal ct_law_literal), sl_law_literal⟩) (c_law_literal : PySem.W.codeIn K cd_law_literal "_law_literal" = true) (k_law_literal : PySem.W.keepIn K (.ref f_law_literal) = true)
    (a_law_rel : PySem.W.nsIn K mainGlobals "_law_rel" = some (some (.ref f_law_rel))) (l_law_rel : K.lookup f_law_rel = some ⟨oc_law_rel, od_law_rel, .func (PySem.W.fnOf "_law_rel" "_law_rel" (defArgs s_law_rel) (defBody s_law_rel) (defScope s_law_rel) .none kV_law_rel dc_law_rel pm_law_rel an_law_rel cd_law_rel ct_law_rel), sl_law_rel⟩) (c_law_rel : PySem.W.codeIn K cd_law_rel "_law_rel" = true) (k_law_rel : PySem.W.keepIn K (.ref f_law_rel) = true)
    (a_law_sum : PySem.W.nsIn K mainGlobals "_law_sum" = some (some (.ref f_law_sum))) (l_law_sum : K.lookup f_law_sum = some ⟨oc_law_sum, od_law_sum, .func (PySem.W.fnOf "_law_sum" "_law_sum" (defArgs s_law_sum) (defBody s_law_sum) (defScope s_law_sum) .none kV_law_sum dc_law_sum pm_law_sum an_law_sum cd_law_sum ct_law_sum), sl_law_sum⟩) (c_law_sum : PySem.W.codeIn K cd_law_sum "_law_sum" = true) (k_law_sum : PySem.W.keepIn K (.ref f_law_sum) = true)
    (a_law_lit : PySem.W.nsIn K mainGlobals "_law_lit" = some (some (.ref f_law_lit))) (l_law_lit : K.lookup f_law_lit = some ⟨oc_law_lit, od_law_lit, .func (PySem.W.fnOf "_law_lit" "_law_lit" (defArgs s_law_lit) (defBody s_law_lit) (defScope s_law_lit) .none kV_law_lit dc_law_lit pm_law_lit an_law_lit cd_law_lit ct_law_lit), sl_law_lit⟩) (c_law_lit : PySem.W.codeIn K cd_law_lit "_law_lit" = true) (k_law_lit : PySem.W.keepIn K (.ref f_law_lit) = true)
    (a_law_true : PySem.W.nsIn K mainGlobals "_law_true" = some (some (.ref f_law_true))) (l_law_true : K.lookup f_law_true = some ⟨oc_law_true, od_law_true, .func (PySem.W.fnOf "_law_true" "_law_true" (defArgs s_law_true) (defBody s_law_true) (defScope s_law_true) .none kV_law_true dc_law_true pm_law_true an_law_true cd_law_true ct_law_true), sl_law_true⟩) (c_law_true : PySem.W.codeIn K cd_law_true "_law_true" = true) (k_law_true : PySem.W.keepIn K (.ref f_law_true) = true)
    (a_law_fact : PySem.W.nsIn K mainGlobals "_law_fact" = some (some (.ref f_law_fact))) (l_law_fact : K.lookup f_law_fact = some ⟨oc_law_fact, od_law_fact, .func (PySem.W.fnOf "_law_fact" "_law_fact" (defArgs s_law_fact) (defBody s_law_fact) (defScope s_law_fact) .none kV_law_fact dc_law_fact pm_law_fact an_law_fact cd_law_fact ct_law_fact), sl_law_fact⟩) (c_law_fact : PySem.W.codeIn K cd_law_fact "_law_fact" = true) (k_law_fact : PySem.W.keepIn K (.ref f_law_fact) = true)
    (a_law_as_row : PySem.W.nsIn K mainGlobals "_law_as_row" = some (some (.ref f_law_as_row))) (l_law_as_row : K.lookup f_law_as_row = some ⟨oc_law_as_row, od_law_as_row, .func (PySem.W.fnOf "_law_as_row" "_law_as_row" (defArgs s_law_as_row) (defBody s_law_as_row) (defScope s_law_as_row) .none kV_law_as_row dc_law_as_row pm_law_as_row an_law_as_row cd_law_as_row ct_law_as_row), sl_law_as_row⟩) (c_law_as_row : PySem.W.codeIn K cd_law_as_row "_law_as_row" = true) (k_law_as_row : PySem.W.keepIn K (.ref f_law_as_row) = true)
    (a_law_as_literal : PySem.W.nsIn K mainGlobals "_law_as_literal" = some (some (.ref f_law_as_literal))) (l_law_as_literal : K.lookup f_law_as_literal = some ⟨oc_law_as_literal, od_law_as_literal, .func (PySem.W.fnOf "_law_as_literal" "_law_as_literal" (defArgs s_law_as_literal) (defBody s_law_as_literal) (defScope s_law_as_literal) .none kV_law_as_literal dc_law_as_literal pm_law_as_literal an_law_as_literal cd_law_as_literal ct_law_as_literal), sl_law_as_literal⟩) (c_law_as_literal : PySem.W.codeIn K cd_law_as_literal "_law_as_literal" = true) (k_law_as_literal : PySem.W.keepIn K (.ref f_law_as_literal) = true)
    (a_law_negation : PySem.W.nsIn K mainGlobals "_law_negation" = some (some (.ref f_law_negation))) (l_law_negation : K.lookup f_law_negation = some ⟨oc_law_negation, od_law_negation, .func (PySem.W.fnOf "_law_negation" "_law_negation" (defArgs s_law_negation) (defBody s_law_negation) (defScope s_law_negation) .none kV_law_negation dc_law_negation pm_law_negation an_law_negation cd_law_negation ct_law_negation), sl_law_negation⟩) (c_law_negation : PySem.W.codeIn K cd_law_negation "_law_negation" = true) (k_law_negation : PySem.W.keepIn K (.ref f_law_negation) = true)
    (a_law_grown : PySem.W.nsIn K mainGlobals "_law_grown" = some (some (.ref f_law_grown))) (l_law_grown : K.lookup f_law_grown = some ⟨oc_law_grown, od_law_grown, .func (PySem.W.fnOf "_law_grown" "_law_grown" (defArgs s_law_grown) (defBody s_law_grown) (defScope s_law_grown) .none kV_law_grown dc_law_grown pm_law_grown an_law_grown cd_law_grown ct_law_grown), sl_law_grown⟩) (c_law_grown : PySem.W.codeIn K cd_law_grown "_law_grown" = true) (k_law_grown : PySem.W.keepIn K (.ref f_law_grown) = true)
    (a_law : PySem.W.nsIn K mainGlobals "law" = some (some (.ref f_law))) (l_law : K.lookup f_law = some ⟨oc_law, od_law, .func (PySem.W.fnOf "law" "law" (defArgs s_law) (defBody s_law) (defScope s_law) .none kV_law dc_law pm_law an_law cd_law ct_law), sl_law⟩) (c_law : PySem.W.codeIn K cd_law "law" = true) (k_law : PySem.W.keepIn K (.ref f_law) = true)
    (z_len : PySem.W.nsIn K mainGlobals "len" = some none)
    (z_int : PySem.W.nsIn K mainGlobals "int" = some none)
    (z_list : PySem.W.nsIn K mainGlobals "list" = some none)
    (z_isinstance : PySem.W.nsIn K mainGlobals "isinstance" = some none)
    (z_bool : PySem.W.nsIn K mainGlobals "bool" = some none)
    (z_tuple : PySem.W.nsIn K mainGlobals "tuple" = some none)
    (z_range : PySem.W.nsIn K mainGlobals "range" = some none)
    (z_any : PySem.W.nsIn K mainGlobals "any" = some none)
    (z_set : PySem.W.nsIn K mainGlobals "set" = some none)
    (z_sorted : PySem.W.nsIn K mainGlobals "sorted" = some none)
    : ∃ fd : FuncData, (∀ (s : Shared) (v : Value), BindsTo s fd ⟨[v], []⟩ [("_law_script", v)]) ∧ ∀ base : Heap, K.In base → base.Ns mainGlobals mg → FnOk l.prog w K mg base CX0 4 fa fd ["_law_script"] ((spLaw K)) := by
  have e := hfa.symm.trans (PySem.W.mg_of X G a_law)
  cases e
  have B : Bi K mg := { n_len := PySem.W.mg_none_of X G z_len, n_int := PySem.W.mg_none_of X G z_int, n_list := PySem.W.mg_none_of X G z_list, n_isinstance := PySem.W.mg_none_of X G z_isinstance, n_bool := PySem.W.mg_none_of X G z_bool, n_tuple := PySem.W.mg_none_of X G z_tuple, n_range := PySem.W.mg_none_of X G z_range, n_any := PySem.W.mg_none_of X G z_any, n_set := PySem.W.mg_none_of X G z_set, n_sorted := PySem.W.mg_none_of X G z_sorted }
  have F_relation_holds := fun_mk (st := s_relation_holds) l_relation_holds c_relation_holds k_relation_holds
  have b_relation_holds := F_relation_holds.binds (ps := ["relation", "left", "right"]) fun _ _ _ _ _ _ us hl => match us, hl with | [_, _, _], _ => rfl
  have F_literal_holds := fun_mk (st := s_literal_holds) l_literal_holds c_literal_holds k_literal_holds
  have b_literal_holds := F_literal_holds.binds (ps := ["literal", "worth"]) fun _ _ _ _ _ _ us hl => match us, hl with | [_, _], _ => rfl
  have F_negated := fun_mk (st := s_negated) l_negated c_negated k_negated
  have b_negated := F_negated.binds (ps := ["literal"]) fun _ _ _ _ _ _ us hl => match us, hl with | [_], _ => rfl
  have F_terms_sum := fun_mk (st := s_terms_sum) l_terms_sum c_terms_sum k_terms_sum
  have b_terms_sum := F_terms_sum.binds (ps := ["terms", "point"]) fun _ _ _ _ _ _ us hl => match us, hl with | [_, _], _ => rfl
  have F_negated_terms := fun_mk (st := s_negated_terms) l_negated_terms c_negated_terms k_negated_terms
  have b_negated_terms := F_negated_terms.binds (ps := ["terms"]) fun _ _ _ _ _ _ us hl => match us, hl with | [_], _ => rfl
  have F_fact_holds := fun_mk (st := s_fact_holds) l_fact_holds c_fact_holds k_fact_holds
  have b_fact_holds := F_fact_holds.binds (ps := ["fact", "point"]) fun _ _ _ _ _ _ us hl => match us, hl with | [_, _], _ => rfl
  have F_is_contradiction := fun_mk (st := s_is_contradiction) l_is_contradiction c_is_contradiction k_is_contradiction
  have b_is_contradiction := F_is_contradiction.binds (ps := ["fact"]) fun _ _ _ _ _ _ us hl => match us, hl with | [_], _ => rfl
  have F_as_row := fun_mk (st := s_as_row) l_as_row c_as_row k_as_row
  have b_as_row := F_as_row.binds (ps := ["fact"]) fun _ _ _ _ _ _ us hl => match us, hl with | [_], _ => rfl
  have F_as_literal := fun_mk (st := s_as_literal) l_as_literal c_as_literal k_as_literal
  have b_as_literal := F_as_literal.binds (ps := ["fact"]) fun _ _ _ _ _ _ us hl => match us, hl with | [_], _ => rfl
  have F_negation := fun_mk (st := s_negation) l_negation c_negation k_negation
  have b_negation := F_negation.binds (ps := ["fact"]) fun _ _ _ _ _ _ us hl => match us, hl with | [_], _ => rfl
  have F_unknowns_in := fun_mk (st := s_unknowns_in) l_unknowns_in c_unknowns_in k_unknowns_in
  have b_unknowns_in := F_unknowns_in.binds (ps := ["fact"]) fun _ _ _ _ _ _ us hl => match us, hl with | [_], _ => rfl
  have F_law_same := fun_mk (st := s_law_same) l_law_same c_law_same k_law_same
  have b_law_same := F_law_same.binds (ps := ["_law_told", "_law_due"]) fun _ _ _ _ _ _ us hl => match us, hl with | [_, _], _ => rfl
  have F_law_draw := fun_mk (st := s_law_draw) l_law_draw c_law_draw k_law_draw
  have b_law_draw := F_law_draw.binds (ps := ["_law_tape_here", "_law_many"]) fun _ _ _ _ _ _ us hl => match us, hl with | [_, _], _ => rfl
  have F_law_tape := fun_mk (st := s_law_tape) l_law_tape c_law_tape k_law_tape
  have b_law_tape := F_law_tape.binds (ps := ["_law_script"]) fun _ _ _ _ _ _ us hl => match us, hl with | [_], _ => rfl
  have F_law_terms := fun_mk (st := s_law_terms) l_law_terms c_law_terms k_law_terms
  have b_law_terms := F_law_terms.binds (ps := ["_law_tape_here", "_law_many"]) fun _ _ _ _ _ _ us hl => match us, hl with | [_, _], _ => rfl
  have F_law_literal := fun_mk (st := s_law_literal) l_law_literal c_law_literal k_law_literal
  have b_law_literal := F_law_literal.binds (ps := ["_law_tape_here", "_law_many"]) fun _ _ _ _ _ _ us hl => match us, hl with | [_, _], _ => rfl
  have F_law_rel := fun_mk (st := s_law_rel) l_law_rel c_law_rel k_law_rel
  have b_law_rel := F_law_rel.binds (ps := ["_law_relation", "_law_left", "_law_right"]) fun _ _ _ _ _ _ us hl => match us, hl with | [_, _, _], _ => rfl
  have F_law_sum := fun_mk (st := s_law_sum) l_law_sum c_law_sum k_law_sum
  have b_law_sum := F_law_sum.binds (ps := ["_law_terms_here", "_law_point"]) fun _ _ _ _ _ _ us hl => match us, hl with | [_, _], _ => rfl
  have F_law_lit := fun_mk (st := s_law_lit) l_law_lit c_law_lit k_law_lit
  have b_law_lit := F_law_lit.binds (ps := ["_law_literal_here", "_law_point"]) fun _ _ _ _ _ _ us hl => match us, hl with | [_, _], _ => rfl
  have F_law_true := fun_mk (st := s_law_true) l_law_true c_law_true k_law_true
  have b_law_true := F_law_true.binds (ps := ["_law_fact_here", "_law_point"]) fun _ _ _ _ _ _ us hl => match us, hl with | [_, _], _ => rfl
  have F_law_fact := fun_mk (st := s_law_fact) l_law_fact c_law_fact k_law_fact
  have b_law_fact := F_law_fact.binds (ps := ["_law_tape_here", "_law_many"]) fun _ _ _ _ _ _ us hl => match us, hl with | [_, _], _ => rfl
  have F_law_as_row := fun_mk (st := s_law_as_row) l_law_as_row c_law_as_row k_law_as_row
  have b_law_as_row := F_law_as_row.binds (ps := ["_law_fact_here"]) fun _ _ _ _ _ _ us hl => match us, hl with | [_], _ => rfl
  have F_law_as_literal := fun_mk (st := s_law_as_literal) l_law_as_literal c_law_as_literal k_law_as_literal
  have b_law_as_literal := F_law_as_literal.binds (ps := ["_law_fact_here"]) fun _ _ _ _ _ _ us hl => match us, hl with | [_], _ => rfl
  have F_law_negation := fun_mk (st := s_law_negation) l_law_negation c_law_negation k_law_negation
  have b_law_negation := F_law_negation.binds (ps := ["_law_fact_here"]) fun _ _ _ _ _ _ us hl => match us, hl with | [_], _ => rfl
  have F_law_grown := fun_mk (st := s_law_grown) l_law_grown c_law_grown k_law_grown
  have b_law_grown := F_law_grown.binds (ps := ["_law_fact_here", "_law_scale"]) fun _ _ _ _ _ _ us hl => match us, hl with | [_, _], _ => rfl
  refine ⟨PySem.W.fnOf "law" "law" (defArgs s_law) (defBody s_law) (defScope s_law) .none kV_law dc_law pm_law an_law cd_law ct_law, fun s v => .of_eq rfl, fun base _ _ => ?_⟩
  have D_relation_holds : Is l.prog w K mg base CX0 1 "relation_holds" ["relation", "left", "right"] spRel := ⟨_, _, ok_relation_holds F_relation_holds B , PySem.W.mg_of X G a_relation_holds, k_relation_holds, b_relation_holds⟩
  have D_literal_holds : Is l.prog w K mg base CX0 2 "literal_holds" ["literal", "worth"] (spLit K) := ⟨_, _, ok_literal_holds F_literal_holds B D_relation_holds, PySem.W.mg_of X G a_literal_holds, k_literal_holds, b_literal_holds⟩
  have D_negated : Is l.prog w K mg base CX0 1 "negated" ["literal"] (spNeg K) := ⟨_, _, ok_negated F_negated B , PySem.W.mg_of X G a_negated, k_negated, b_negated⟩
  have D_terms_sum : Is l.prog w K mg base CX0 1 "terms_sum" ["terms", "point"] (spSum K) := ⟨_, _, ok_terms_sum F_terms_sum B , PySem.W.mg_of X G a_terms_sum, k_terms_sum, b_terms_sum⟩
  have D_negated_terms : Is l.prog w K mg base CX0 1 "negated_terms" ["terms"] (spNegT K) := ⟨_, _, ok_negated_terms F_negated_terms B , PySem.W.mg_of X G a_negated_terms, k_negated_terms, b_negated_terms⟩
  have D_fact_holds : Is l.prog w K mg base CX0 3 "fact_holds" ["fact", "point"] (spTrue K) := ⟨_, _, ok_fact_holds F_fact_holds B D_terms_sum D_literal_holds, PySem.W.mg_of X G a_fact_holds, k_fact_holds, b_fact_holds⟩
  have D_is_contradiction : Is l.prog w K mg base CX0 1 "is_contradiction" ["fact"] (spCon K) := ⟨_, _, ok_is_contradiction F_is_contradiction B , PySem.W.mg_of X G a_is_contradiction, k_is_contradiction, b_is_contradiction⟩
  have D_as_row : Is l.prog w K mg base CX0 1 "as_row" ["fact"] (spAsRow K) := ⟨_, _, ok_as_row F_as_row B , PySem.W.mg_of X G a_as_row, k_as_row, b_as_row⟩
  have D_as_literal : Is l.prog w K mg base CX0 1 "as_literal" ["fact"] (spAsLit K) := ⟨_, _, ok_as_literal F_as_literal B , PySem.W.mg_of X G a_as_literal, k_as_literal, b_as_literal⟩
  have D_negation : Is l.prog w K mg base CX0 2 "negation" ["fact"] (spNegF K) := ⟨_, _, ok_negation F_negation B D_negated_terms D_negated, PySem.W.mg_of X G a_negation, k_negation, b_negation⟩
  have D_unknowns_in : Is l.prog w K mg base CX0 1 "unknowns_in" ["fact"] (spVars K) := ⟨_, _, ok_unknowns_in F_unknowns_in B , PySem.W.mg_of X G a_unknowns_in, k_unknowns_in, b_unknowns_in⟩
  have D_law_same : Is l.prog w K mg base CX0 1 "_law_same" ["_law_told", "_law_due"] spSame := ⟨_, _, ok_law_same F_law_same B , PySem.W.mg_of X G a_law_same, k_law_same, b_law_same⟩
  have D_law_draw : Is l.prog w K mg base CX0 1 "_law_draw" ["_law_tape_here", "_law_many"] spDraw := ⟨_, _, ok_law_draw F_law_draw B , PySem.W.mg_of X G a_law_draw, k_law_draw, b_law_draw⟩
  have D_law_tape : Is l.prog w K mg base CX0 1 "_law_tape" ["_law_script"] (spTape K) := ⟨_, _, ok_law_tape F_law_tape B , PySem.W.mg_of X G a_law_tape, k_law_tape, b_law_tape⟩
  have D_law_terms : Is l.prog w K mg base CX0 2 "_law_terms" ["_law_tape_here", "_law_many"] (spLawTerms K) := ⟨_, _, ok_law_terms F_law_terms B D_law_draw, PySem.W.mg_of X G a_law_terms, k_law_terms, b_law_terms⟩
  have D_law_literal : Is l.prog w K mg base CX0 2 "_law_literal" ["_law_tape_here", "_law_many"] (spLawLiteral K) := ⟨_, _, ok_law_literal F_law_literal B D_law_draw, PySem.W.mg_of X G a_law_literal, k_law_literal, b_law_literal⟩
  have D_law_rel : Is l.prog w K mg base CX0 1 "_law_rel" ["_law_relation", "_law_left", "_law_right"] spRel := ⟨_, _, ok_law_rel F_law_rel B , PySem.W.mg_of X G a_law_rel, k_law_rel, b_law_rel⟩
  have D_law_sum : Is l.prog w K mg base CX0 1 "_law_sum" ["_law_terms_here", "_law_point"] (spSum K) := ⟨_, _, ok_law_sum F_law_sum B , PySem.W.mg_of X G a_law_sum, k_law_sum, b_law_sum⟩
  have D_law_lit : Is l.prog w K mg base CX0 2 "_law_lit" ["_law_literal_here", "_law_point"] (spLawLit K) := ⟨_, _, ok_law_lit F_law_lit B D_law_rel, PySem.W.mg_of X G a_law_lit, k_law_lit, b_law_lit⟩
  have D_law_true : Is l.prog w K mg base CX0 3 "_law_true" ["_law_fact_here", "_law_point"] (spTrue K) := ⟨_, _, ok_law_true F_law_true B D_law_sum D_law_lit, PySem.W.mg_of X G a_law_true, k_law_true, b_law_true⟩
  have D_law_fact : Is l.prog w K mg base CX0 3 "_law_fact" ["_law_tape_here", "_law_many"] (spLawFact K) := ⟨_, _, ok_law_fact F_law_fact B D_law_draw D_law_terms D_law_literal, PySem.W.mg_of X G a_law_fact, k_law_fact, b_law_fact⟩
  have D_law_as_row : Is l.prog w K mg base CX0 1 "_law_as_row" ["_law_fact_here"] (spAsRow K) := ⟨_, _, ok_law_as_row F_law_as_row B , PySem.W.mg_of X G a_law_as_row, k_law_as_row, b_law_as_row⟩
  have D_law_as_literal : Is l.prog w K mg base CX0 1 "_law_as_literal" ["_law_fact_here"] (spAsLit K) := ⟨_, _, ok_law_as_literal F_law_as_literal B , PySem.W.mg_of X G a_law_as_literal, k_law_as_literal, b_law_as_literal⟩
  have D_law_negation : Is l.prog w K mg base CX0 1 "_law_negation" ["_law_fact_here"] (spNegF K) := ⟨_, _, ok_law_negation F_law_negation B , PySem.W.mg_of X G a_law_negation, k_law_negation, b_law_negation⟩
  have D_law_grown : Is l.prog w K mg base CX0 1 "_law_grown" ["_law_fact_here", "_law_scale"] (spGrown K) := ⟨_, _, ok_law_grown F_law_grown B , PySem.W.mg_of X G a_law_grown, k_law_grown, b_law_grown⟩
  exact ok_law (fun_mk (st := s_law) l_law c_law k_law) B D_law_tape D_law_fact D_unknowns_in D_law_draw D_law_grown D_law_true D_as_row D_as_literal D_negation D_law_same D_is_contradiction D_fact_holds D_law_as_row D_law_as_literal D_law_negation D_law_lit
theorem walk {l : PySem.W.OpenLaw} {q : Program} {loose : List Str} {XP : (Str → Option Value) → Heap → Prop} {YP : World → Heap → Prop} {d : DefRec} {K : Params → PySem.W.Frag} (hn : l.most = some 63) (hdf : d.params.defaults = [])
    (hY : ∀ (w : World) (h : Heap), YP w h → (K w.params).In h)
    (F : ∀ (w : World) (mg : Str → Option Value) (fa : Addr) (h : Heap), (K w.params).In h → h.Ns mainGlobals mg → mg d.name = some (.ref fa) →
      ∃ fd : FuncData, (∀ (s : Shared) (u : Value), BindsTo s fd ⟨[u], []⟩ [("_law_script", u)]) ∧ ∀ base : Heap, (K w.params).In base → base.Ns mainGlobals mg → FnOk l.prog w (K w.params) mg base CX0 4 fa fd ["_law_script"] (spLaw (K w.params))) :
    PySem.W.WalkO q loose XP YP l.row.toRowW d [] (fun f vs => PySem.call f vs) :=
  L2.walk_of (n := 63) (k := 4) (x := "_law_script") (CX := fun _ => CX0) (sp := fun w => spLaw (K w.params)) hn (by decide) hdf ⟨rfl, by decide, by decide⟩ hY F (fun _ _ a ns hl _ hS => ⟨a, ns, rfl, hS, hl, fun _ => rfl⟩) fun _ _ _ _ _ z => z
end CG

open PySem PySem.W PyProof.Rows in
set_option maxRecDepth 100000 in
set_option maxHeartbeats 0 in
theorem PySem.Challenge.cw_commonground_k13_facts_and_their_forms_holds : PySem.Challenge.rw_commonground_k13_facts_and_their_forms.Holds := by
  w_on; o_law; k_head; (case hw => w_witness2)
  k_fill
  refine CG.walk (l := PySem.Challenge.rw_commonground_k13_facts_and_their_forms) rfl rfl (fun w h Y => PySem.W.kIn_of Y) ?F
  case F =>
    intro w mg fa h KX G hmg
    refine' CG.all_mk KX G hmg ?a_relation_holds ?l_relation_holds ?c_relation_holds ?k_relation_holds ?a_literal_holds ?l_literal_holds ?c_literal_holds ?k_literal_holds ?a_negated ?l_negated ?c_negated ?k_negated ?a_terms_sum ?l_terms_sum ?c_terms_sum ?k_terms_sum ?a_negated_terms ?l_negated_terms ?c_negated_terms ?k_negated_terms ?a_fact_holds ?l_fact_holds ?c_fact_holds ?k_fact_holds ?a_is_contradiction ?l_is_contradiction ?c_is_contradiction ?k_is_contradiction ?a_as_row ?l_as_row ?c_as_row ?k_as_row ?a_as_literal ?l_as_literal ?c_as_literal ?k_as_literal ?a_negation ?l_negation ?c_negation ?k_negation ?a_unknowns_in ?l_unknowns_in ?c_unknowns_in ?k_unknowns_in ?a_law_same ?l_law_same ?c_law_same ?k_law_same ?a_law_draw ?l_law_draw ?c_law_draw ?k_law_draw ?a_law_tape ?l_law_tape ?c_law_tape ?k_law_tape ?a_law_terms ?l_law_terms ?c_law_terms ?k_law_terms ?a_law_literal ?l_law_literal ?c_law_literal ?k_law_literal ?a_law_rel ?l_law_rel ?c_law_rel ?k_law_rel ?a_law_sum ?l_law_sum ?c_law_sum ?k_law_sum ?a_law_lit ?l_law_lit ?c_law_lit ?k_law_lit ?a_law_true ?l_law_true ?c_law_true ?k_law_true ?a_law_fact ?l_law_fact ?c_law_fact ?k_law_fact ?a_law_as_row ?l_law_as_row ?c_law_as_row ?k_law_as_row ?a_law_as_literal ?l_law_as_literal ?c_law_as_literal ?k_law_as_literal ?a_law_negation ?l_law_negation ?c_law_negation ?k_law_negation ?a_law_grown ?l_law_grown ?c_law_grown ?k_law_grown ?a_law ?l_law ?c_law ?k_law ?z_len ?z_int ?z_list ?z_isinstance ?z_bool ?z_tuple ?z_range ?z_any ?z_set ?z_sorted
    (case a_relation_holds => k_is)
    (case l_relation_holds => k_is)
    (case c_relation_holds => k_is)
    (case k_relation_holds => k_is)
    (case a_literal_holds => k_is)
    (case l_literal_holds => k_is)
    (case c_literal_holds => k_is)
    (case k_literal_holds => k_is)
    (case a_negated => k_is)
    (case l_negated => k_is)
    (case c_negated => k_is)
    (case k_negated => k_is)
    (case a_terms_sum => k_is)
    (case l_terms_sum => k_is)
    (case c_terms_sum => k_is)
    (case k_terms_sum => k_is)
    (case a_negated_terms => k_is)
    (case l_negated_terms => k_is)
    (case c_negated_terms => k_is)
    (case k_negated_terms => k_is)
    (case a_fact_holds => k_is)
    (case l_fact_holds => k_is)
    (case c_fact_holds => k_is)
    (case k_fact_holds => k_is)
    (case a_is_contradiction => k_is)
    (case l_is_contradiction => k_is)
    (case c_is_contradiction => k_is)
    (case k_is_contradiction => k_is)
    (case a_as_row => k_is)
    (case l_as_row => k_is)
    (case c_as_row => k_is)
    (case k_as_row => k_is)
    (case a_as_literal => k_is)
    (case l_as_literal => k_is)
    (case c_as_literal => k_is)
    (case k_as_literal => k_is)
    (case a_negation => k_is)
    (case l_negation => k_is)
    (case c_negation => k_is)
    (case k_negation => k_is)
    (case a_unknowns_in => k_is)
    (case l_unknowns_in => k_is)
    (case c_unknowns_in => k_is)
    (case k_unknowns_in => k_is)
    (case a_law_same => k_is)
    (case l_law_same => k_is)
    (case c_law_same => k_is)
    (case k_law_same => k_is)
    (case a_law_draw => k_is)
    (case l_law_draw => k_is)
    (case c_law_draw => k_is)
    (case k_law_draw => k_is)
    (case a_law_tape => k_is)
    (case l_law_tape => k_is)
    (case c_law_tape => k_is)
    (case k_law_tape => k_is)
    (case a_law_terms => k_is)
    (case l_law_terms => k_is)
    (case c_law_terms => k_is)
    (case k_law_terms => k_is)
    (case a_law_literal => k_is)
    (case l_law_literal => k_is)
    (case c_law_literal => k_is)
    (case k_law_literal => k_is)
    (case a_law_rel => k_is)
    (case l_law_rel => k_is)
    (case c_law_rel => k_is)
    (case k_law_rel => k_is)
    (case a_law_sum => k_is)
    (case l_law_sum => k_is)
    (case c_law_sum => k_is)
    (case k_law_sum => k_is)
    (case a_law_lit => k_is)
    (case l_law_lit => k_is)
    (case c_law_lit => k_is)
    (case k_law_lit => k_is)
    (case a_law_true => k_is)
    (case l_law_true => k_is)
    (case c_law_true => k_is)
    (case k_law_true => k_is)
    (case a_law_fact => k_is)
    (case l_law_fact => k_is)
    (case c_law_fact => k_is)
    (case k_law_fact => k_is)
    (case a_law_as_row => k_is)
    (case l_law_as_row => k_is)
    (case c_law_as_row => k_is)
    (case k_law_as_row => k_is)
    (case a_law_as_literal => k_is)
    (case l_law_as_literal => k_is)
    (case c_law_as_literal => k_is)
    (case k_law_as_literal => k_is)
    (case a_law_negation => k_is)
    (case l_law_negation => k_is)
    (case c_law_negation => k_is)
    (case k_law_negation => k_is)
    (case a_law_grown => k_is)
    (case l_law_grown => k_is)
    (case c_law_grown => k_is)
    (case k_law_grown => k_is)
    (case a_law => k_is)
    (case l_law => k_is)
    (case c_law => k_is)
    (case k_law => k_is)
    (case z_len => k_is)
    (case z_int => k_is)
    (case z_list => k_is)
    (case z_isinstance => k_is)
    (case z_bool => k_is)
    (case z_tuple => k_is)
    (case z_range => k_is)
    (case z_any => k_is)
    (case z_set => k_is)
    (case z_sorted => k_is)
#print axioms PySem.Challenge.cw_commonground_k13_facts_and_their_forms_holds
