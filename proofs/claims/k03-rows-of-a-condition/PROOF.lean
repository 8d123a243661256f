import PyProof.Rows.All
import Wide.All
import OpenK.AllK
import Wide.FinOn
import HandS.ForMost
import HandS.Wide
import HandS.IsInst
import HandS.Evl
import HandS.Walk
import HandS.Conv
import PySem.Challenge.RW_commonground_k03_rows_of_a_condition
set_option Elab.async false
set_option linter.all false
set_option maxRecDepth 100000
set_option maxHeartbeats 4000000

/-! ### ground: calls by a bundle, frames, step rules -/
namespace CG
open PySem L2

structure Is (P : Program) (w : World) (K : PySem.W.Frag) (mg : Str → Option Value) (base : Heap) (CX : CXT) (k : Nat) (x : Str) (ps : List Str) (sp : Sp) : Prop where
  ex : ∃ (f : Addr) (fd : FuncData), FnOk P w K mg base CX k f fd ps sp ∧ mg x = some (.ref f) ∧ PySem.W.keepIn K (.ref f) = true ∧ Binds K fd ps []

def tCl (sp : Sp) (E : XK) (t : TA) : TE := fun σ H Q => t σ H fun vs H1 => sp vs H1 Q E
section
variable {X : Cx} {CX : CXT} {k : Nat} {x : Str} {ps : List Str} {sp : Sp} {E : XK} {t : TA} {p pos : Pos} {e : Expr} {es : List Expr}
theorem pe_is (D : Is X.prog X.w X.K X.mg X.base CX k x ps sp) (hr : Room k X.A) (hg : Gl X x) (hx : Passes CX X E) (ha : PA X (e :: es) t) (hdb : (x == ("__debug__" : Str)) = false := by decide)
    (he : starEach (e :: es) X.env = (false, eval e X.env) :: starEach es X.env := by rfl) (hpl : (backTo pos (starEach es X.env)).any (·.1) = false := by rfl) : PE X (.Call (.Name x p) (e :: es) [] pos) (tCl sp E t) := by
  obtain ⟨f, fd, F, hm, hk, hb⟩ := D.ex
  have q := pe_call (p := p) F hr hg hm hk hb Paired.nil hx ha hdb he hpl
  have e1 : tCall sp [] E t = tCl sp E t := by
    funext σ H Q
    show (t σ H fun vs H1 => sp (vs ++ []) H1 Q E) = (t σ H fun vs H1 => sp vs H1 Q E)
    simp only [List.append_nil]
  rw [← e1]
  exact q
theorem pe_gc {v : V} {j : Pos} (hg : Gl X x) (hm : ∃ u, X.mg x = some u ∧ RelV v u) (hdb : (x == ("__debug__" : Str)) = false := by decide) (hnm : x ≠ "__name__" := by decide) : PE X (.Name x j) (tC v) := by
  obtain ⟨u, h1, h2⟩ := hm
  exact pe_glob hg h1 h2 hdb
end

/-- all that is tracked stands, but at S, where things are written -/
structure Kp (S : List Addr) (H H' : Hp) : Prop where
  k : ∀ b o, ¬ b ∈ S → H b = some o → H' b = some o
  mu : ∀ b, b ∈ S → Mut (H b)
/-- the same from the entry: what is new since is free -/
def Fm (S : List Addr) (H H' : Hp) : Prop := ∀ b o, ¬ b ∈ S → H b = some o → H' b = some o
section
variable {S S' : List Addr} {H H0 H1 H2 : Hp} {a p : Addr} {o o' : HO} {xs : List V} {K : PySem.W.Frag}
theorem Fm.start : Fm S H H := fun _ _ _ h => h
theorem Kp.refl : Kp [] H H := ⟨fun _ _ _ h => h, fun _ h => nomatch h⟩
theorem Kp.new (hp : H p = none) : Kp [] H (upd H p o) := ⟨fun b u _ h => by rw [upd_ne (ne_of_none h hp)]; exact h, fun _ h => nomatch h⟩
theorem Kp.put (hp : H p = some o) (hm : Mut (some o)) : Kp [p] H (upd H p o') := ⟨fun b u hb h => by rw [upd_ne (fun e => hb (by simp [e]))]; exact h, fun b hb => by
  rw [List.mem_singleton] at hb
  subst hb
  rw [hp]
  exact hm⟩
theorem Fm.go (f : Fm S H0 H) (k : Kp S' H H1) (h : ∀ a, a ∈ S' → a ∈ S ∨ H0 a = none) : Fm S H0 H1 := fun b o hb e => by
  refine k.k b o (fun hm => ?_) (f b o hb e)
  rcases h b hm with q | q
  · exact hb q
  · rw [q] at e
    cases e
theorem Fm.go0 (f : Fm S H0 H) (k : Kp [] H H1) : Fm S H0 H1 := f.go k fun _ h => nomatch h
theorem Fm.kp (f : Fm S H0 H) (mu : ∀ b, b ∈ S → Mut (H0 b)) : Kp S H0 H := ⟨f, mu⟩
theorem Fm.free (f : Fm S H0 H) (h : H p = none) (hs : ∀ b, b ∈ S → ∃ o, H b = some o) : H0 p = none := by
  cases q : H0 p with
  | none => rfl
  | some o =>
    by_cases hb : p ∈ S
    · obtain ⟨o, e⟩ := hs p hb
      rw [h] at e
      cases e
    · rw [f p o hb q] at h
      cases h
theorem Kp.free (f : Kp S H0 H) (h : H p = none) (hs : ∀ b, b ∈ S → ∃ o, H b = some o) : H0 p = none := Fm.free (S := S) f.k h hs
theorem Kp.free0 (f : Kp [] H0 H) (h : H p = none) : H0 p = none := f.free h fun _ hm => by cases hm
theorem Kp.get (k : Kp S H H1) (hn : ¬ a ∈ S) (h : H a = some o) : H1 a = some o := k.k _ _ hn h
theorem Kp.get0 (k : Kp [] H H1) (h : H a = some o) : H1 a = some o := k.k _ _ (fun h => nomatch h) h
theorem Kp.get1 (k : Kp [p] H H1) (hn : a ≠ p) (h : H a = some o) : H1 a = some o := k.k _ _ (fun h => hn (by simpa using h)) h
theorem Kp.tup (k : Kp S H H1) (h : SqT K H a xs) : SqT K H1 a xs := by
  rcases h with (h | ⟨u, h⟩) | h
  · exact .inl (.inl (k.k _ _ (fun hm => by have q := k.mu _ hm; rw [h] at q; exact q) h))
  · exact .inl (.inr ⟨u, k.k _ _ (fun hm => by have q := k.mu _ hm; rw [h] at q; exact q) h⟩)
  · exact .inr h
theorem Kp.trans (a : Kp [] H0 H1) (b : Kp [] H1 H2) : Kp [] H0 H2 := ⟨fun c o _ h => b.get0 (a.get0 h), fun _ h => nomatch h⟩
theorem Kp.tr (a : Kp S H0 H1) (b : Kp S' H1 H2) (h : ∀ x, x ∈ S' → x ∈ S ∨ H0 x = none) : Kp S H0 H2 := ⟨fun c o hc e => b.k c o (fun hm => by
  rcases h c hm with q | q
  · exact hc q
  · rw [q] at e
    cases e) (a.k c o hc e), a.mu⟩
theorem Kp.tr0 (b : Kp [] H1 H2) (a : Kp S H0 H1) : Kp S H0 H2 := a.tr b fun _ h => by cases h
theorem Kp.tr1 (b : Kp S H1 H2) (a : Kp S H0 H1) : Kp S H0 H2 := a.tr b fun _ h => .inl h
theorem Kp.trN (b : Kp [p] H1 H2) (a : Kp S H0 H1) (hp : H0 p = none) : Kp S H0 H2 := a.tr b fun x hx => by
  rw [List.mem_singleton] at hx
  subst hx
  exact .inr hp
theorem Kp.base (mu : ∀ b, b ∈ S → Mut (H b)) : Kp S H H := ⟨fun _ _ _ h => h, mu⟩
theorem Kp.fresh (k : Kp S H0 H1) (h : H1 p = none) (hs : ∀ b, b ∈ S → ∃ o, H1 b = some o) : ∀ x, x ∈ [p] → x ∈ S ∨ H0 x = none := fun x hx => by
  rw [List.mem_singleton] at hx
  subst hx
  exact .inr (k.free h hs)
theorem ne_newL (hp : H p = none) (h : H a = some o) : a ≠ p := ne_of_none h hp
theorem ne_newR (hp : H p = none) (h : H a = some o) : p ≠ a := (ne_of_none h hp).symm
theorem SqT.ty (h : SqT K H a xs) : TyX K H (.ref a) (.type "tuple") := by
  rcases h with (h | ⟨u, h⟩) | ⟨o, its, n, h1, h2, _⟩
  · exact .base (.tup h)
  · exact .fTuple h
  · exact .kTuple h1 h2
end

/-! ### step rules: from the head of a reading -/
/-- one step of a reading, many -/
class Stp (g : Prop) (n : outParam Prop) : Prop where
  imp : n → g
class Stps (g : Prop) (n : outParam Prop) : Prop where
  imp : n → g
instance (priority := low) stps_nil {g : Prop} : Stps g g := ⟨id⟩
instance stps_cons {g m n : Prop} [a : Stp g m] [b : Stps m n] : Stps g n := ⟨fun h => a.imp (b.imp h)⟩
/-- one step at least -/
theorem go1 {g m n : Prop} (a : Stp g m) (b : Stps m n) (h : n) : g := a.imp (b.imp h)
class Look (σ : St) (n : Nat) (v : outParam V) : Prop where
  e : σ[n]? = some (some v)
instance look0 {v : V} {σ : St} : Look (some v :: σ) 0 v := ⟨rfl⟩
instance lookS {v : V} {x : Option V} {σ : St} {n : Nat} [a : Look σ n v] : Look (x :: σ) (n + 1) v := ⟨by rw [List.getElem?_cons_succ]; exact a.e⟩
class SetS (σ : St) (n : Nat) (v : V) (σ' : outParam St) : Prop where
  e : σ.set n (some v) = σ'
instance set0 {v : V} {x : Option V} {σ : St} : SetS (x :: σ) 0 v (some v :: σ) := ⟨rfl⟩
instance setS {v : V} {x : Option V} {σ σ' : St} {n : Nat} [a : SetS σ n v σ'] : SetS (x :: σ) (n + 1) v (x :: σ') := ⟨by rw [List.set_cons_succ, a.e]⟩
def mkT (xs : List V) (H : Hp) (Q : VK) : Prop := xs.length ≤ sizeLine ∧ ∀ p, H p = none → Q (.ref p) (upd H p (.tup xs))
def mkL (xs : List V) (H : Hp) (Q : VK) : Prop := xs.length ≤ sizeLine ∧ ∀ p, H p = none → Q (.ref p) (upd H p (.lst xs))
def asB (x : V) (R : Bool → Prop) : Prop := ∃ k, x = .bl k ∧ R k
/-- two ways by a test -/
def iteP (b : Bool) (A B : Prop) : Prop := if b = true then A else B
theorem iteP_of {b : Bool} {A B : Prop} (h : iteP b A B) : if b = true then A else B := h
section
variable {σ σ' : St} {H : Hp} {Q : VK} {ta tb tc te : TE} {v : V} {i j : Int} {n : Nat} {K : PySem.W.Frag} {E : XK} {C : Int → Int → Prop} {gi : Int → Int → V} {nx bk ct : St → Hp → Prop} {rt : VK}
instance s_seq {t u : TS} : Stp (tSeq t u ⟨nx, rt, bk, ct⟩ σ H) (t ⟨u ⟨nx, rt, bk, ct⟩, rt, bk, ct⟩ σ H) := ⟨id⟩
instance s_next : Stp (tNext ⟨nx, rt, bk, ct⟩ σ H) (nx σ H) := ⟨id⟩
instance s_set : Stp (tAsg te (gName n) ⟨nx, rt, bk, ct⟩ σ H) (te σ H fun x H1 => gName n x σ H1 nx) := ⟨id⟩
instance s_asg {g : TG} : Stp (tAsg te g ⟨nx, rt, bk, ct⟩ σ H) (te σ H fun x H1 => g x σ H1 nx) := ⟨id⟩
instance s_gN {R : St → Hp → Prop} [a : SetS σ n v σ'] : Stp (gName n v σ H R) (R σ' H) := ⟨fun h => by show R (σ.set n (some v)) H; rw [a.e]; exact h⟩
instance s_drop : Stp (tDrop te ⟨nx, rt, bk, ct⟩ σ H) (te σ H fun _ H1 => nx σ H1) := ⟨id⟩
instance s_ret : Stp (tRet te ⟨nx, rt, bk, ct⟩ σ H) (te σ H rt) := ⟨id⟩
instance s_retN : Stp (tRetN ⟨nx, rt, bk, ct⟩ σ H) (rt .non H) := ⟨id⟩
instance s_break : Stp (tBreak ⟨nx, rt, bk, ct⟩ σ H) (bk σ H) := ⟨id⟩
instance s_cont : Stp (tCont ⟨nx, rt, bk, ct⟩ σ H) (ct σ H) := ⟨id⟩
instance s_ifS {c : TT} {t u : TS} {D : Ends} : Stp (tIfS c t u D σ H) (c σ H fun b H1 => iteP b (t D σ H1) (u D σ H1)) := ⟨id⟩
instance s_var [a : Look σ n v] : Stp (tVar n σ H Q) (Q v H) := ⟨fun h => ⟨v, a.e, h⟩⟩
instance s_c : Stp (tC v σ H Q) (Q v H) := ⟨id⟩
instance s_op {r : R2} : Stp (tOp r ta tb σ H Q) (ta σ H fun x H1 => tb σ H1 fun y H2 => r x y H2 Q) := ⟨id⟩
instance s_un {r : V → Hp → VK → Prop} : Stp (tUn r ta σ H Q) (ta σ H fun x H1 => r x H1 Q) := ⟨id⟩
instance s_rU {g : Int → V} : Stp (rU g (.int i) H Q) (Q (g i) H) := ⟨fun h => ⟨i, rfl, h⟩⟩
instance s_rI0 : Stp (rI0 gi (.int i) (.int j) H Q) (Q (gi i j) H) := ⟨fun h => ⟨i, j, rfl, rfl, h⟩⟩
theorem r_rI (hc : C i j) (h : Q (gi i j) H) : rI C gi (.int i) (.int j) H Q := ⟨i, j, rfl, rfl, hc, h⟩
instance s_pow6 : Stp (rI CPow (fun i j => V.int (i ^ j.toNat)) (.int 10) (.int 6) H Q) (Q (.int 1000000) H) := ⟨fun h => ⟨10, 6, rfl, rfl, ⟨by decide, by decide, by decide⟩, h⟩⟩
instance s_pow7 : Stp (rI CPow (fun i j => V.int (i ^ j.toNat)) (.int 10) (.int 7) H Q) (Q (.int 10000000) H) := ⟨fun h => ⟨10, 7, rfl, rfl, ⟨by decide, by decide, by decide⟩, h⟩⟩
instance s_pow8 : Stp (rI CPow (fun i j => V.int (i ^ j.toNat)) (.int 10) (.int 8) H Q) (Q (.int 100000000) H) := ⟨fun h => ⟨10, 8, rfl, rfl, ⟨by decide, by decide, by decide⟩, h⟩⟩
instance s_pow9 : Stp (rI CPow (fun i j => V.int (i ^ j.toNat)) (.int 10) (.int 9) H Q) (Q (.int 1000000000) H) := ⟨fun h => ⟨10, 9, rfl, rfl, ⟨by decide, by decide, by decide⟩, h⟩⟩
instance s_pow10 : Stp (rI CPow (fun i j => V.int (i ^ j.toNat)) (.int 10) (.int 10) H Q) (Q (.int 10000000000) H) := ⟨fun h => ⟨10, 10, rfl, rfl, ⟨by decide, by decide, by decide⟩, h⟩⟩
instance s_pow12 : Stp (rI CPow (fun i j => V.int (i ^ j.toNat)) (.int 10) (.int 12) H Q) (Q (.int 1000000000000) H) := ⟨fun h => ⟨10, 12, rfl, rfl, ⟨by decide, by decide, by decide⟩, h⟩⟩
instance s_pow21 : Stp (rI CPow (fun i j => V.int (i ^ j.toNat)) (.int 10) (.int 21) H Q) (Q (.int 1000000000000000000000) H) := ⟨fun h => ⟨10, 21, rfl, rfl, ⟨by decide, by decide, by decide⟩, h⟩⟩
instance s_pow30 : Stp (rI CPow (fun i j => V.int (i ^ j.toNat)) (.int 10) (.int 30) H Q) (Q (.int 1000000000000000000000000000000) H) := ⟨fun h => ⟨10, 30, rfl, rfl, ⟨by decide, by decide, by decide⟩, h⟩⟩
instance s_pow40 : Stp (rI CPow (fun i j => V.int (i ^ j.toNat)) (.int 10) (.int 40) H Q) (Q (.int 10000000000000000000000000000000000000000) H) := ⟨fun h => ⟨10, 40, rfl, rfl, ⟨by decide, by decide, by decide⟩, h⟩⟩
instance s_pow60 : Stp (rI CPow (fun i j => V.int (i ^ j.toNat)) (.int 10) (.int 60) H Q) (Q (.int 1000000000000000000000000000000000000000000000000000000000000) H) := ⟨fun h => ⟨10, 60, rfl, rfl, ⟨by decide, by decide, by decide⟩, h⟩⟩
instance s_eqI : Stp (rEq (.int i) (.int j) H Q) (Q (.bl (decide (i = j))) H) := ⟨fun h => ⟨rfl, by
  have e : decide (V.int i = V.int j) = decide (i = j) := by simp
  rw [e]
  exact h⟩⟩
instance s_neI : Stp (rNe (.int i) (.int j) H Q) (Q (.bl (decide (i ≠ j))) H) := ⟨fun h => ⟨rfl, by
  have e : (!decide (V.int i = V.int j)) = decide (i ≠ j) := by simp
  rw [e]
  exact h⟩⟩
instance s_eqS {a b : Str} : Stp (rEq (.str a) (.str b) H Q) (Q (.bl (decide (a = b))) H) := ⟨fun h => ⟨rfl, by
  have e : decide (V.str a = V.str b) = decide (a = b) := by simp
  rw [e]
  exact h⟩⟩
instance s_neS {a b : Str} : Stp (rNe (.str a) (.str b) H Q) (Q (.bl (decide (a ≠ b))) H) := ⟨fun h => ⟨rfl, by
  have e : (!decide (V.str a = V.str b)) = decide (a ≠ b) := by simp
  rw [e]
  exact h⟩⟩
instance s_eqB {a b : Bool} : Stp (rEq (.bl a) (.bl b) H Q) (Q (.bl (decide (a = b))) H) := ⟨fun h => ⟨rfl, by
  have e : decide (V.bl a = V.bl b) = decide (a = b) := by simp
  rw [e]
  exact h⟩⟩
instance s_test {R : Bool → Hp → Prop} : Stp (tTest te σ H R) (te σ H fun x H1 => asB x fun k => R k H1) := ⟨id⟩
instance s_B {R : Bool → Hp → Prop} : Stp (tB te σ H R) (te σ H fun x H1 => asB x fun k => R k H1) := ⟨id⟩
instance s_asB {b : Bool} {R : Bool → Prop} : Stp (asB (.bl b) R) (R b) := ⟨fun h => ⟨b, rfl, h⟩⟩
instance s_and {t u : TT} {R : Bool → Hp → Prop} : Stp (tAnd t u σ H R) (t σ H fun c H1 => iteP c (u σ H1 R) (R false H1)) := ⟨id⟩
instance s_or {t u : TT} {R : Bool → Hp → Prop} : Stp (tOr t u σ H R) (t σ H fun c H1 => iteP c (R true H1) (u σ H1 R)) := ⟨id⟩
instance s_not {t : TT} {R : Bool → Hp → Prop} : Stp (tNot t σ H R) (t σ H fun c H1 => R (!c) H1) := ⟨id⟩
instance s_andV : Stp (tAndV ta tb σ H Q) (ta σ H fun x H1 => asB x fun c => iteP c (tb σ H1 Q) (Q (.bl false) H1)) := ⟨id⟩
instance s_orV : Stp (tOrV ta tb σ H Q) (ta σ H fun x H1 => asB x fun c => iteP c (Q (.bl true) H1) (tb σ H1 Q)) := ⟨id⟩
instance s_notV : Stp (tNotV ta σ H Q) (ta σ H fun x H1 => asB x fun c => Q (.bl (!c)) H1) := ⟨id⟩
instance s_if {t : TT} : Stp (tIf t ta tb σ H Q) (t σ H fun c H1 => iteP c (ta σ H1 Q) (tb σ H1 Q)) := ⟨id⟩
instance s_chain {r r' : R2} : Stp (tChain r r' ta tb tc σ H Q) (ta σ H fun x H1 => tb σ H1 fun y H2 => r x y H2 fun z H3 => asB z fun k => iteP k (tc σ H3 fun w' H4 => r' y w' H4 Q) (Q (.bl false) H3)) := ⟨id⟩
instance s_nil {R : List V → Hp → Prop} : Stp (tNil σ H R) (R [] H) := ⟨id⟩
instance s_cons {tr : TA} {R : List V → Hp → Prop} : Stp (tCons ta tr σ H R) (ta σ H fun x H1 => tr σ H1 fun xs H2 => R (x :: xs) H2) := ⟨id⟩
instance s_tTup {t : TA} : Stp (tTup t σ H Q) (t σ H fun xs H1 => mkT xs H1 Q) := ⟨id⟩
instance s_tLst {t : TA} : Stp (tLst t σ H Q) (t σ H fun xs H1 => mkL xs H1 Q) := ⟨id⟩
instance s_cB {t : TA} {r : List V → Hp → VK → Prop} : Stp (tCB r t σ H Q) (t σ H fun vs H1 => r vs H1 Q) := ⟨id⟩
instance s_cl {sp : Sp} {t : TA} : Stp (tCl sp E t σ H Q) (t σ H fun vs H1 => sp vs H1 Q E) := ⟨id⟩
instance s_aug {ti : TIp} [a : Look σ n v] : Stp (tAug n te ti ⟨nx, rt, bk, ct⟩ σ H) (te σ H fun y H1 => ti v y H1 fun z H2 => gName n z σ H2 nx) := ⟨fun h => ⟨v, a.e, h⟩⟩
instance s_ipI {f : Int → Int → Int} : Stp (ipI f (.int i) (.int j) H Q) (Q (.int (f i j)) H) := ⟨fun h => ⟨i, j, rfl, rfl, h⟩⟩
instance s_iteT {A B : Prop} : Stp (iteP true A B) A := ⟨fun h => iteT h⟩
instance s_iteF {A B : Prop} : Stp (iteP false A B) B := ⟨fun h => iteF h⟩
instance s_iteNT {A B : Prop} : Stp (iteP (!true) A B) B := ⟨fun h => iteF h⟩
instance s_iteNF {A B : Prop} : Stp (iteP (!false) A B) A := ⟨fun h => iteT h⟩
theorem r_mkT {xs : List V} (hl : xs.length ≤ sizeLine) (h : ∀ p H2, H p = none → SqT K H2 p xs → Kp [] H H2 → Q (.ref p) H2) : mkT xs H Q :=
  ⟨hl, fun p hp => h p _ hp (SqT.of upd_same) (Kp.new hp)⟩
theorem r_mkL {xs : List V} (hl : xs.length ≤ sizeLine) (h : ∀ p H2, H p = none → H2 p = some (.lst xs) → Kp [] H H2 → Q (.ref p) H2) : mkL xs H Q :=
  ⟨hl, fun p hp => h p _ hp upd_same (Kp.new hp)⟩
theorem r_ixT {p : Addr} {xs : List V} (h : SqT K H p xs) (e : atI xs i = some v) (q : Q v H) : rIxT K (.ref p) (.int i) H Q := ⟨p, xs, i, v, rfl, rfl, h, e, q⟩
theorem r_ixL {p : Addr} {xs : List V} (h : H p = some (.lst xs)) (e : atI xs i = some v) (q : Q v H) : rIxL K (.ref p) (.int i) H Q := ⟨p, xs, i, v, rfl, rfl, SqL.of h, e, q⟩
theorem r_gTup {t : TGs} {m : Nat} {p : Addr} {xs : List V} {R : St → Hp → Prop} (h : SqT K H p xs) (e : xs.length = m) (q : t xs σ H R) : gTup K m t (.ref p) σ H R := ⟨p, xs, rfl, h, e, q⟩
instance s_gCons {t : TG} {u : TGs} {r : List V} {R : St → Hp → Prop} : Stp (gCons t u (v :: r) σ H R) (t v σ H fun σ' H' => u r σ' H' R) := ⟨fun h => ⟨v, r, rfl, h⟩⟩
instance s_gNil {R : St → Hp → Prop} : Stp (gNil [] σ H R) (R σ H) := ⟨fun h => ⟨rfl, h⟩⟩
instance s_gSub {s : TSet} {R : St → Hp → Prop} : Stp (gSub ta tb s v σ H R) (ta σ H fun o H1 => tb σ H1 fun i H2 => s o i v H2 fun H3 => R σ H3) := ⟨id⟩
theorem r_setL {p : Addr} {xs : List V} {m : Nat} {R : Hp → Prop} (h : H p = some (.lst xs)) (e : ixN xs.length i = some m) (q : ∀ H2, H2 p = some (.lst (xs.set m v)) → Kp [p] H H2 → R H2) : rSetL (.ref p) (.int i) v H R :=
  ⟨p, xs, i, m, rfl, rfl, h, e, q _ upd_same (Kp.put h trivial)⟩
theorem if_T {A B : Prop} {c : Prop} [Decidable c] (hc : c) (h : A) : iteP (decide c) A B := by
  unfold iteP
  rw [if_pos (decide_eq_true hc)]
  exact h
theorem if_F {A B : Prop} {c : Prop} [Decidable c] (hc : ¬ c) (h : B) : iteP (decide c) A B := by
  unfold iteP
  rw [if_neg (by rw [decide_eq_false hc]; decide)]
  exact h
theorem if_S {A B : Prop} {c : Prop} [Decidable c] (h : c → A) (h' : ¬ c → B) : iteP (decide c) A B := by
  by_cases hc : c
  · exact if_T hc (h hc)
  · exact if_F hc (h' hc)
theorem if_NT {A B : Prop} {c : Prop} [Decidable c] (hc : ¬ c) (h : A) : iteP (!decide c) A B := by
  rw [decide_eq_false hc]
  exact iteT h
theorem if_NF {A B : Prop} {c : Prop} [Decidable c] (hc : c) (h : B) : iteP (!decide c) A B := by
  rw [decide_eq_true hc]
  exact iteF h
theorem if_NS {A B : Prop} {c : Prop} [Decidable c] (h : ¬ c → A) (h' : c → B) : iteP (!decide c) A B := by
  by_cases hc : c
  · exact if_NF hc (h' hc)
  · exact if_NT hc (h hc)
theorem if_B {A B : Prop} {b : Bool} (h : b = true → A) (h' : b = false → B) : iteP b A B := by
  cases b
  · exact iteF (h' rfl)
  · exact iteT (h rfl)
end

/-! ### built-in calls by named rules -/
section
variable {X : Cx} {f : Value} {r r' : List V → Hp → VK → Prop}
theorem callR_imp (h : CallR X f r) (i : ∀ xs H Q, r' xs H Q → r xs H Q) : CallR X f r' := fun pins s σ H xs us Q I rx q => h pins s σ H xs us Q I rx (i _ _ _ q)
def rInt : List V → Hp → VK → Prop := fun xs H Q => (∃ i, xs = [.int i] ∧ Q (.int i) H) ∨ ∃ k, xs = [.bl k] ∧ Q (.int (if k then 1 else 0)) H
theorem cg_int : CallR X (.type "int") rInt := call_int1
def rLen (K : PySem.W.Frag) : List V → Hp → VK → Prop := fun xs H Q => ∃ p ys, xs = [.ref p] ∧ (SqL K H p ys ∨ SqT K H p ys) ∧ Q (.int ys.length) H
theorem cg_len : CallR X (.builtin "len") (rLen X.K) := call_len_seq
def rListOf (K : PySem.W.Frag) : List V → Hp → VK → Prop := fun xs H Q => ∃ p ys, xs = [.ref p] ∧ (SqL K H p ys ∨ SqT K H p ys) ∧ ∀ l, H l = none → Q (.ref l) (upd H l (.lst ys))
theorem cg_list : CallR X (.type "list") (rListOf X.K) := call_list_of
def rTupOf (K : PySem.W.Frag) : List V → Hp → VK → Prop := fun xs H Q => ∃ p ys, xs = [.ref p] ∧ ((SqL K H p ys ∧ ∀ l, H l = none → Q (.ref l) (upd H l (.tup ys))) ∨ (SqT K H p ys ∧ Q (.ref p) H))
theorem cg_tuple : CallR X (.type "tuple") (rTupOf X.K) := call_tuple_of
def rAbs : List V → Hp → VK → Prop := fun xs H Q => ∃ i, xs = [.int i] ∧ Q (.int (if i < 0 then -i else i)) H
theorem cg_abs : CallR X (.builtin "abs") rAbs := call_abs
end
section
variable {H : Hp} {Q : VK} {K : PySem.W.Frag} {i : Int} {p : Addr} {xs : List V}
instance s_int : Stp (rInt [.int i] H Q) (Q (.int i) H) := ⟨fun q => .inl ⟨i, rfl, q⟩⟩
instance s_intB {b : Bool} : Stp (rInt [.bl b] H Q) (Q (.int (if b then 1 else 0)) H) := ⟨fun q => .inr ⟨b, rfl, q⟩⟩
theorem r_lenT (h : SqT K H p xs) (q : Q (.int xs.length) H) : rLen K [.ref p] H Q := ⟨p, xs, rfl, .inr h, q⟩
theorem r_lenL (h : H p = some (.lst xs)) (q : Q (.int xs.length) H) : rLen K [.ref p] H Q := ⟨p, xs, rfl, .inl (SqL.of h), q⟩
theorem r_listL (h : SqL K H p xs) (q : ∀ l H2, H l = none → H2 l = some (.lst xs) → Kp [] H H2 → Q (.ref l) H2) : rListOf K [.ref p] H Q := ⟨p, xs, rfl, .inl h, fun l hl => q l _ hl upd_same (Kp.new hl)⟩
theorem r_tupleL (h : H p = some (.lst xs)) (q : ∀ l H2, H l = none → SqT K H2 l xs → Kp [] H H2 → Q (.ref l) H2) : rTupOf K [.ref p] H Q := ⟨p, xs, rfl, .inl ⟨SqL.of h, fun l hl => q l _ hl (SqT.of upd_same) (Kp.new hl)⟩⟩
instance s_abs : Stp (rAbs [.int i] H Q) (Q (.int (if i < 0 then -i else i)) H) := ⟨fun q => ⟨i, rfl, q⟩⟩
theorem r_isi {v c : V} {t u : Value} {b : Bool} (hc : ClsV c u) (ht : TyX K H v t) (hk : PySem.W.kitOne K t u = some b) (q : Q (.bl b) H) : rIsi K [v, c] H Q := ⟨v, c, t, u, b, rfl, hc, ht, hk, q⟩
theorem r_inL {neg : Bool} {x : V} {b : Bool} (h : H p = some (.lst xs)) (fx : flatV x = true) (fs : xs.all flatV = true) (e : (if neg then !inV x xs else inV x xs) = b) (q : Q (.bl b) H) : rIn K neg x (.ref p) H Q := ⟨p, xs, rfl, .inl (SqL.of h), fx, fs, by rw [e]; exact q⟩
theorem r_inT {neg : Bool} {x : V} {b : Bool} (h : SqT K H p xs) (fx : flatV x = true) (fs : xs.all flatV = true) (e : (if neg then !inV x xs else inV x xs) = b) (q : Q (.bl b) H) : rIn K neg x (.ref p) H Q := ⟨p, xs, rfl, .inr h, fx, fs, by rw [e]; exact q⟩
end
/-! ### data that never changes -/
mutual
inductive Im (K : PySem.W.Frag) (H : Hp) : V → PyData → Prop
  | non : Im K H .non .none
  | bl (b : Bool) : Im K H (.bl b) (.bool b)
  | int (i : Int) : Im K H (.int i) (.int i)
  | str (x : Str) : Im K H (.str x) (.str x)
  | tup {a : Addr} {xs : List V} {ds : List PyData} : SqT K H a xs → ImAll K H xs ds → Im K H (.ref a) (.tuple ds)
inductive ImAll (K : PySem.W.Frag) (H : Hp) : List V → List PyData → Prop
  | nil : ImAll K H [] []
  | cons {v : V} {vs : List V} {d : PyData} {ds : List PyData} : Im K H v d → ImAll K H vs ds → ImAll K H (v :: vs) (d :: ds)
end
section
variable {K : PySem.W.Frag} {H H' : Hp} {S : List Addr} {p : Addr} {xs : List V} {ds : List PyData} {x : V} {d : PyData}
mutual
theorem Kp.im (k : Kp S H H') : ∀ {x : V} {d : PyData}, Im K H x d → Im K H' x d
  | _, _, .non => .non
  | _, _, .bl b => .bl b
  | _, _, .int i => .int i
  | _, _, .str z => .str z
  | _, _, .tup h a => .tup (k.tup h) (Kp.imAll k a)
theorem Kp.imAll (k : Kp S H H') : ∀ {xs : List V} {ds : List PyData}, ImAll K H xs ds → ImAll K H' xs ds
  | _, _, .nil => .nil
  | _, _, .cons h a => .cons (Kp.im k h) (Kp.imAll k a)
end
mutual
theorem Im.dp : ∀ {x : V} {d : PyData}, Im K H x d → Dp K H x d
  | _, _, .non => .non
  | _, _, .bl b => .bl b
  | _, _, .int i => .int i
  | _, _, .str z => .str z
  | _, _, .tup h a => .tup h (ImAll.dp a)
theorem ImAll.dp : ∀ {xs : List V} {ds : List PyData}, ImAll K H xs ds → DpAll K H xs ds
  | _, _, .nil => .nil
  | _, _, .cons h a => .cons h.dp (ImAll.dp a)
end
theorem ImAll.length : ∀ {xs : List V} {ds : List PyData}, ImAll K H xs ds → xs.length = ds.length
  | _, _, .nil => rfl
  | _, _, .cons _ a => by rw [List.length_cons, List.length_cons, ImAll.length a]
theorem ImAll.get : ∀ {xs : List V} {ds : List PyData} {i : Nat} {x : V}, ImAll K H xs ds → xs[i]? = some x → ∃ d, ds[i]? = some d ∧ Im K H x d
  | _, _, _, _, .nil, e => by simp at e
  | _, _, 0, _, .cons h _, e => by simp at e; subst e; exact ⟨_, rfl, h⟩
  | _, _, i + 1, _, .cons _ a, e => by
    obtain ⟨d, h1, h2⟩ := ImAll.get (i := i) a (by simpa using e)
    exact ⟨d, by simpa using h1, h2⟩
theorem ImAll.at : ∀ {xs : List V} {ds : List PyData} {i : Nat} {d : PyData}, ImAll K H xs ds → ds[i]? = some d → ∃ x, xs[i]? = some x ∧ Im K H x d
  | _, _, _, _, .nil, e => by simp at e
  | _, _, 0, _, .cons h _, e => by simp at e; subst e; exact ⟨_, rfl, h⟩
  | _, _, i + 1, _, .cons _ a, e => by
    obtain ⟨x, h1, h2⟩ := ImAll.at (i := i) a (by simpa using e)
    exact ⟨x, by simpa using h1, h2⟩
theorem ImAll.snoc : ∀ {xs : List V} {ds : List PyData} {x : V} {d : PyData}, ImAll K H xs ds → Im K H x d → ImAll K H (xs ++ [x]) (ds ++ [d])
  | _, _, _, _, .nil, h => .cons h .nil
  | _, _, _, _, .cons h a, h' => .cons h (ImAll.snoc a h')
/-- the data of a flat value, back -/
def flatD : PyData → Option V
  | .none => some .non
  | .bool b => some (.bl b)
  | .int i => some (.int i)
  | .str x => some (.str x)
  | _ => Option.none
def flatDs : List PyData → Option (List V)
  | [] => some []
  | d :: ds => match flatD d, flatDs ds with
    | some x, some xs => some (x :: xs)
    | _, _ => Option.none
theorem Im.flat (h : Im K H x d) {y : V} (e : flatD d = some y) : x = y := by
  cases h with
  | tup _ _ => cases e
  | _ => exact Option.some.inj e
theorem ImAll.flat : ∀ {xs : List V} {ds : List PyData} {ys : List V}, ImAll K H xs ds → flatDs ds = some ys → xs = ys
  | _, _, _, .nil, e => Option.some.inj e
  | _, d :: ds, ys, .cons (v := v) h a, e => by
    unfold flatDs at e
    split at e
    · rename_i y zs h1 h2
      rw [h.flat h1, ImAll.flat a h2]
      exact Option.some.inj e
    · cases e
theorem Im.open (h : Im K H (.ref p) (.tuple ds)) : ∃ xs, SqT K H p xs ∧ ImAll K H xs ds := by
  cases h with
  | tup h a => exact ⟨_, h, a⟩
theorem Im.sq (h : Im K H (.ref p) (.tuple ds)) {ys : List V} (e : flatDs ds = some ys) : SqT K H p ys := by
  obtain ⟨xs, h1, h2⟩ := h.open
  rw [← h2.flat e]
  exact h1
theorem Im.isRef (h : Im K H x (.tuple ds)) : ∃ p, x = .ref p := by
  cases h with
  | tup h a => exact ⟨_, rfl⟩
theorem flatDs_ints : ∀ ns : List Int, flatDs (ns.map PyData.int) = some (ns.map V.int)
  | [] => rfl
  | n :: ns => by
    show (match flatD (.int n), flatDs (ns.map PyData.int) with | some x, some xs => some (x :: xs) | _, _ => Option.none) = _
    rw [flatDs_ints ns]
    rfl
theorem Im.ints {ns : List Int} (h : SqT K H p (ns.map V.int)) : Im K H (.ref p) (.tuple (ns.map .int)) := by
  refine .tup h ?_
  clear h
  induction ns with
  | nil => exact .nil
  | cons n ns ih => exact .cons (.int n) ih
end
/-! ### loops -/
def forS (J : It) (g : TG) (tb : TS) (D : Ends) (σ : St) (H : Hp) : Prop := ∃ W : Nat → Nat → St → Hp → Prop, (∃ m, W 0 m σ H) ∧ ∀ i m σ H, W i m σ H →
  (J.stop i H ∧ D.nx σ H) ∨ (J.go i H ∧ ∃ N : St → Hp → Prop, (∀ σ' H', N σ' H' → ∃ m', m' < m ∧ W (i + 1) m' σ' H') ∧ ∀ x H', J.yld i H x H' → g x σ H' fun σ2 H2 => tb { D with nx := N, ct := N, bk := D.nx } σ2 H2)
def isL (K : PySem.W.Frag) (x : V) (H : Hp) (R : It → Hp → Prop) : Prop := ∃ a, x = .ref a ∧ (∃ xs, SqL K H a xs) ∧ R (Itl K a) H
def isT (K : PySem.W.Frag) (x : V) (H : Hp) (R : It → Hp → Prop) : Prop := ∃ a, x = .ref a ∧ (∃ xs, SqT K H a xs) ∧ R (Itt K a) H
def isR1 (vs : List V) (H : Hp) (R : It → Hp → Prop) : Prop := ∃ j : Int, vs = [.int j] ∧ -(2 ^ 62) ≤ j ∧ j < 2 ^ 62 ∧ R (Itr 0 j.toNat) H
section
variable {σ : St} {H : Hp} {K : PySem.W.Frag} {p : Addr} {xs : List V} {g : TG} {tb : TS} {nx bk ct : St → Hp → Prop} {rt : VK} {D : Ends} {wi : TI} {tl : TE} {ta : TA} {R : It → Hp → Prop} {lo : Int} {n : Nat}
instance s_for : Stp (tFor wi g tb D σ H) (wi σ H fun J H1 => forS J g tb D σ H1) := ⟨id⟩
instance s_iL : Stp (iList K tl σ H R) (tl σ H fun x H1 => isL K x H1 R) := ⟨id⟩
instance s_iT : Stp (iTup K tl σ H R) (tl σ H fun x H1 => isT K x H1 R) := ⟨id⟩
instance s_iR1 : Stp (iRng1 ta σ H R) (ta σ H fun vs H1 => isR1 vs H1 R) := ⟨id⟩
theorem r_isL (h : H p = some (.lst xs)) (q : R (Itl K p) H) : isL K (.ref p) H R := ⟨p, rfl, ⟨xs, SqL.of h⟩, q⟩
theorem r_isT (h : SqT K H p xs) (q : R (Itt K p) H) : isT K (.ref p) H R := ⟨p, rfl, ⟨xs, h⟩, q⟩
theorem r_isR1 {j : Int} (h : -1000000000 ≤ j ∧ j ≤ 1000000000) (q : R (Itr 0 j.toNat) H) : isR1 [.int j] H R := ⟨j, rfl, by omega, by omega, q⟩
/-- a for over a list that stands at p all along -/
theorem r_forL (xs : List V) (Pv : Nat → St → Hp → Prop) (h0 : Pv 0 σ H) (hG : ∀ i σ' H', Pv i σ' H' → H' p = some (.lst xs))
    (hs : ∀ i x σ' H', xs[i]? = some x → Pv i σ' H' → g x σ' H' fun σ2 H2 => tb ⟨Pv (i + 1), rt, nx, Pv (i + 1)⟩ σ2 H2) (hd : ∀ σ' H', Pv xs.length σ' H' → nx σ' H') : forS (Itl K p) g tb ⟨nx, rt, bk, ct⟩ σ H :=
  for_it (walk_list (K := K) (a := p) (xs := xs)) Pv h0 (fun i σ' H' _ h => SqL.of (hG i σ' H' h)) (fun i x σ' H1 H2 _ h y => by obtain ⟨rfl, y⟩ := y; exact hs i x σ' _ y h) hd
theorem r_forLI (ns : List Int) (Pv : Nat → St → Hp → Prop) (h0 : Pv 0 σ H) (hG : ∀ i σ' H', Pv i σ' H' → H' p = some (.lst (ns.map V.int)))
    (hs : ∀ i (y : Int) σ' H', ns[i]? = some y → Pv i σ' H' → g (.int y) σ' H' fun σ2 H2 => tb ⟨Pv (i + 1), rt, nx, Pv (i + 1)⟩ σ2 H2) (hd : ∀ σ' H', Pv ns.length σ' H' → nx σ' H') : forS (Itl K p) g tb ⟨nx, rt, bk, ct⟩ σ H := by
  refine r_forL (ns.map V.int) Pv h0 hG (fun i x σ' H' e h => ?_) (by rw [List.length_map]; exact hd)
  rw [List.getElem?_map] at e
  cases q : ns[i]? with
  | none =>
    rw [q] at e
    cases e
  | some y =>
    rw [q] at e
    cases e
    exact hs i y σ' H' q h
theorem r_forT (xs : List V) (Pv : Nat → St → Hp → Prop) (h0 : Pv 0 σ H) (hG : ∀ i σ' H', Pv i σ' H' → SqT K H' p xs)
    (hs : ∀ i x σ' H', xs[i]? = some x → Pv i σ' H' → g x σ' H' fun σ2 H2 => tb ⟨Pv (i + 1), rt, nx, Pv (i + 1)⟩ σ2 H2) (hd : ∀ σ' H', Pv xs.length σ' H' → nx σ' H') : forS (Itt K p) g tb ⟨nx, rt, bk, ct⟩ σ H :=
  for_it (walk_tup (K := K) (a := p) (xs := xs)) Pv h0 (fun i σ' H' _ h => hG i σ' H' h) (fun i x σ' H1 H2 _ h y => by obtain ⟨rfl, y⟩ := y; exact hs i x σ' _ y h) hd
theorem r_forR (Pv : Nat → St → Hp → Prop) (h0 : Pv 0 σ H)
    (hs : ∀ i σ' H', i < n → Pv i σ' H' → g (.int (lo + (i : Int))) σ' H' fun σ2 H2 => tb ⟨Pv (i + 1), rt, nx, Pv (i + 1)⟩ σ2 H2) (hd : ∀ σ' H', Pv n σ' H' → nx σ' H') : forS (Itr lo n) g tb ⟨nx, rt, bk, ct⟩ σ H :=
  for_it walk_range Pv h0 (fun _ _ _ _ _ => trivial) (fun i x σ' H1 H2 hi h y => by obtain ⟨rfl, rfl⟩ := y; exact hs i σ' _ hi h) hd
theorem any_take {α : Type} {l : List α} {f : α → Bool} {i : Nat} {x : α} (h : l[i]? = some x) : (l.take (i + 1)).any f = ((l.take i).any f || f x) := by
  rw [List.take_add_one, h, List.any_append]
  simp
end
/-! ### comprehensions -/
def apS (D : Addr) (y : V) (H : Hp) (R : Hp → Prop) : Prop := ∃ acc, H D = some (.lst acc) ∧ acc.length < sizeLine ∧ R (upd H D (.lst (acc ++ [y])))
def wpS (σ2 σ : St) (vs : List Nat) (R : Prop) : Prop := wipe σ2 vs = wipe σ vs ∧ R
def lcS (J : It) (g : TG) (tt : TT) (te : TE) (vs : List Nat) (σ : St) (H1 : Hp) (Q : VK) : Prop := ∀ D, H1 D = none → ∃ W : Nat → Nat → Hp → Prop, (∃ m, W 0 m (upd H1 D (.lst []))) ∧ ∀ i m H, W i m H →
  (J.stop i H ∧ Q (.ref D) H) ∨ (J.go i H ∧ ∃ Nx : Hp → Prop, (∀ H', Nx H' → ∃ m', m' < m ∧ W (i + 1) m' H') ∧ ∀ x H', J.yld i H x H' → g x (wipe σ vs) H' fun σ2 H2 => wipe σ2 vs = wipe σ vs ∧ tt σ2 H2 fun b H3 =>
    if b = true then te σ2 H3 fun y H4 => ∃ acc, H4 D = some (.lst acc) ∧ acc.length < sizeLine ∧ Nx (upd H4 D (.lst (acc ++ [y]))) else Nx H3)
class SetN (σ : St) (n : Nat) (σ' : outParam St) : Prop where
  e : σ.set n none = σ'
instance setn0 {x : Option V} {σ : St} : SetN (x :: σ) 0 (none :: σ) := ⟨rfl⟩
instance setnS {x : Option V} {σ σ' : St} {n : Nat} [a : SetN σ n σ'] : SetN (x :: σ) (n + 1) (x :: σ') := ⟨by rw [List.set_cons_succ, a.e]⟩
class Wip (σ : St) (vs : List Nat) (σ' : outParam St) : Prop where
  e : wipe σ vs = σ'
instance wip0 {σ : St} : Wip σ [] σ := ⟨rfl⟩
instance wipS {σ σ1 σ2 : St} {v : Nat} {vs : List Nat} [a : Wip σ vs σ1] [b : SetN σ1 v σ2] : Wip σ (v :: vs) σ2 := ⟨by unfold wipe; rw [a.e, b.e]⟩
instance wipM0 {σ : St} : Wip σ (List.map (fun x : Str × Nat => x.2) []) σ := ⟨rfl⟩
instance wipMS {σ σ1 σ2 : St} {x : Str} {v : Nat} {own : List (Str × Nat)} [a : Wip σ (List.map (fun x : Str × Nat => x.2) own) σ1] [b : SetN σ1 v σ2] : Wip σ (List.map (fun x : Str × Nat => x.2) ((x, v) :: own)) σ2 := ⟨by rw [List.map_cons]; unfold wipe; rw [a.e, b.e]⟩
section
variable {σ σ0 : St} {H : Hp} {K : PySem.W.Frag} {p : Addr} {xs : List V} {g : TG} {wi : TI} {tt : TT} {te : TE} {vs : List Nat} {Q : VK} {J : It} {n : Nat} {lo : Int}
instance s_lc : Stp (tLc wi g tt te vs σ H Q) (wi σ H fun J H1 => lcS J g tt te vs σ H1 Q) := ⟨id⟩
instance s_yes {R : Bool → Hp → Prop} : Stp (tYes σ H R) (R true H) := ⟨id⟩
instance s_wp {R : Prop} {σ2 : St} [a : Wip σ2 vs σ0] [b : Wip σ vs σ0] : Stp (wpS σ2 σ vs R) R := ⟨fun h => ⟨by rw [a.e, b.e], h⟩⟩
theorem r_ap {D : Addr} {y : V} {R : Hp → Prop} {acc : List V} (h : H D = some (.lst acc)) (hl : acc.length < sizeLine) (q : ∀ H2, H2 D = some (.lst (acc ++ [y])) → Kp [D] H H2 → R H2) : apS D y H R :=
  ⟨acc, h, hl, q _ upd_same (Kp.put h trivial)⟩
theorem lc_by {G : Hp → Prop} {Y : Nat → Hp → V → Hp → Prop} (w : Walk J n G Y) [hw : Wip σ vs σ0] (Pv : Addr → Nat → Hp → Prop) (h0 : ∀ D H2, H D = none → H2 D = some (.lst []) → Kp [] H H2 → Pv D 0 H2) (hG : ∀ D i H', Pv D i H' → G H')
    (hs : ∀ D i x H' H'', i < n → Pv D i H' → Y i H' x H'' → g x σ0 H'' fun σ2 H2 => wpS σ2 σ vs (tt σ2 H2 fun b H3 => iteP b (te σ2 H3 fun y H4 => apS D y H4 (Pv D (i + 1))) (Pv D (i + 1) H3)))
    (hd : ∀ D H', Pv D n H' → Q (.ref D) H') : lcS J g tt te vs σ H Q := by
  intro D hD
  refine lc_it w (Pv D) (h0 D _ hD upd_same (Kp.new hD)) (fun i H' _ h => hG D i H' h) ?_ (hd D)
  intro i x H' H'' hi h y
  rw [hw.e]
  have q := hs D i x H' H'' hi h y
  unfold wpS at q
  rw [hw.e] at q
  exact q
theorem r_lcT (xs : List V) [hw : Wip σ vs σ0] (Pv : Addr → Nat → Hp → Prop) (h0 : ∀ D H2, H D = none → H2 D = some (.lst []) → Kp [] H H2 → Pv D 0 H2) (hG : ∀ D i H', Pv D i H' → SqT K H' p xs)
    (hs : ∀ D i x H', xs[i]? = some x → Pv D i H' → g x σ0 H' fun σ2 H2 => wpS σ2 σ vs (tt σ2 H2 fun b H3 => iteP b (te σ2 H3 fun y H4 => apS D y H4 (Pv D (i + 1))) (Pv D (i + 1) H3)))
    (hd : ∀ D H', Pv D xs.length H' → Q (.ref D) H') : lcS (Itt K p) g tt te vs σ H Q :=
  lc_by (walk_tup (K := K) (a := p) (xs := xs)) Pv h0 hG (fun D i x H1 H2 _ h y => by obtain ⟨rfl, y⟩ := y; exact hs D i x _ y h) hd
theorem r_lcL (xs : List V) [hw : Wip σ vs σ0] (Pv : Addr → Nat → Hp → Prop) (h0 : ∀ D H2, H D = none → H2 D = some (.lst []) → Kp [] H H2 → Pv D 0 H2) (hG : ∀ D i H', Pv D i H' → H' p = some (.lst xs))
    (hs : ∀ D i x H', xs[i]? = some x → Pv D i H' → g x σ0 H' fun σ2 H2 => wpS σ2 σ vs (tt σ2 H2 fun b H3 => iteP b (te σ2 H3 fun y H4 => apS D y H4 (Pv D (i + 1))) (Pv D (i + 1) H3)))
    (hd : ∀ D H', Pv D xs.length H' → Q (.ref D) H') : lcS (Itl K p) g tt te vs σ H Q :=
  lc_by (walk_list (K := K) (a := p) (xs := xs)) Pv h0 (fun D i H' h => SqL.of (hG D i H' h)) (fun D i x H1 H2 _ h y => by obtain ⟨rfl, y⟩ := y; exact hs D i x _ y h) hd
theorem r_lcR [hw : Wip σ vs σ0] (Pv : Addr → Nat → Hp → Prop) (h0 : ∀ D H2, H D = none → H2 D = some (.lst []) → Kp [] H H2 → Pv D 0 H2)
    (hs : ∀ D i H', i < n → Pv D i H' → g (.int (lo + (i : Int))) σ0 H' fun σ2 H2 => wpS σ2 σ vs (tt σ2 H2 fun b H3 => iteP b (te σ2 H3 fun y H4 => apS D y H4 (Pv D (i + 1))) (Pv D (i + 1) H3)))
    (hd : ∀ D H', Pv D n H' → Q (.ref D) H') : lcS (Itr lo n) g tt te vs σ H Q :=
  lc_by walk_range Pv h0 (fun _ _ _ _ => trivial) (fun D i x H1 H2 hi h y => by obtain ⟨rfl, rfl⟩ := y; exact hs D i _ hi h) hd
end
/-! ### list methods -/
instance s_bm {K : PySem.W.Frag} {T : String} {r : V → List V → Hp → VK → Prop} {to : TE} {t : TA} {σ : St} {H : Hp} {Q : VK} : Stp (tBM K T r to t σ H Q) (to σ H fun x H1 => tyV K T x H1 ∧ t σ H1 fun xs H2 => r x xs H2 Q) := ⟨id⟩
theorem r_tyL {K : PySem.W.Frag} {H : Hp} {l : Addr} {xs : List V} {R : Prop} (h : H l = some (.lst xs)) (q : R) : tyV K "list" (.ref l) H ∧ R := ⟨.inl ⟨rfl, xs, SqL.of h⟩, q⟩
theorem r_app {H : Hp} {l : Addr} {xs : List V} {y : V} {Q : VK} (h : H l = some (.lst xs)) (hl : xs.length < sizeLine) (q : ∀ H2, H2 l = some (.lst (xs ++ [y])) → Kp [l] H H2 → Q .non H2) : rAppend (.ref l) [y] H Q :=
  ⟨l, xs, y, rfl, rfl, h, hl, q _ upd_same (Kp.put h trivial)⟩
/-! ### the walk's own steps (rows of tactics) -/
local macro_rules | `(tactic| walk_at "cg yes") => `(tactic| (first
  | assumption | decide | omega | (simp; done)
  | fail))
local macro_rules | `(tactic| walk_at "cg ne") => `(tactic| (first
  | assumption | (apply Ne.symm; assumption) | exact ne_newL (by assumption) (by walk_at "cg h") | exact ne_newR (by assumption) (by walk_at "cg h")
  | fail))
/-- what stands at an address, a tuple, from the last heap backwards -/
local macro_rules | `(tactic| walk_at "cg h") => `(tactic| (first
  | assumption
  | ((with_reducible show _ = some _); first
      | exact Kp.get0 (by assumption) (by walk_at "cg h") | exact Kp.get1 (by assumption) (by walk_at "cg ne") (by walk_at "cg h"))
  | ((with_reducible show SqT _ _ _ _); exact Kp.tup (by assumption) (by walk_at "cg h"))
  | ((with_reducible show Im _ _ _ _); exact Kp.im (by assumption) (by walk_at "cg h"))
  | ((with_reducible show ImAll _ _ _ _); exact Kp.imAll (by assumption) (by walk_at "cg h"))
  | fail))
/-- an address that was free -/
local macro_rules | `(tactic| walk_at "cg fr") => `(tactic| (first
  | assumption
  | exact Kp.free0 (by assumption) (by assumption)
  | exact Kp.free0 (by walk_at "cg kp") (by assumption)
  | fail))
/-- the frame from the entry on -/
local macro_rules | `(tactic| walk_at "cg kp") => `(tactic| (first
  | assumption
  | exact Kp.refl
  | exact Kp.tr0 (by assumption) (by walk_at "cg kp")
  | exact Kp.tr1 (by assumption) (by walk_at "cg kp")
  | exact Kp.trN (by assumption) (by walk_at "cg kp") (by walk_at "cg fr")
  | fail))
local macro_rules | `(tactic| walk_at "cg ty") => `(tactic| (first
  | exact .base (.int _) | exact .base (.bl _) | exact .base (.str _) | exact .base .non | exact SqT.ty (by walk_at "cg h") | exact .base (.lst (by walk_at "cg h"))
  | fail))
local macro_rules | `(tactic| walk_at "cg C") => `(tactic| (first
  | assumption | exact (show CMul _ _ from .inl ⟨by omega, by omega⟩) | exact (show CMul _ _ from .inr ⟨by omega, by omega⟩) | omega | decide
  | exact ⟨by decide, by decide, by decide⟩ | exact ⟨by omega, by omega⟩
  | fail))
local macro_rules | `(tactic| walk_at "cg s") => `(tactic| (first
  | (refine go1 inferInstance inferInstance ?_)
  | ((with_reducible refine r_rI ?_ ?_); (focus (walk_at "cg C")))
  | ((with_reducible apply r_ixL); (focus (walk_at "cg h")); exact rfl)
  | ((with_reducible apply r_ixT); (focus (walk_at "cg h")); exact rfl)
  | ((with_reducible apply r_lenL); (focus (walk_at "cg h")))
  | ((with_reducible apply r_lenT); (focus (walk_at "cg h")))
  | ((with_reducible apply r_gTup); (focus (walk_at "cg h")); exact rfl)
  | ((with_reducible refine r_mkT (K := ‹PySem.W.Frag›) ?_ ?_); (focus (exact Nat.le_of_ble_eq_true rfl)); intro _ _ _ _ _)
  | ((with_reducible refine r_mkL ?_ ?_); (focus (exact Nat.le_of_ble_eq_true rfl)); intro _ _ _ _ _)
  | ((with_reducible apply r_tupleL); (focus (walk_at "cg h")); intro _ _ _ _ _)
  | ((with_reducible apply r_listL); (focus (walk_at "cg h")); intro _ _ _ _ _)
  | ((with_reducible apply r_setL); (focus (walk_at "cg h")); exact rfl)
  | ((with_reducible apply r_isi); (focus (exact .ty _)); (focus (walk_at "cg ty")); (focus (first | exact kit_ty (r := true) (by decide +kernel) | exact kit_ty (r := false) (by decide +kernel))))
  | ((with_reducible apply r_inL); (focus (walk_at "cg h")); exact rfl; exact rfl; (focus (first | exact (by decide +kernel : _ = true) | exact (by decide +kernel : _ = false))))
  | ((with_reducible apply r_inT); (focus (walk_at "cg h")); exact rfl; exact rfl; (focus (first | exact (by decide +kernel : _ = true) | exact (by decide +kernel : _ = false))))
  | ((with_reducible apply r_tyL); (focus (walk_at "cg h")))
  | ((with_reducible refine r_app (xs := ?xs) ?h ?hl ?_); (case h => walk_at "cg h"); (case hl => first | exact Nat.lt_of_sub_pos (by decide) | (apply small1000; omega) | (apply small1000; simp; done) | (apply small1000; simp; omega)); intro _ _ _)
  | ((with_reducible apply r_isL); (focus (walk_at "cg h")))
  | ((with_reducible apply r_isT); (focus (walk_at "cg h")))
  | ((with_reducible apply r_isR1); (focus (first | omega | (constructor <;> decide))))
  | ((with_reducible refine if_T ?_ ?_); (focus (walk_at "cg yes"))) | ((with_reducible refine if_F ?_ ?_); (focus (walk_at "cg yes")))
  | ((with_reducible refine if_NT ?_ ?_); (focus (walk_at "cg yes"))) | ((with_reducible refine if_NF ?_ ?_); (focus (walk_at "cg yes")))
  | fail))
local macro_rules | `(tactic| walk_at "cg") => `(tactic| repeat (walk_at "cg s"))

/-! ### the tape and the draw -/
/-- a tape at t over the numbers at c -/
structure Tp (t c : Addr) (H : Hp) : Prop where
  ex : ∃ (ns : List Int) (k z : Int), H t = some (.lst [.ref c, .int k, .int z]) ∧ H c = some (.lst (ns.map V.int)) ∧ 0 ≤ k ∧ 0 ≤ z
theorem Tp.ne {t c : Addr} {H : Hp} (h : Tp t c H) : t ≠ c := by
  obtain ⟨ns, k, z, h1, h2, _⟩ := h.ex
  refine ne_of h1 h2 fun e => ?_
  cases ns with
  | nil => simp at e
  | cons n ns => simp at e
theorem Tp.mut {t c : Addr} {H : Hp} (h : Tp t c H) : Mut (H t) := by
  obtain ⟨ns, k, z, h1, h2, _⟩ := h.ex
  rw [h1]
  trivial
theorem Tp.it {t c : Addr} {H : Hp} (h : Tp t c H) : ∃ o, H t = some o := by
  obtain ⟨ns, k, z, h1, h2, _⟩ := h.ex
  exact ⟨_, h1⟩
theorem Tp.itc {t c : Addr} {H : Hp} (h : Tp t c H) : ∃ o, H c = some o := by
  obtain ⟨ns, k, z, h1, h2, _⟩ := h.ex
  exact ⟨_, h2⟩
theorem Tp.kp {t c : Addr} {S : List Addr} {H H' : Hp} (k : Kp S H H') (h : Tp t c H) (n1 : ¬ t ∈ S) (n2 : ¬ c ∈ S) : Tp t c H' := by
  obtain ⟨ns, j, z, h1, h2, h3⟩ := h.ex
  exact ⟨ns, j, z, k.get n1 h1, k.get n2 h2, h3⟩
theorem Tp.kp0 {t c : Addr} {H H' : Hp} (k : Kp [] H H') (h : Tp t c H) : Tp t c H' := h.kp k (fun z => nomatch z) (fun z => nomatch z)
/-- no draw is asked for more -/
def bigB : Int := 2 ^ 240
theorem bigB_ok {z m : Int} (h1 : 1 ≤ m) (h2 : m < bigB) : CDivW z m := by
  unfold bigB at h2
  exact wide_div (b := 240) (by omega) (by omega) (by decide) (by decide)
def spDraw : Sp := fun vs H Q _ => ∃ (t c : Addr) (m : Int), vs = [.ref t, .int m] ∧ Tp t c H ∧ 1 ≤ m ∧ m < bigB ∧ ∀ (d : Int) (H' : Hp), 0 ≤ d → d < m → Tp t c H' → Kp [t] H H' → Q (.int d) H'
theorem spDraw_i {t c : Addr} {m : Int} {H : Hp} {Q : VK} {E : XK} (h : Tp t c H) (h1 : 1 ≤ m) (h2 : m < bigB) (k : ∀ (d : Int) (H' : Hp), 0 ≤ d → d < m → Tp t c H' → Kp [t] H H' → Q (.int d) H') : spDraw [.ref t, .int m] H Q E :=
  ⟨t, c, m, rfl, h, h1, h2, k⟩
def spTape (K : PySem.W.Frag) : Sp := fun vs H Q _ => ∃ (a : Addr) (ns : List Int), vs = [.ref a] ∧ SqL K H a (ns.map V.int) ∧ ∀ (t c : Addr) (H' : Hp), H t = none → H c = none → Tp t c H' → Kp [] H H' → Q (.ref t) H'
theorem Tp.kp1 {t c p : Addr} {H H' : Hp} (k : Kp [p] H H') (h : Tp t c H) (n1 : t ≠ p) (n2 : c ≠ p) : Tp t c H' := h.kp k (fun z => n1 (by simpa using z)) (fun z => n2 (by simpa using z))
local macro_rules | `(tactic| walk_at "cg h") => `(tactic| (first
  | ((with_reducible show Tp _ _ _); exact Tp.kp0 (by assumption) (by walk_at "cg h"))
  | fail))
local macro_rules | `(tactic| walk_at "cg h") => `(tactic| (first
  | ((with_reducible show Tp _ _ _); exact Tp.kp1 (by assumption) (by walk_at "cg h") (by walk_at "cg ne") (by walk_at "cg ne"))
  | fail))
local macro_rules | `(tactic| walk_at "cg h") => `(tactic| assumption)
theorem Tp.nef {t c p : Addr} {H : Hp} (hp : H p = none) (h : Tp t c H) : p ≠ t := by
  obtain ⟨o, e⟩ := h.it
  exact (ne_of_none e hp).symm
theorem Tp.nefc {t c p : Addr} {H : Hp} (hp : H p = none) (h : Tp t c H) : p ≠ c := by
  obtain ⟨o, e⟩ := h.itc
  exact (ne_of_none e hp).symm
local macro_rules | `(tactic| walk_at "cg ne") => `(tactic| (first
  | exact Tp.nef (by assumption) (by walk_at "cg h") | exact (Tp.nef (by assumption) (by walk_at "cg h")).symm | exact Tp.nefc (by assumption) (by walk_at "cg h") | exact (Tp.nefc (by assumption) (by walk_at "cg h")).symm
  | fail))
theorem Tp.base {t c : Addr} {H : Hp} (T : Tp t c H) : Kp [t] H H := .base fun b hb => by
  rw [List.mem_singleton] at hb
  subst hb
  exact T.mut
local macro_rules | `(tactic| walk_at "cg kp") => `(tactic| (first
  | ((with_reducible show Kp [_] _ _); exact Tp.base (by assumption))
  | fail))
local macro_rules | `(tactic| walk_at "cg dr") => `(tactic| ((with_reducible refine spDraw_i (c := ?c) ?h ?h1 ?h2 ?_); (case h => walk_at "cg h"); (case h1 => first | decide | omega); (case h2 => first | decide | assumption)))
local macro_rules | `(tactic| walk_at "cg s") => `(tactic| (walk_at "cg dr"; intro _ _ _ _ _ _))

/-! ### relations and literals -/
inductive Rel where
  | le | ge | eq | ne
  deriving DecidableEq
def Rel.s : Rel → Str
  | .le => "<="
  | .ge => ">="
  | .eq => "="
  | .ne => "!="
def Rel.h : Rel → Int → Int → Bool
  | .le, a, b => decide (a ≤ b)
  | .ge, a, b => decide (b ≤ a)
  | .eq, a, b => decide (a = b)
  | .ne, a, b => decide (a ≠ b)
def Rel.neg : Rel → Rel
  | .le => .ge
  | .ge => .le
  | .eq => .ne
  | .ne => .eq
def Rel.nnum : Rel → Int → Int
  | .le, a => a + 1
  | .ge, a => a - 1
  | _, a => a
theorem Rel.neg_neg (r : Rel) : r.neg.neg = r := by cases r <;> rfl
theorem Rel.nnum_nnum (r : Rel) (a : Int) : r.neg.nnum (r.nnum a) = a := by
  cases r <;> simp [Rel.neg, Rel.nnum] <;> omega
theorem Rel.neg_h (r : Rel) (x a : Int) : r.neg.h x (r.nnum a) = !r.h x a := by
  cases r
  · simp only [Rel.neg, Rel.nnum, Rel.h]
    rw [Bool.eq_iff_iff]; simp; omega
  · simp only [Rel.neg, Rel.nnum, Rel.h]
    rw [Bool.eq_iff_iff]; simp; omega
  · simp [Rel.neg, Rel.nnum, Rel.h]
  · simp [Rel.neg, Rel.nnum, Rel.h]
theorem ix_rel3 {K : PySem.W.Frag} {p : Addr} {H : Hp} {Q : VK} {d : Int} (h : H p = some (.lst [.str (Str.ofString "<="), .str (Str.ofString ">="), .str (Str.ofString "=")])) (h0 : 0 ≤ d) (h1 : d < 3) (q : ∀ r : Rel, r ≠ .ne → Q (.str r.s) H) : rIxL K (.ref p) (.int d) H Q := by
  have e : d = 0 ∨ d = 1 ∨ d = 2 := by omega
  rcases e with rfl | rfl | rfl
  · exact r_ixL h rfl (q .le (by decide))
  · exact r_ixL h rfl (q .ge (by decide))
  · exact r_ixL h rfl (q .eq (by decide))
def spRel : Sp := fun vs H Q _ => ∃ (r : Rel) (a b : Int), vs = [.str r.s, .int a, .int b] ∧ Q (.bl (r.h a b)) H
theorem spRel_i (r : Rel) {a b : Int} {H : Hp} {Q : VK} {E : XK} (q : Q (.bl (r.h a b)) H) : spRel [.str r.s, .int a, .int b] H Q E := ⟨r, a, b, rfl, q⟩
/-- a literal stands at p -/
abbrev LitAt (K : PySem.W.Frag) (H : Hp) (p : Addr) (v : Int) (r : Rel) (a : Int) : Prop := SqT K H p [.int v, .str r.s, .int a]
def spLit (K : PySem.W.Frag) : Sp := fun vs H Q _ => ∃ (p : Addr) (v : Int) (r : Rel) (a x : Int), vs = [.ref p, .int x] ∧ LitAt K H p v r a ∧ Q (.bl (r.h x a)) H
def spNeg (K : PySem.W.Frag) : Sp := fun vs H Q _ => ∃ (p : Addr) (v : Int) (r : Rel) (a : Int), vs = [.ref p] ∧ LitAt K H p v r a ∧ ∀ (p' : Addr) (H' : Hp), LitAt K H' p' v r.neg (r.nnum a) → Kp [] H H' → Q (.ref p') H'
def spSame : Sp := fun vs H Q _ => ∃ (a b : Bool), vs = [.bl a, .bl b] ∧ Q (.bl (decide (a = b))) H
theorem ix_rel4 {K : PySem.W.Frag} {p : Addr} {H : Hp} {Q : VK} {d : Int} (h : H p = some (.lst [.str (Str.ofString "<="), .str (Str.ofString ">="), .str (Str.ofString "="), .str (Str.ofString "!=")])) (h0 : 0 ≤ d) (h1 : d < 4) (q : ∀ r : Rel, Q (.str r.s) H) : rIxL K (.ref p) (.int d) H Q := by
  have e : d = 0 ∨ d = 1 ∨ d = 2 ∨ d = 3 := by omega
  rcases e with rfl | rfl | rfl | rfl
  · exact r_ixL h rfl (q .le)
  · exact r_ixL h rfl (q .ge)
  · exact r_ixL h rfl (q .eq)
  · exact r_ixL h rfl (q .ne)
def litD (v : Int) (r : Rel) (a : Int) : PyData := .tuple [.int v, .str r.s, .int a]
theorem Rel.ok (r : Rel) : PyData.strOk r.s = true := by cases r <;> decide +kernel
theorem litD_shaped (v : Int) (r : Rel) (a : Int) : SeqAt.shaped (litD v r a) = true := by
  simp [litD, Rel.ok, SeqAt.shaped, PyData.canLay0, PyData.canLayAll0, PyData.depth, PyData.depthAll]
theorem litD_self (v : Int) (r : Rel) (a : Int) : PyData.eqv (litD v r a) (litD v r a) = true := by
  simp [litD, PyData.eqv, PyData.eqvAll]
theorem LitAt.dp {K : PySem.W.Frag} {H : Hp} {p : Addr} {v : Int} {r : Rel} {a : Int} (h : LitAt K H p v r a) : Dp K H (.ref p) (litD v r a) :=
  .tup h (.cons (.int _) (.cons (.str _) (.cons (.int _) .nil)))
local macro_rules | `(tactic| walk_at "cg s") => `(tactic| (with_reducible refine spRel_i _ ?_))
theorem spSame_i {a b : Bool} {H : Hp} {Q : VK} {E : XK} (q : Q (.bl (decide (a = b))) H) : spSame [.bl a, .bl b] H Q E := ⟨a, b, rfl, q⟩
local macro_rules | `(tactic| walk_at "cg s") => `(tactic| (with_reducible refine spSame_i ?_))
theorem spLit_i {K : PySem.W.Frag} {H : Hp} {Q : VK} {E : XK} {p : Addr} {v : Int} {r : Rel} {a x : Int} (h : LitAt K H p v r a) (q : Q (.bl (r.h x a)) H) : spLit K [.ref p, .int x] H Q E := ⟨p, v, r, a, x, rfl, h, q⟩
local macro_rules | `(tactic| walk_at "cg s") => `(tactic| ((with_reducible refine spLit_i (v := ?v) (r := ?r) (a := ?a) ?h ?_); (focus (walk_at "cg h"))))

/-! ### terms and rows -/
structure Shp (n : Nat) (d : PyData) : Prop where
  lay : d.canLay0 = true
  dep : d.depth ≤ n
theorem Shp.int {n : Nat} (i : Int) : Shp n (.int i) := ⟨rfl, Nat.zero_le _⟩
theorem Shp.bool {n : Nat} (b : Bool) : Shp n (.bool b) := ⟨rfl, Nat.zero_le _⟩
theorem Shp.none {n : Nat} : Shp n .none := ⟨rfl, Nat.zero_le _⟩
theorem Shp.str {n : Nat} {x : Str} (h : PyData.strOk x = true) : Shp n (.str x) := ⟨by simp only [PyData.canLay0]; exact h, Nat.zero_le _⟩
theorem shpAll {n : Nat} : ∀ {ds : List PyData}, (∀ d ∈ ds, Shp n d) → PyData.canLayAll0 ds = true ∧ PyData.depthAll ds ≤ n
  | [], _ => ⟨rfl, Nat.zero_le _⟩
  | d :: ds, h => by
    have h1 := h d List.mem_cons_self
    have h2 := shpAll (ds := ds) fun e he => h e (List.mem_cons_of_mem _ he)
    refine ⟨?_, ?_⟩
    · simp only [PyData.canLayAll0, h1.lay, h2.1, Bool.and_self]
    · simp only [PyData.depthAll]
      exact Nat.max_le.mpr ⟨h1.dep, h2.2⟩
theorem Shp.tup {n : Nat} {ds : List PyData} (h : ∀ d ∈ ds, Shp n d) : Shp (n + 1) (.tuple ds) := by
  have q := shpAll h
  exact ⟨by simp only [PyData.canLay0]; exact q.1, by simp only [PyData.depth]; omega⟩
theorem Shp.list {n : Nat} {ds : List PyData} (h : ∀ d ∈ ds, Shp n d) : Shp (n + 1) (.list ds) := by
  have q := shpAll h
  exact ⟨by simp only [PyData.canLay0]; exact q.1, by simp only [PyData.depth]; omega⟩
theorem Shp.mono {n m : Nat} {d : PyData} (h : Shp n d) (l : n ≤ m) : Shp m d := ⟨h.lay, Nat.le_trans h.dep l⟩
theorem Shp.ok {n : Nat} {d : PyData} (h : Shp n d) (l : n ≤ 64 := by decide) : SeqAt.shaped d = true := by
  unfold SeqAt.shaped
  rw [h.lay, decide_eq_true (Nat.le_trans h.dep l)]
  rfl
theorem Shp.self {n : Nat} {d : PyData} (h : Shp n d) : PyData.eqv d d = true := PySem.SeqAt.eqv_refl d h.lay
theorem shp_nil {n : Nat} : ∀ d ∈ ([] : List PyData), Shp n d := fun _ h => by cases h
theorem shp_cons {n : Nat} {d : PyData} {ds : List PyData} (h : Shp n d) (h' : ∀ e ∈ ds, Shp n e) : ∀ e ∈ d :: ds, Shp n e := fun e he => by
  rcases List.mem_cons.mp he with rfl | he
  · exact h
  · exact h' e he
theorem atI_nat {α : Type} {xs : List α} {i : Int} (h0 : 0 ≤ i) (h1 : i < xs.length) : atI xs i = xs[i.toNat]? := by
  simp [atI, ixN, h0, h1]
theorem atI_ints {ns : List Int} {i : Int} (h0 : 0 ≤ i) (h1 : i < ns.length) : atI (ns.map V.int) i = some (.int (ns.getD i.toNat 0)) := by
  have e : i.toNat < ns.length := by omega
  rw [atI_nat h0 (by rw [List.length_map]; exact h1)]
  simp [e]
abbrev Tms := List (Int × Int)
def tD (z : Int × Int) : PyData := .tuple [.int z.1, .int z.2]
def tmD (ts : Tms) : PyData := .tuple (ts.map tD)
def negT (ts : Tms) : Tms := ts.map fun z => (z.1, -z.2)
def sumAt (ts : Tms) (pt : List Int) : Int := (ts.map fun z => z.2 * pt.getD z.1.toNat 0).sum
theorem tD_shp (z : Int × Int) : Shp 1 (tD z) := .tup (shp_cons (.int _) (shp_cons (.int _) shp_nil))
theorem tmD_shp (ts : Tms) : Shp 2 (tmD ts) := .tup fun d hd => by
  obtain ⟨z, _, rfl⟩ := List.mem_map.mp hd
  exact tD_shp z
theorem sumAt_snoc (ts : Tms) (z : Int × Int) (pt : List Int) : sumAt (ts ++ [z]) pt = sumAt ts pt + z.2 * pt.getD z.1.toNat 0 := by
  simp [sumAt]
theorem sumAt_take {ts : Tms} {z : Int × Int} {i : Nat} (pt : List Int) (h : ts[i]? = some z) : sumAt (ts.take (i + 1)) pt = sumAt (ts.take i) pt + z.2 * pt.getD z.1.toNat 0 := by
  rw [List.take_add_one, h]
  exact sumAt_snoc _ _ _
theorem map_take_snoc {α β : Type} {l : List α} {f : α → β} {i : Nat} {x : α} (h : l[i]? = some x) : (l.take (i + 1)).map f = (l.take i).map f ++ [f x] := by
  rw [List.take_add_one, h]
  simp
/-- the terms stand within a point of n numbers and are small -/
def TmOk (ts : Tms) (n : Nat) : Prop := ∀ z ∈ ts, 0 ≤ z.1 ∧ z.1 < n ∧ -1000000000000 < z.2 ∧ z.2 < 1000000000000
def spSum (K : PySem.W.Frag) : Sp := fun vs H Q _ => ∃ (p q : Addr) (ts : Tms) (pt : List Int), vs = [.ref p, .ref q] ∧ Im K H (.ref p) (tmD ts) ∧ SqT K H q (pt.map V.int) ∧ TmOk ts pt.length ∧ Q (.int (sumAt ts pt)) H
def spNegT (K : PySem.W.Frag) : Sp := fun vs H Q _ => ∃ (p : Addr) (ts : Tms), vs = [.ref p] ∧ Im K H (.ref p) (tmD ts) ∧ ts.length ≤ 1000 ∧ ∀ (p' : Addr) (H' : Hp), Im K H' (.ref p') (tmD (negT ts)) → Kp [] H H' → Q (.ref p') H'

def top (i : Nat) : Stmt := PySem.Challenge.pw_commonground_k03_rows_of_a_condition.main.body.getD i (.Pass ⟨0, 0, 0, 0⟩)
abbrev s_terms_sum : Stmt := top 1
theorem sc_terms_sum : FnScope ["terms", "point", "total", "v", "c"] ["terms", "point"] (defScope s_terms_sum) := ⟨rfl, rfl, rfl, by decide +kernel, rfl, by decide +kernel, by decide +kernel⟩
theorem st_terms_sum (v0 v1 : V) : L2.start ["terms", "point", "total", "v", "c"] [v0, v1] = [some v0, some v1, none, none, none] := rfl
abbrev s_negated_terms : Stmt := top 2
theorem sc_negated_terms : FnScope ["terms", "v", "c"] ["terms"] (defScope s_negated_terms) := ⟨rfl, rfl, rfl, by decide +kernel, rfl, by decide +kernel, by decide +kernel⟩
theorem st_negated_terms (v0 : V) : L2.start ["terms", "v", "c"] [v0] = [some v0, none, none] := rfl
abbrev s_rows_of : Stmt := top 3
theorem sc_rows_of : FnScope ["terms", "relation", "rhs", "rows"] ["terms", "relation", "rhs"] (defScope s_rows_of) := ⟨rfl, rfl, rfl, by decide +kernel, rfl, by decide +kernel, by decide +kernel⟩
theorem st_rows_of (v0 v1 v2 : V) : L2.start ["terms", "relation", "rhs", "rows"] [v0, v1, v2] = [some v0, some v1, some v2, none] := rfl
abbrev s_law_draw : Stmt := top 5
theorem sc_law_draw : FnScope ["_law_tape_here", "_law_many", "_law_cells", "_law_k", "_law_cell", "_law_digit"] ["_law_tape_here", "_law_many"] (defScope s_law_draw) := ⟨rfl, rfl, rfl, by decide +kernel, rfl, by decide +kernel, by decide +kernel⟩
theorem st_law_draw (v0 v1 : V) : L2.start ["_law_tape_here", "_law_many", "_law_cells", "_law_k", "_law_cell", "_law_digit"] [v0, v1] = [some v0, some v1, none, none, none, none] := rfl
abbrev s_law_tape : Stmt := top 6
theorem sc_law_tape : FnScope ["_law_script"] ["_law_script"] (defScope s_law_tape) := ⟨rfl, rfl, rfl, by decide +kernel, rfl, by decide +kernel, by decide +kernel⟩
theorem st_law_tape (v0 : V) : L2.start ["_law_script"] [v0] = [some v0] := rfl
abbrev s_law : Stmt := top 7
theorem sc_law : FnScope ["_law_script", "_law_tape_here", "_law_scale", "_law_terms", "_law_point", "_law_total", "_law_v", "_law_c", "_law_relation", "_law_rhs", "_law_upward", "_law_downward", "_law_due", "_law_holds", "_law_rows", "_law_all_hold", "_law_kind", "_law_row_terms", "_law_row_rhs"] ["_law_script"] (defScope s_law) := ⟨rfl, rfl, rfl, by decide +kernel, rfl, by decide +kernel, by decide +kernel⟩
theorem st_law (v0 : V) : L2.start ["_law_script", "_law_tape_here", "_law_scale", "_law_terms", "_law_point", "_law_total", "_law_v", "_law_c", "_law_relation", "_law_rhs", "_law_upward", "_law_downward", "_law_due", "_law_holds", "_law_rows", "_law_all_hold", "_law_kind", "_law_row_terms", "_law_row_rhs"] [v0] = [some v0, none, none, none, none, none, none, none, none, none, none, none, none, none, none, none, none, none, none] := rfl
def rowD (ts : Tms) (n : Int) : PyData := .tuple [.str (Str.ofString "row"), tmD ts, .int n]
def rowsD (ts : Tms) (r : Rel) (n : Int) : List PyData := (if r = .ge then [] else [rowD ts n]) ++ (if r = .le then [] else [rowD (negT ts) (-n)])
def rowsL (ts : Tms) (r : Rel) (n : Int) : List (Tms × Int) := (if r = .ge then [] else [(ts, n)]) ++ (if r = .le then [] else [(negT ts, -n)])
theorem rowsD_eq (ts : Tms) (r : Rel) (n : Int) : rowsD ts r n = (rowsL ts r n).map fun z => rowD z.1 z.2 := by cases r <;> rfl
theorem rowD_shp (ts : Tms) (n : Int) : Shp 3 (rowD ts n) := .tup (shp_cons (.str (by decide +kernel)) (shp_cons ((tmD_shp ts)) (shp_cons (.int _) shp_nil)))
theorem rowsD_shp (ts : Tms) (r : Rel) (n : Int) : Shp 4 (.list (rowsD ts r n)) := .list fun d hd => by
  rw [rowsD_eq] at hd
  obtain ⟨z, _, rfl⟩ := List.mem_map.mp hd
  exact rowD_shp _ _
theorem sum_neg (ts : Tms) (pt : List Int) : sumAt (negT ts) pt = -sumAt ts pt := by
  induction ts with
  | nil => rfl
  | cons z ts ih =>
    have e1 : sumAt (negT (z :: ts)) pt = (-z.2) * pt.getD z.1.toNat 0 + sumAt (negT ts) pt := by simp [sumAt, negT]
    have e2 : sumAt (z :: ts) pt = z.2 * pt.getD z.1.toNat 0 + sumAt ts pt := by simp [sumAt]
    rw [e1, e2, ih, Int.neg_mul]
    omega
theorem rows_hold (ts : Tms) (r : Rel) (n : Int) (pt : List Int) (hr : r ≠ .ne) : ((rowsL ts r n).all fun z => decide (sumAt z.1 pt ≤ z.2)) = r.h (sumAt ts pt) n := by
  have e := sum_neg ts pt
  cases r
  · simp [rowsL, Rel.h]
  · simp [rowsL, Rel.h, e]
  · simp only [rowsL, Rel.h]
    rw [Bool.eq_iff_iff]
    simp [e]
    omega
  · exact absurd rfl hr
theorem sumAt_more (ts : Tms) (pt : List Int) (y : Int) (h : ∀ z ∈ ts, 0 ≤ z.1 ∧ z.1 < pt.length) : sumAt ts (pt ++ [y]) = sumAt ts pt := by
  unfold sumAt
  congr 1
  refine List.map_congr_left fun z hz => ?_
  have q := h z hz
  have e : z.1.toNat < pt.length := by omega
  simp [List.getD, List.getElem?_append_left e]
theorem all_take {α : Type} {l : List α} {f : α → Bool} {i : Nat} {x : α} (h : l[i]? = some x) : (l.take (i + 1)).all f = ((l.take i).all f && f x) := by
  rw [List.take_add_one, h, List.all_append]
  simp
theorem row_open {K : PySem.W.Frag} {H : Hp} {p : Addr} {ts : Tms} {n : Int} (h : Im K H (.ref p) (rowD ts n)) : ∃ q, SqT K H p [.str (Str.ofString "row"), .ref q, .int n] ∧ Im K H (.ref q) (tmD ts) := by
  obtain ⟨xs, h1, h2⟩ := h.open
  cases h2 with
  | cons a1 h2 =>
    cases h2 with
    | cons a2 h2 =>
      cases h2 with
      | cons a3 h2 =>
        cases h2
        cases a1
        cases a3
        obtain ⟨q, rfl⟩ := a2.isRef
        exact ⟨q, h1, a2⟩
theorem rowsL_ok {ts : Tms} {r : Rel} {n : Int} {m : Nat} (h : TmOk ts m) : ∀ z ∈ rowsL ts r n, TmOk z.1 m := by
  have h' : TmOk (negT ts) m := fun z hz => by
    obtain ⟨y, hy, rfl⟩ := List.mem_map.mp hz
    have q := h y hy
    simp only
    omega
  intro z hz
  cases r <;> simp [rowsL] at hz
  · subst hz
    exact h
  · subst hz
    exact h'
  · rcases hz with rfl | rfl
    · exact h
    · exact h'
  · rcases hz with rfl | rfl
    · exact h
    · exact h'
def spRows (K : PySem.W.Frag) : Sp := fun vs H Q _ => ∃ (p : Addr) (ts : Tms) (r : Rel) (n : Int), vs = [.ref p, .str r.s, .int n] ∧ Im K H (.ref p) (tmD ts) ∧ ts.length ≤ 1000 ∧ ∀ (l : Addr) (xs : List V) (H' : Hp), H l = none → H' l = some (.lst xs) → ImAll K H' xs (rowsD ts r n) → Kp [] H H' → Q (.ref l) H'
structure Bi (K : PySem.W.Frag) (mg : Str → Option Value) : Prop where
  n_len : mg "len" = none
  n_int : mg "int" = none
  n_list : mg "list" = none
  n_isinstance : mg "isinstance" = none
  n_tuple : mg "tuple" = none
  n_range : mg "range" = none
def spLaw (K : PySem.W.Frag) : Sp := fun vs H Q _ => ∃ (a : Addr) (ns : List Int), vs = [.ref a] ∧ SqL K H a (ns.map V.int) ∧ ns.length ≤ 63 ∧ ∀ H', Q (.bl true) H'
section
variable {P : Program} {w : World} {K : PySem.W.Frag} {mg : Str → Option Value} {base : Heap}
theorem ok_law_draw {f : Addr} {fd : FuncData} (F : Fun K "_law_draw" "_law_draw" s_law_draw f fd) (B : Bi K mg)  : FnOk P w K mg base CX0 1 f fd ["_law_tape_here", "_law_many"] spDraw := by
  have nd := sc_law_draw.nd
  refine F.ok sc_law_draw ?len (fun cdv A outer s H vs Q E hr h => ?body)
  case len =>
    rintro vs H Q E ⟨t, c, m, rfl, _⟩
    rfl
  case body =>
    obtain ⟨t, c, m, rfl, T, hm1, hm2, q⟩ := h
    refine ⟨_, (Evl.pss_cut (ps_if (pt_cmpR op_lt (pe_ix ix_list (pv 0) pe_int (fun _ _ => rfl)) (pv 1) (nomark _))
      (pss_cons (ps_set (i := 2) nd rfl (Or.inl rfl) (pe_ix ix_list (pv 0) pe_int (fun _ _ => rfl)))
      (pss_cons (ps_set (i := 3) nd rfl (Or.inl rfl) (pe_ix ix_list (pv 0) pe_int (fun _ _ => rfl)))
      (pss_cons (ps_set (i := 4) nd rfl (Or.inl rfl) pe_int)
      (Evl.pss_cut (ps_if (pt_cmpR op_lt (pv 3) (pe_callB cg_len (by rfl) B.n_len PySem.boot_len (pa_cons (pv 2) pa_nil)) (nomark _))
      (pss_one (ps_set (i := 4) nd rfl (Or.inl rfl) (pe_ix ix_list (pv 2) (pv 3) (fun _ _ => rfl))))
      pss_nil)
      (Evl.pss_cut (ps_if (pt_cmpR op_lt (pv 4) pe_int (nomark _))
      (pss_one (ps_set (i := 4) nd rfl (Or.inl rfl) (pe_op op_sub (pe_op op_mul (pe_un un_neg pe_int) (pv 4)) pe_int)))
      pss_nil)
      (Evl.pss_cut (ps_if (pt_cmpR op_lt (pv 4) (pe_op op_pow pe_int pe_int) (nomark _))
      (pss_cons (ps_set (i := 4) nd rfl (Or.inl rfl) (pe_op op_mod (pe_callTy cg_int (by rfl) B.n_int PyProof.Rows.boot_int (pa_cons (pe_op op_add (pe_op op_add (pe_op op_mul (pv 4) pe_int) (pe_op op_mul (pv 3) pe_int)) pe_int) pa_nil)) pe_int))
      (pss_one (ps_set (i := 4) nd rfl (Or.inl rfl) (pe_op op_mod (pe_callTy cg_int (by rfl) B.n_int PyProof.Rows.boot_int (pa_cons (pe_op op_add (pe_op op_add (pe_op op_mul (pv 4) pe_int) (pe_op op_mul (pv 3) pe_int)) pe_int) pa_nil)) pe_int))))
      pss_nil)
      (pss_cons (ps_asg (pe_op op_add (pv 3) pe_int) (pg_sub (pv 0) pe_int set_list))
      (pss_one (ps_asg (pv 4) (pg_sub (pv 0) pe_int set_list))))))))))
      pss_nil)
      (pss_cons (ps_set (i := 5) nd rfl (Or.inl rfl) (pe_op op_mod (pe_callTy cg_int (by rfl) B.n_int PyProof.Rows.boot_int (pa_cons (pe_ix ix_list (pv 0) pe_int (fun _ _ => rfl)) pa_nil)) (pv 1)))
      (pss_cons (ps_asg (pe_op op_fdivW (pe_ix ix_list (pv 0) pe_int (fun _ _ => rfl)) (pv 1)) (pg_sub (pv 0) pe_int set_list))
      (pss_one (ps_ret (pv 5)))))), ?_⟩
    try dsimp only [L2.cxOf, L2.Cx.nox, L2.Cx.wish]
    rw [st_law_draw]
    obtain ⟨ns, k, z, h1, h2, hk, hz⟩ := id T.ex
    have net := T.ne
    show Evl.tCut _ _ _ _ _
    refine ⟨fun σ' H1 => ∃ (k z : Int) (x1 x2 x3 x4 : Option V), σ' = [some (V.ref t), some (.int m), x1, x2, x3, x4] ∧ H1 t = some (.lst [.ref c, .int k, .int z]) ∧ H1 c = some (.lst (ns.map V.int)) ∧ 0 ≤ k ∧ 0 ≤ z ∧ (H1 = H ∨ Kp [t] H H1), ?_, ?_⟩
    · walk_at "cg"
      refine if_S (fun hc => ?_) (fun hc => ?_)
      · walk_at "cg"
        refine ⟨fun σ' H1 => ∃ z' : Int, σ' = [some (V.ref t), some (.int m), some (V.ref c), some (.int k), some (.int z'), none] ∧ H = H1, ?_, ?_⟩
        · walk_at "cg"
          refine if_S (fun hk1 => ?_) (fun hk1 => ?_)
          · walk_at "cg"
            rw [List.length_map] at hk1
            refine r_ixL h2 (v := .int (ns.getD k.toNat 0)) ?_ ?_
            · have e : k.toNat < ns.length := by omega
              simp [atI, ixN, hk, hk1, e]
            · walk_at "cg"
              exact ⟨_, rfl, rfl⟩
          · walk_at "cg"
            exact ⟨_, rfl, rfl⟩
        · rintro σ' H1 ⟨z1, rfl, rfl⟩
          refine ⟨fun σ' H2 => ∃ z' : Int, 0 ≤ z' ∧ σ' = [some (V.ref t), some (.int m), some (V.ref c), some (.int k), some (.int z'), none] ∧ H = H2, ?_, ?_⟩
          · walk_at "cg"
            refine if_S (fun hk1 => ?_) (fun hk1 => ?_)
            · walk_at "cg"
              exact ⟨_, by omega, rfl, rfl⟩
            · walk_at "cg"
              exact ⟨_, by omega, rfl, rfl⟩
          · rintro σ' H2 ⟨z2, hz2, rfl, rfl⟩
            refine ⟨fun σ' H2 => ∃ z' : Int, 0 ≤ z' ∧ σ' = [some (V.ref t), some (.int m), some (V.ref c), some (.int k), some (.int z'), none] ∧ H = H2, ?_, ?_⟩
            · walk_at "cg"
              refine if_S (fun hk1 => ?_) (fun hk1 => ?_)
              · walk_at "cg"
                exact ⟨_, by omega, rfl, rfl⟩
              · walk_at "cg"
                exact ⟨_, hz2, rfl, rfl⟩
            · rintro σ' H2 ⟨z3, hz3, rfl, rfl⟩
              walk_at "cg"
              intro H2 e1 k1
              walk_at "cg"
              intro H3 e2 k2
              walk_at "cg"
              exact ⟨k + 1, z3, _, _, _, _, rfl, e2, k2.get1 net.symm (k1.get1 net.symm h2), by omega, hz3, .inr ⟨fun b o hb e => k2.k b o hb (k1.k b o hb e), k1.mu⟩⟩
      · walk_at "cg"
        exact ⟨k, z, _, _, _, _, rfl, h1, h2, hk, hz, .inl rfl⟩
    · rintro σ' H1 ⟨k, z, x1, x2, x3, x4, rfl, g1, g2, gk, gz, hk⟩
      walk_at "cg"
      refine r_rI (bigB_ok hm1 hm2) ?_
      walk_at "cg"
      intro H2 e1 k1
      walk_at "cg"
      refine q _ _ (Int.emod_nonneg _ (by omega)) (Int.emod_lt_of_pos _ (by omega)) ⟨ns, k, _, e1, k1.get1 net.symm g2, gk, Int.ediv_nonneg gz (by omega)⟩ ?_
      rcases hk with rfl | hk
      · exact k1
      · exact ⟨fun b o hb e => k1.k b o hb (hk.k b o hb e), hk.mu⟩

theorem ok_law_tape {f : Addr} {fd : FuncData} (F : Fun K "_law_tape" "_law_tape" s_law_tape f fd) (B : Bi K mg)  : FnOk P w K mg base CX0 1 f fd ["_law_script"] (spTape K) := by
  have nd := sc_law_tape.nd
  refine F.ok sc_law_tape ?len (fun cdv A outer s H vs Q E hr h => ?body)
  case len =>
    rintro vs H Q E ⟨a, ns, rfl, _⟩
    rfl
  case body =>
    obtain ⟨a, ns, rfl, hS, q⟩ := h
    refine ⟨_, (pss_one (ps_ret (pe_lst (pa_cons (pe_callTy cg_list (by rfl) B.n_list (by decide +kernel) (pa_cons (pv 0) pa_nil)) (pa_cons pe_int (pa_cons pe_int pa_nil)))))), ?_⟩
    try dsimp only [L2.cxOf, L2.Cx.nox, L2.Cx.wish]
    rw [st_law_tape]
    walk_at "cg"
    rename_i c H1 hc h1 k1 t H2 ht h2 k2
    exact q _ _ _ (Kp.free0 (by assumption) ht) hc ⟨ns, 0, 0, h2, k2.get0 h1, by decide, by decide⟩ (by walk_at "cg kp")

theorem ok_terms_sum {f : Addr} {fd : FuncData} (F : Fun K "terms_sum" "terms_sum" s_terms_sum f fd) (B : Bi K mg)  : FnOk P w K mg base CX0 1 f fd ["terms", "point"] (spSum K) := by
  have nd := sc_terms_sum.nd
  refine F.ok sc_terms_sum ?len (fun cdv A outer s H vs Q E hr h => ?body)
  case len =>
    rintro vs H Q E ⟨p, q, ts, pt, rfl, _⟩
    rfl
  case body =>
    obtain ⟨p, q, ts, pt, rfl, hI, hP, hT, k⟩ := h
    refine ⟨_, (pss_cons (ps_set (i := 2) nd rfl (Or.inl rfl) pe_int)
      (pss_cons (ps_for PassesOwn.never rfl (pi_tup (pv 0)) (pg_tup (n := 2) rfl (pgs_cons (pg_name (i := 3) nd rfl (Or.inl rfl)) (pgs_cons (pg_name (i := 4) nd rfl (Or.inl rfl)) pgs_nil)))
      (pss_one (ps_aug (i := 2) nd rfl (Or.inl rfl) (pe_op op_mul (pv 4) (pe_ix ix_tup (pv 1) (pv 3) (fun _ _ => rfl))) ip_add)))
      (pss_one (ps_ret (pv 2))))), ?_⟩
    try dsimp only [L2.cxOf, L2.Cx.nox, L2.Cx.wish]
    rw [st_terms_sum]
    obtain ⟨xs, h1, h2⟩ := hI.open
    walk_at "cg"
    refine r_forT xs (fun i σ' H' => ∃ x3 x4 : Option V, σ' = [some (.ref p), some (.ref q), some (.int (sumAt (ts.take i) pt)), x3, x4] ∧ H = H') ⟨_, _, rfl, rfl⟩ (fun i σ' H' ⟨_, _, _, e⟩ => e ▸ h1) ?_ ?_
    · rintro i x σ' H' hx ⟨x3, x4, rfl, rfl⟩
      obtain ⟨d, hd, hxd⟩ := h2.get hx
      rw [List.getElem?_map] at hd
      cases hz : ts[i]? with
      | none =>
        rw [hz] at hd
        cases hd
      | some z =>
        rw [hz] at hd
        cases hd
        obtain ⟨px, rfl⟩ := hxd.isRef
        have hs := hxd.sq rfl
        have hzt := hT z (List.mem_of_getElem? hz)
        walk_at "cg"
        refine r_ixT hP (atI_ints hzt.1 hzt.2.1) ?_
        walk_at "cg"
        exact ⟨_, _, by rw [sumAt_take pt hz], rfl⟩
    · rintro σ' H' ⟨x3, x4, rfl, rfl⟩
      walk_at "cg"
      have e : ts.take xs.length = ts := by rw [h2.length, List.length_map, List.take_length]
      rw [e]
      exact k
theorem ok_negated_terms {f : Addr} {fd : FuncData} (F : Fun K "negated_terms" "negated_terms" s_negated_terms f fd) (B : Bi K mg)  : FnOk P w K mg base CX0 1 f fd ["terms"] (spNegT K) := by
  have nd := sc_negated_terms.nd
  refine F.ok sc_negated_terms ?len (fun cdv A outer s H vs Q E hr h => ?body)
  case len =>
    rintro vs H Q E ⟨p, ts, rfl, _⟩
    rfl
  case body =>
    obtain ⟨p, ts, rfl, hI, hl, k⟩ := h
    refine ⟨_, (pss_one (ps_ret (pe_callTy cg_tuple (by rfl) B.n_tuple (by decide +kernel) (pa_cons (by exact pe_lc (own := [("v", 1), ("c", 2)]) (g := (gTup K 2 (gCons (gName 1) (gCons (gName 2) gNil)))) (tt := tYes) rfl nd (pi_tup (pv 0)) (blkOk_by (N := ["terms", "v", "c"]) (sc := defScope s_negated_terms) (by decide +kernel)) (fun _ _ _ _ _ => (pg_tup (n := 2) rfl (pgs_cons (pg_name (i := 1) nd rfl (Or.inl rfl)) (pgs_cons (pg_name (i := 2) nd rfl (Or.inl rfl)) pgs_nil)))) (fun _ _ _ _ _ => pts_nil) (fun _ _ _ _ _ => (pe_tup (pa_cons (pv 1) (pa_cons (pe_un un_neg (pv 2)) pa_nil))))) pa_nil)))), ?_⟩
    try dsimp only [L2.cxOf, L2.Cx.nox, L2.Cx.wish]
    rw [st_negated_terms]
    obtain ⟨xs, h1, h2⟩ := hI.open
    walk_at "cg"
    refine r_lcT xs (fun D i H' => Kp [] H H' ∧ H D = none ∧ ∃ acc, H' D = some (.lst acc) ∧ ImAll K H' acc ((negT (ts.take i)).map tD)) (fun D H2 hD e2 k2 => ⟨k2, hD, [], e2, .nil⟩) (fun D i H' ⟨k2, _⟩ => k2.tup h1) ?_ ?_
    · rintro D i x H' hx ⟨k2, hD, acc, eD, hA⟩
      obtain ⟨d, hd, hxd⟩ := h2.get hx
      rw [List.getElem?_map] at hd
      cases hz : ts[i]? with
      | none =>
        rw [hz] at hd
        cases hd
      | some z =>
        rw [hz] at hd
        cases hd
        obtain ⟨px, rfl⟩ := hxd.isRef
        have hs := hxd.sq rfl
        have hi : i < ts.length := (List.getElem?_eq_some_iff.mp hz).1
        have hal := hA.length
        rw [List.length_map] at hal
        unfold negT at hal
        rw [List.length_map, List.length_take] at hal
        walk_at "cg"
        rename_i pn H3 hpn hsn k3
        refine r_ap (by walk_at "cg h") (small1000 (by omega)) fun H4 e4 k4 => ?_
        refine ⟨by walk_at "cg kp", hD, _, e4, ?_⟩
        have e5 : (negT (ts.take (i + 1))).map tD = (negT (ts.take i)).map tD ++ [tD (z.1, -z.2)] := by
          unfold negT
          rw [map_take_snoc hz, List.map_append]
          rfl
        rw [e5]
        exact (k4.imAll (k3.imAll hA)).snoc (.tup (k4.tup hsn) (.cons (.int _) (.cons (.int _) .nil)))
    · rintro D H' ⟨k2, hD, acc, eD, hA⟩
      have e : ts.take xs.length = ts := by rw [h2.length, List.length_map, List.take_length]
      rw [e] at hA
      walk_at "cg"
      rename_i l H2 hl2 hS k3
      exact k _ _ (.tup hS (k3.imAll hA)) (by walk_at "cg kp")

theorem ok_rows_of {f : Addr} {fd : FuncData} (F : Fun K "rows_of" "rows_of" s_rows_of f fd) (B : Bi K mg) (D_negated_terms : Is P w K mg base CX0 1 "negated_terms" ["terms"] (spNegT K)) : FnOk P w K mg base CX0 2 f fd ["terms", "relation", "rhs"] (spRows K) := by
  have nd := sc_rows_of.nd
  refine F.ok sc_rows_of ?len (fun cdv A outer s H vs Q E hr h => ?body)
  case len =>
    rintro vs H Q E ⟨p, ts, r, n, rfl, _⟩
    rfl
  case body =>
    obtain ⟨p, ts, r, n, rfl, hI, hl, k⟩ := h
    refine ⟨_, (pss_cons (ps_set (i := 3) nd rfl (Or.inl rfl) (pe_lst pa_nil))
      (pss_cons (ps_if (pt_cmpR op_ne (pv 1) pe_str (nomark _))
      (pss_one (ps_expr (pe_bm PySem.F.plainAttrs_list PySem.F.slot_list_append PySem.F.type_list_append mt_append (pv 3) (pa_cons (pe_tup (pa_cons pe_str (pa_cons (pv 0) (pa_cons (pv 2) pa_nil)))) pa_nil))))
      pss_nil)
      (pss_cons (ps_if (pt_cmpR op_ne (pv 1) pe_str (nomark _))
      (pss_one (ps_expr (pe_bm PySem.F.plainAttrs_list PySem.F.slot_list_append PySem.F.type_list_append mt_append (pv 3) (pa_cons (pe_tup (pa_cons pe_str (pa_cons (pe_is D_negated_terms (hr.mono (by decide)) rfl pass0 (pa_cons (pv 0) pa_nil)) (pa_cons (pe_un un_neg (pv 2)) pa_nil)))) pa_nil))))
      pss_nil)
      (pss_one (ps_ret (pv 3)))))), ?_⟩
    try dsimp only [L2.cxOf, L2.Cx.nox, L2.Cx.wish]
    rw [st_rows_of]
    cases r
    · walk_at "cg"
      exact k _ _ _ (by assumption) (by assumption) (.cons (.tup (by walk_at "cg h") (.cons (.str _) (.cons (by walk_at "cg h") (.cons (.int _) .nil)))) .nil) (by walk_at "cg kp")
    · walk_at "cg"
      refine ⟨p, ts, rfl, by walk_at "cg h", hl, fun p' H' I' k' => ?_⟩
      walk_at "cg"
      exact k _ _ _ (by assumption) (by assumption) (.cons (.tup (by walk_at "cg h") (.cons (.str _) (.cons (by walk_at "cg h") (.cons (.int _) .nil)))) .nil) (by walk_at "cg kp")
    all_goals
      walk_at "cg"
      refine ⟨p, ts, rfl, by walk_at "cg h", hl, fun p' H' I' k' => ?_⟩
      walk_at "cg"
      exact k _ _ _ (by assumption) (by assumption) (.cons (.tup (by walk_at "cg h") (.cons (.str _) (.cons (by walk_at "cg h") (.cons (.int _) .nil)))) (.cons (.tup (by walk_at "cg h") (.cons (.str _) (.cons (by walk_at "cg h") (.cons (.int _) .nil)))) .nil)) (by walk_at "cg kp")
theorem ok_law {f : Addr} {fd : FuncData} (F : Fun K "law" "law" s_law f fd) (B : Bi K mg) (D_law_tape : Is P w K mg base CX0 1 "_law_tape" ["_law_script"] (spTape K)) (D_rows_of : Is P w K mg base CX0 2 "rows_of" ["terms", "relation", "rhs"] (spRows K)) (D_law_draw : Is P w K mg base CX0 1 "_law_draw" ["_law_tape_here", "_law_many"] spDraw) (D_terms_sum : Is P w K mg base CX0 1 "terms_sum" ["terms", "point"] (spSum K)) (D_negated_terms : Is P w K mg base CX0 1 "negated_terms" ["terms"] (spNegT K)) : FnOk P w K mg base CX0 3 f fd ["_law_script"] (spLaw K) := by
  have nd := sc_law.nd
  refine F.ok sc_law ?len (fun cdv A outer s H vs Q E hr h => ?body)
  case len =>
    rintro vs H Q E ⟨a, ns, rfl, _⟩
    rfl
  case body =>
    obtain ⟨a, ns, rfl, hS, hl, q⟩ := h
    refine ⟨_, (pss_cons (ps_set (i := 1) nd rfl (Or.inl rfl) (pe_is D_law_tape (hr.mono (by decide)) rfl pass0 (pa_cons (pv 0) pa_nil)))
      (pss_cons (ps_set (i := 2) nd rfl (Or.inl rfl) pe_int)
      (Evl.pss_cut (ps_if (pt_cmpR op_eq (pe_is D_law_draw (hr.mono (by decide)) rfl pass0 (pa_cons (pv 1) (pa_cons pe_int pa_nil))) pe_int (nomark _))
      (pss_one (ps_set (i := 2) nd rfl (Or.inl rfl) (pe_op op_add pe_int (pe_is D_law_draw (hr.mono (by decide)) rfl pass0 (pa_cons (pv 1) (pa_cons (pe_op op_pow pe_int pe_int) pa_nil))))))
      pss_nil)
      (pss_cons (ps_set (i := 3) nd rfl (Or.inl rfl) (pe_lst pa_nil))
      (pss_cons (ps_set (i := 4) nd rfl (Or.inl rfl) (pe_lst pa_nil))
      (pss_cons (ps_set (i := 5) nd rfl (Or.inl rfl) pe_int)
      (pss_cons (ps_for PassesOwn.never rfl (pi_range1 rfl B.n_range (pa_cons (pe_is D_law_draw (hr.mono (by decide)) rfl pass0 (pa_cons (pv 1) (pa_cons pe_int pa_nil))) pa_nil)) (pg_name (i := 6) nd rfl (Or.inl rfl))
      (pss_cons (ps_set (i := 7) nd rfl (Or.inl rfl) (pe_op op_mul (pe_op op_sub (pe_is D_law_draw (hr.mono (by decide)) rfl pass0 (pa_cons (pv 1) (pa_cons pe_int pa_nil))) pe_int) (pv 2)))
      (pss_cons (ps_expr (pe_bm PySem.F.plainAttrs_list PySem.F.slot_list_append PySem.F.type_list_append mt_append (pv 4) (pa_cons (pe_op op_sub (pe_is D_law_draw (hr.mono (by decide)) rfl pass0 (pa_cons (pv 1) (pa_cons pe_int pa_nil))) pe_int) pa_nil)))
      (pss_one (ps_if (pt_cmpR op_ne (pv 7) pe_int (nomark _))
      (pss_cons (ps_expr (pe_bm PySem.F.plainAttrs_list PySem.F.slot_list_append PySem.F.type_list_append mt_append (pv 3) (pa_cons (pe_tup (pa_cons (pv 6) (pa_cons (pv 7) pa_nil))) pa_nil)))
      (pss_one (ps_set (i := 5) nd rfl (Or.inl rfl) (pe_op op_add (pv 5) (pe_op op_mul (pv 7) (pe_ix ix_list (pv 4) (pv 6) (fun _ _ => rfl)))))))
      pss_nil)))))
      (pss_cons (ps_set (i := 8) nd rfl (Or.inl rfl) (pe_ix ix_list (pe_lst (pa_cons pe_str (pa_cons pe_str (pa_cons pe_str pa_nil)))) (pe_is D_law_draw (hr.mono (by decide)) rfl pass0 (pa_cons (pv 1) (pa_cons pe_int pa_nil))) (fun _ _ => rfl)))
      (pss_cons (ps_set (i := 9) nd rfl (Or.inl rfl) (pe_op op_sub (pe_op op_add (pv 5) (pe_is D_law_draw (hr.mono (by decide)) rfl pass0 (pa_cons (pv 1) (pa_cons pe_int pa_nil)))) pe_int))
      (pss_cons (ps_set (i := 10) nd rfl (Or.inl rfl) (pe_tup (pa_cons pe_str (pa_cons (pe_callTy cg_tuple (by rfl) B.n_tuple (by decide +kernel) (pa_cons (pv 3) pa_nil)) (pa_cons (pv 9) pa_nil)))))
      (pss_cons (ps_set (i := 11) nd rfl (Or.inl rfl) (pe_tup (pa_cons pe_str (pa_cons (pe_callTy cg_tuple (by rfl) B.n_tuple (by decide +kernel) (pa_cons (by exact pe_lc (own := [("_law_v", 6), ("_law_c", 7)]) (g := (gTup K 2 (gCons (gName 6) (gCons (gName 7) gNil)))) (tt := tYes) rfl nd (pi_list (pv 3)) (blkOk_by (N := ["_law_script", "_law_tape_here", "_law_scale", "_law_terms", "_law_point", "_law_total", "_law_v", "_law_c", "_law_relation", "_law_rhs", "_law_upward", "_law_downward", "_law_due", "_law_holds", "_law_rows", "_law_all_hold", "_law_kind", "_law_row_terms", "_law_row_rhs"]) (sc := defScope s_law) (by decide +kernel)) (fun _ _ _ _ _ => (pg_tup (n := 2) rfl (pgs_cons (pg_name (i := 6) nd rfl (Or.inl rfl)) (pgs_cons (pg_name (i := 7) nd rfl (Or.inl rfl)) pgs_nil)))) (fun _ _ _ _ _ => pts_nil) (fun _ _ _ _ _ => (pe_tup (pa_cons (pv 6) (pa_cons (pe_op op_sub pe_int (pv 7)) pa_nil))))) pa_nil)) (pa_cons (pe_op op_sub pe_int (pv 9)) pa_nil)))))
      (pss_cons (ps_set (i := 12) nd rfl (Or.inl rfl) (pe_lst (pa_cons (pv 10) (pa_cons (pv 11) pa_nil))))
      (pss_cons (ps_set (i := 13) nd rfl (Or.inl rfl) (pe_cmpR op_eq (pv 5) (pv 9) (nomark _)))
      (pss_cons (ps_if (pt_cmpR op_eq (pv 8) pe_str (nomark _))
      (pss_cons (ps_set (i := 12) nd rfl (Or.inl rfl) (pe_lst (pa_cons (pv 10) pa_nil)))
      (pss_one (ps_set (i := 13) nd rfl (Or.inl rfl) (pe_cmpR op_le (pv 5) (pv 9) (nomark _)))))
      pss_nil)
      (pss_cons (ps_if (pt_cmpR op_eq (pv 8) pe_str (nomark _))
      (pss_cons (ps_set (i := 12) nd rfl (Or.inl rfl) (pe_lst (pa_cons (pv 11) pa_nil)))
      (pss_one (ps_set (i := 13) nd rfl (Or.inl rfl) (pe_cmpR op_ge (pv 5) (pv 9) (nomark _)))))
      pss_nil)
      (pss_cons (ps_set (i := 14) nd rfl (Or.inl rfl) (pe_is D_rows_of (hr.mono (by decide)) rfl pass0 (pa_cons (pe_callTy cg_tuple (by rfl) B.n_tuple (by decide +kernel) (pa_cons (pv 3) pa_nil)) (pa_cons (pv 8) (pa_cons (pv 9) pa_nil)))))
      (pss_cons (ps_if (PW.pt (pw_or (pt_not (pt_val (pe_callB call_isi (by rfl) B.n_isinstance (by decide +kernel) (pa_cons (pv 14) (pa_cons (pe_bltn (v := .ty "list") rfl B.n_list (by decide +kernel) rfl) pa_nil))))) (pw_or (pt_cmpR (op_neD hr.units) (pv 14) (pv 12) (nomark _)) (pw_or1 (pt_cmpR (op_neD hr.units) (pe_is D_negated_terms (hr.mono (by decide)) rfl pass0 (pa_cons (pe_callTy cg_tuple (by rfl) B.n_tuple (by decide +kernel) (pa_cons (pv 3) pa_nil)) pa_nil)) (pe_ix ix_tup (pv 11) pe_int (fun _ _ => rfl)) (nomark _))))))
      (pss_one (ps_ret pe_bl))
      pss_nil)
      (pss_cons (ps_if (pt_cmpR op_ne (pe_is D_terms_sum (hr.mono (by decide)) rfl pass0 (pa_cons (pe_callTy cg_tuple (by rfl) B.n_tuple (by decide +kernel) (pa_cons (pv 3) pa_nil)) (pa_cons (pe_callTy cg_tuple (by rfl) B.n_tuple (by decide +kernel) (pa_cons (pv 4) pa_nil)) pa_nil))) (pv 5) (nomark _))
      (pss_one (ps_ret pe_bl))
      pss_nil)
      (pss_cons (ps_set (i := 15) nd rfl (Or.inl rfl) pe_bl)
      (pss_cons (ps_for PassesOwn.never rfl (pi_list (pv 14)) (pg_tup (n := 3) rfl (pgs_cons (pg_name (i := 16) nd rfl (Or.inl rfl)) (pgs_cons (pg_name (i := 17) nd rfl (Or.inl rfl)) (pgs_cons (pg_name (i := 18) nd rfl (Or.inl rfl)) pgs_nil))))
      (pss_one (ps_if (pt_cmpR op_gt (pe_is D_terms_sum (hr.mono (by decide)) rfl pass0 (pa_cons (pv 17) (pa_cons (pe_callTy cg_tuple (by rfl) B.n_tuple (by decide +kernel) (pa_cons (pv 4) pa_nil)) pa_nil))) (pv 18) (nomark _))
      (pss_one (ps_set (i := 15) nd rfl (Or.inl rfl) pe_bl))
      pss_nil)))
      (pss_one (ps_ret (pe_cmpR op_eq (pv 15) (pv 13) (nomark _)))))))))))))))))))))))), ?_⟩
    try dsimp only [L2.cxOf, L2.Cx.nox, L2.Cx.wish]
    rw [st_law]
    walk_at "cg"
    refine ⟨a, ns, rfl, hS, fun t c H1 ht hc T1 k1 => ?_⟩
    walk_at "cg"
    refine ⟨fun σ' H' => ∃ m : Int, σ' = [some (.ref a), some (.ref t), some (.int m), none, none, none, none, none, none, none, none, none, none, none, none, none, none, none, none] ∧ Tp t c H' ∧ 1 ≤ m ∧ m ≤ 1000000, ?_, ?_⟩
    · walk_at "cg"
      refine if_S (fun e => ?_) (fun e => ?_)
      · walk_at "cg"
        exact ⟨_, rfl, by walk_at "cg h", by omega, by omega⟩
      · walk_at "cg"
        exact ⟨_, rfl, by walk_at "cg h", by omega, by omega⟩
    · rintro σ' H2 ⟨m, rfl, T2, m1, m2⟩
      walk_at "cg"
      rename_i lt H3 hlt elt k3 lp H4 hlp elp k4 n H5 n0 n6 T5 k5
      have ntt : lt ≠ t := by walk_at "cg ne"
      have ntc : lt ≠ c := by walk_at "cg ne"
      have npt : lp ≠ t := by walk_at "cg ne"
      have npc : lp ≠ c := by walk_at "cg ne"
      have ntp : lt ≠ lp := by walk_at "cg ne"
      have e1 : H5 lt = some (.lst []) := by walk_at "cg h"
      have e2 : H5 lp = some (.lst []) := by walk_at "cg h"
      clear hlt elt k3 hlp elp k4 k5 T2 T1 k1
      refine r_forR (fun i σ' H' => ∃ (ts : Tms) (pt : List Int) (refs : List V) (x6 x7 : Option V), σ' = [some (.ref a), some (.ref t), some (.int m), some (.ref lt), some (.ref lp), some (.int (sumAt ts pt)), x6, x7, none, none, none, none, none, none, none, none, none, none, none] ∧
        Tp t c H' ∧ H' lt = some (.lst refs) ∧ ImAll K H' refs (ts.map tD) ∧ H' lp = some (.lst (pt.map V.int)) ∧ pt.length = i ∧ ts.length ≤ i ∧ (∀ z ∈ ts, 0 ≤ z.1 ∧ z.1 < i ∧ -3000001 < z.2 ∧ z.2 < 3000001)) ⟨[], [], [], none, none, rfl, T5, e1, .nil, e2, rfl, Nat.le_refl _, fun z hz => by cases hz⟩ ?_ ?_
      · clear T5 e1 e2
        rintro i σ' H6 hi ⟨ts, pt, refs, x6, x7, rfl, T6, et, hA, ep, hpl, htl, hT⟩
        have hrl := hA.length
        rw [List.length_map] at hrl
        walk_at "cg"
        rename_i d1 H7 p0 p6 T7 k7 d2 H8 q0 q18 T8 k8 H9 ep9 k9
        have bc : -3000001 < (d1 - 3) * m ∧ (d1 - 3) * m < 3000001 := by
          have e : d1 = 0 ∨ d1 = 1 ∨ d1 = 2 ∨ d1 = 3 ∨ d1 = 4 ∨ d1 = 5 ∨ d1 = 6 := by omega
          rcases e with rfl | rfl | rfl | rfl | rfl | rfl | rfl <;> omega
        generalize (d1 - 3) * m = cc at *
        generalize d2 - 9 = y at *
        have ep10 : H9 lp = some (.lst ((pt ++ [y]).map V.int)) := by rw [ep9, List.map_append]; rfl
        clear ep9
        have A9 : ImAll K H9 refs (ts.map tD) := by walk_at "cg h"
        have et9 : H9 lt = some (.lst refs) := by walk_at "cg h"
        have T9 : Tp t c H9 := by walk_at "cg h"
        have sm : sumAt ts (pt ++ [y]) = sumAt ts pt := sumAt_more ts pt y fun z hz => by
          have q := hT z hz
          omega
        clear T8 k8 k9 T7 k7 T6 et hA ep
        refine if_S (fun hc0 => ?_) (fun hc0 => ?_)
        · walk_at "cg"
          rename_i pn H10 hpn sn k10 H11 e11 k11
          have y0 : (pt ++ [y]).getD i 0 = y := by
            rw [← hpl]
            simp
          refine r_ixL (v := .int y) (by walk_at "cg h") (by rw [atI_ints (by omega) (by simp; omega)]; rw [show (0 + (i : Int)).toNat = i by omega, y0]) ?_
          walk_at "cg"
          have e7 : sumAt (ts ++ [((i : Int), cc)]) (pt ++ [y]) = sumAt ts pt + cc * y := by
            rw [sumAt_snoc, sm]
            show _ + cc * (pt ++ [y]).getD (i : Int).toNat 0 = _
            rw [show (i : Int).toNat = i by omega, y0]
          refine ⟨ts ++ [((i : Int), cc)], pt ++ [y], refs ++ [.ref pn], some (.int (0 + (i : Int))), some (.int cc), by rw [e7], by walk_at "cg h", e11, ?_, by walk_at "cg h", by simp [hpl], by simp; omega, fun z hz => ?_⟩
          · rw [List.map_append]
            refine (k11.imAll (k10.imAll A9)).snoc (.tup (k11.tup sn) ?_)
            rw [show (0 + (i : Int)) = (i : Int) by omega]
            exact .cons (.int _) (.cons (.int _) .nil)
          · rcases List.mem_append.mp hz with h | h
            · have q := hT z h
              omega
            · rw [List.mem_singleton] at h
              subst h
              simp only
              omega
        · walk_at "cg"
          refine ⟨ts, pt ++ [y], refs, _, _, by rw [sm], T9, et9, A9, ep10, by simp [hpl], by omega, fun z hz => ?_⟩
          have q := hT z hz
          omega
      · rintro σ' H6 ⟨ts, pt, refs, x6, x7, rfl, T6, et, hA, ep, hpl, htl, hT⟩
        have hrl := hA.length
        rw [List.length_map] at hrl
        clear T5 e1 e2
        walk_at "cg"
        refine ix_rel3 (by walk_at "cg h") (by assumption) (by assumption) fun r hr => ?_
        walk_at "cg"
        rename_i _ _ _ _ _ _ _ _ _ _ _ d2 H7 q0 q4 T7 k7 pq H8 hpq sq k8 pu H9 hpu su k9
        generalize en : sumAt ts pt + d2 - 2 = rhs at *
        have et9 : H9 lt = some (.lst refs) := by walk_at "cg h"
        have ep9 : H9 lp = some (.lst (pt.map V.int)) := by walk_at "cg h"
        have A9 : ImAll K H9 refs (ts.map tD) := by walk_at "cg h"
        have up : Im K H9 (.ref pu) (rowD ts rhs) := .tup su (.cons (.str _) (.cons (.tup (by walk_at "cg h") (by walk_at "cg h")) (.cons (.int _) .nil)))
        have TO : TmOk ts pt.length := fun z hz => by
          have q := hT z hz
          omega
        clear T7 k7 hpq sq k8 hpu su k9 hA et ep T6
        refine r_lcL refs (fun D i H' => Kp [] H9 H' ∧ H9 D = none ∧ ∃ acc, H' D = some (.lst acc) ∧ ImAll K H' acc ((negT (ts.take i)).map tD)) (fun D H2 hD e2 k2 => ⟨k2, hD, [], e2, .nil⟩) (fun D i H' ⟨k2, _⟩ => k2.get0 et9) ?_ ?_
        · rintro D i x H' hx ⟨k2, hD, acc, eD, hA⟩
          obtain ⟨d, hd, hxd⟩ := A9.get hx
          rw [List.getElem?_map] at hd
          cases hz : ts[i]? with
          | none =>
            rw [hz] at hd
            cases hd
          | some z =>
            rw [hz] at hd
            cases hd
            obtain ⟨px, rfl⟩ := hxd.isRef
            have hs := hxd.sq rfl
            have hal := hA.length
            rw [List.length_map] at hal
            unfold negT at hal
            rw [List.length_map, List.length_take] at hal
            walk_at "cg"
            rename_i pn H3 hpn hsn k3
            refine r_ap (by walk_at "cg h") (small1000 (by omega)) fun H4 e4 k4 => ?_
            refine ⟨by walk_at "cg kp", hD, _, e4, ?_⟩
            have e5 : (negT (ts.take (i + 1))).map tD = (negT (ts.take i)).map tD ++ [tD (z.1, 0 - z.2)] := by
              unfold negT
              rw [map_take_snoc hz, List.map_append, Int.zero_sub]
              rfl
            rw [e5]
            exact (k4.imAll (k3.imAll hA)).snoc (.tup (k4.tup hsn) (.cons (.int _) (.cons (.int _) .nil)))
        · rintro D H' ⟨k2, hD, acc, eD, hA⟩
          have e : ts.take refs.length = ts := by rw [hrl, List.take_length]
          rw [e] at hA
          have TL : ts.length ≤ 1000 := by omega
          have DN : Im K H' (.ref pu) (rowD ts rhs) := k2.im up
          walk_at "cg"
          rename_i pd H10 hpd sd k10 pw H11 hpw sw k11 lu H12 hlu elu k12
          have dn1 : Im K H10 (.ref pd) (tmD (negT ts)) := .tup sd (k10.imAll hA)
          have dn : Im K H11 (.ref pw) (rowD (negT ts) (-rhs)) := by
            rw [← Int.zero_sub]
            exact .tup sw (.cons (.str _) (.cons (k11.im dn1) (.cons (.int _) .nil)))
          have RO := rowsL_ok (r := r) (n := rhs) TO
          have RH := rows_hold ts r rhs pt hr
          cases r
          · walk_at "cg"
            rename_i ld H13 _ eld k13 _ _ _ _ _
            have due : ImAll K H13 [.ref pu] (rowsD ts .le rhs) := .cons (by walk_at "cg h") .nil
            refine ⟨_, ts, Rel.le, rhs, rfl, .tup (by walk_at "cg h") (by walk_at "cg h"), TL, fun l xs H14 hl el Al kl => ?_⟩
            walk_at "cg"
            refine ⟨.list (rowsD ts Rel.le rhs), .list (rowsD ts Rel.le rhs), .lst (SqL.of (by walk_at "cg h")) (ImAll.dp (by walk_at "cg h")), .lst (SqL.of (by walk_at "cg h")) (ImAll.dp (by walk_at "cg h")), (rowsD_shp _ _ _).ok, (rowsD_shp _ _ _).ok, ?_⟩
            rw [(rowsD_shp _ _ _).self]
            walk_at "cg"
            refine ⟨_, ts, rfl, .tup (by walk_at "cg h") (by walk_at "cg h"), TL, fun p' H15 I' k' => ?_⟩
            walk_at "cg"
            refine ⟨tmD (negT ts), tmD (negT ts), I'.dp, (Im.dp (by walk_at "cg h")), (tmD_shp _).ok, (tmD_shp _).ok, ?_⟩
            rw [(tmD_shp _).self]
            walk_at "cg"
            refine ⟨_, _, ts, pt, rfl, .tup (by walk_at "cg h") (by walk_at "cg h"), by walk_at "cg h", TO, ?_⟩
            walk_at "cg"
            rename_i H16 _ _ _
            have A16 : ImAll K H16 xs (rowsD ts Rel.le rhs) := by walk_at "cg h"
            have e16 : H16 l = some (.lst xs) := by walk_at "cg h"
            have p16 : H16 lp = some (.lst (pt.map V.int)) := by walk_at "cg h"
            have xl := A16.length
            rw [rowsD_eq, List.length_map] at xl
            refine r_forL xs (fun i σ' H' => ∃ x16 x17 x18 : Option V, σ' = [some (.ref a), some (.ref t), some (.int m), some (.ref lt), some (.ref lp), some (.int (sumAt ts pt)), x6, x7, some (.str Rel.le.s), some (.int rhs), some (.ref pu), some (.ref pw), some (.ref ld), some (.bl (Rel.le.h (sumAt ts pt) rhs)), some (.ref l), some (.bl (((rowsL ts Rel.le rhs).take i).all fun z => decide (sumAt z.1 pt ≤ z.2))), x16, x17, x18] ∧ Kp [] H16 H') ⟨none, none, none, rfl, Kp.refl⟩ (fun i σ' H' ⟨_, _, _, _, k⟩ => k.get0 e16) ?_ ?_
            · rintro i x σ' H17 hx ⟨x16, x17, x18, rfl, k17⟩
              obtain ⟨d, hd, hxd⟩ := A16.get hx
              rw [rowsD_eq, List.getElem?_map] at hd
              cases hz : (rowsL ts Rel.le rhs)[i]? with
              | none =>
                rw [hz] at hd
                cases hd
              | some z =>
                rw [hz] at hd
                cases hd
                obtain ⟨px, rfl⟩ := hxd.isRef
                obtain ⟨qx, sx, ix⟩ := row_open hxd
                have TZ := RO z (List.mem_of_getElem? hz)
                walk_at "cg"
                refine ⟨_, _, z.1, pt, rfl, by walk_at "cg h", by walk_at "cg h", TZ, ?_⟩
                walk_at "cg"
                refine if_S (fun hc => ?_) (fun hc => ?_)
                · walk_at "cg"
                  exact ⟨some (.str (Str.ofString "row")), some (.ref qx), some (.int z.2), by rw [all_take hz, decide_eq_false (by omega : ¬ sumAt z.1 pt ≤ z.2), Bool.and_false], by walk_at "cg kp"⟩
                · walk_at "cg"
                  exact ⟨some (.str (Str.ofString "row")), some (.ref qx), some (.int z.2), by rw [all_take hz, decide_eq_true (by omega : sumAt z.1 pt ≤ z.2), Bool.and_true], by walk_at "cg kp"⟩
            · rintro σ' H17 ⟨x16, x17, x18, rfl, k17⟩
              walk_at "cg"
              rw [xl, List.take_length, RH, decide_eq_true rfl]
              exact q _
          · walk_at "cg"
            rename_i ld H13 _ eld k13 _ _ _ _ _
            have due : ImAll K H13 [.ref pw] (rowsD ts .ge rhs) := .cons (by walk_at "cg h") .nil
            refine ⟨_, ts, Rel.ge, rhs, rfl, .tup (by walk_at "cg h") (by walk_at "cg h"), TL, fun l xs H14 hl el Al kl => ?_⟩
            walk_at "cg"
            refine ⟨.list (rowsD ts Rel.ge rhs), .list (rowsD ts Rel.ge rhs), .lst (SqL.of (by walk_at "cg h")) (ImAll.dp (by walk_at "cg h")), .lst (SqL.of (by walk_at "cg h")) (ImAll.dp (by walk_at "cg h")), (rowsD_shp _ _ _).ok, (rowsD_shp _ _ _).ok, ?_⟩
            rw [(rowsD_shp _ _ _).self]
            walk_at "cg"
            refine ⟨_, ts, rfl, .tup (by walk_at "cg h") (by walk_at "cg h"), TL, fun p' H15 I' k' => ?_⟩
            walk_at "cg"
            refine ⟨tmD (negT ts), tmD (negT ts), I'.dp, (Im.dp (by walk_at "cg h")), (tmD_shp _).ok, (tmD_shp _).ok, ?_⟩
            rw [(tmD_shp _).self]
            walk_at "cg"
            refine ⟨_, _, ts, pt, rfl, .tup (by walk_at "cg h") (by walk_at "cg h"), by walk_at "cg h", TO, ?_⟩
            walk_at "cg"
            rename_i H16 _ _ _
            have A16 : ImAll K H16 xs (rowsD ts Rel.ge rhs) := by walk_at "cg h"
            have e16 : H16 l = some (.lst xs) := by walk_at "cg h"
            have p16 : H16 lp = some (.lst (pt.map V.int)) := by walk_at "cg h"
            have xl := A16.length
            rw [rowsD_eq, List.length_map] at xl
            refine r_forL xs (fun i σ' H' => ∃ x16 x17 x18 : Option V, σ' = [some (.ref a), some (.ref t), some (.int m), some (.ref lt), some (.ref lp), some (.int (sumAt ts pt)), x6, x7, some (.str Rel.ge.s), some (.int rhs), some (.ref pu), some (.ref pw), some (.ref ld), some (.bl (Rel.ge.h (sumAt ts pt) rhs)), some (.ref l), some (.bl (((rowsL ts Rel.ge rhs).take i).all fun z => decide (sumAt z.1 pt ≤ z.2))), x16, x17, x18] ∧ Kp [] H16 H') ⟨none, none, none, rfl, Kp.refl⟩ (fun i σ' H' ⟨_, _, _, _, k⟩ => k.get0 e16) ?_ ?_
            · rintro i x σ' H17 hx ⟨x16, x17, x18, rfl, k17⟩
              obtain ⟨d, hd, hxd⟩ := A16.get hx
              rw [rowsD_eq, List.getElem?_map] at hd
              cases hz : (rowsL ts Rel.ge rhs)[i]? with
              | none =>
                rw [hz] at hd
                cases hd
              | some z =>
                rw [hz] at hd
                cases hd
                obtain ⟨px, rfl⟩ := hxd.isRef
                obtain ⟨qx, sx, ix⟩ := row_open hxd
                have TZ := RO z (List.mem_of_getElem? hz)
                walk_at "cg"
                refine ⟨_, _, z.1, pt, rfl, by walk_at "cg h", by walk_at "cg h", TZ, ?_⟩
                walk_at "cg"
                refine if_S (fun hc => ?_) (fun hc => ?_)
                · walk_at "cg"
                  exact ⟨some (.str (Str.ofString "row")), some (.ref qx), some (.int z.2), by rw [all_take hz, decide_eq_false (by omega : ¬ sumAt z.1 pt ≤ z.2), Bool.and_false], by walk_at "cg kp"⟩
                · walk_at "cg"
                  exact ⟨some (.str (Str.ofString "row")), some (.ref qx), some (.int z.2), by rw [all_take hz, decide_eq_true (by omega : sumAt z.1 pt ≤ z.2), Bool.and_true], by walk_at "cg kp"⟩
            · rintro σ' H17 ⟨x16, x17, x18, rfl, k17⟩
              walk_at "cg"
              rw [xl, List.take_length, RH, decide_eq_true rfl]
              exact q _
          · walk_at "cg"
            have due : ImAll K H12 [.ref pu, .ref pw] (rowsD ts .eq rhs) := .cons (by walk_at "cg h") (.cons (by walk_at "cg h") .nil)
            refine ⟨_, ts, Rel.eq, rhs, rfl, .tup (by walk_at "cg h") (by walk_at "cg h"), TL, fun l xs H14 hl el Al kl => ?_⟩
            walk_at "cg"
            refine ⟨.list (rowsD ts Rel.eq rhs), .list (rowsD ts Rel.eq rhs), .lst (SqL.of (by walk_at "cg h")) (ImAll.dp (by walk_at "cg h")), .lst (SqL.of (by walk_at "cg h")) (ImAll.dp (by walk_at "cg h")), (rowsD_shp _ _ _).ok, (rowsD_shp _ _ _).ok, ?_⟩
            rw [(rowsD_shp _ _ _).self]
            walk_at "cg"
            refine ⟨_, ts, rfl, .tup (by walk_at "cg h") (by walk_at "cg h"), TL, fun p' H15 I' k' => ?_⟩
            walk_at "cg"
            refine ⟨tmD (negT ts), tmD (negT ts), I'.dp, (Im.dp (by walk_at "cg h")), (tmD_shp _).ok, (tmD_shp _).ok, ?_⟩
            rw [(tmD_shp _).self]
            walk_at "cg"
            refine ⟨_, _, ts, pt, rfl, .tup (by walk_at "cg h") (by walk_at "cg h"), by walk_at "cg h", TO, ?_⟩
            walk_at "cg"
            rename_i H16 _ _ _
            have A16 : ImAll K H16 xs (rowsD ts Rel.eq rhs) := by walk_at "cg h"
            have e16 : H16 l = some (.lst xs) := by walk_at "cg h"
            have p16 : H16 lp = some (.lst (pt.map V.int)) := by walk_at "cg h"
            have xl := A16.length
            rw [rowsD_eq, List.length_map] at xl
            refine r_forL xs (fun i σ' H' => ∃ x16 x17 x18 : Option V, σ' = [some (.ref a), some (.ref t), some (.int m), some (.ref lt), some (.ref lp), some (.int (sumAt ts pt)), x6, x7, some (.str Rel.eq.s), some (.int rhs), some (.ref pu), some (.ref pw), some (.ref lu), some (.bl (Rel.eq.h (sumAt ts pt) rhs)), some (.ref l), some (.bl (((rowsL ts Rel.eq rhs).take i).all fun z => decide (sumAt z.1 pt ≤ z.2))), x16, x17, x18] ∧ Kp [] H16 H') ⟨none, none, none, rfl, Kp.refl⟩ (fun i σ' H' ⟨_, _, _, _, k⟩ => k.get0 e16) ?_ ?_
            · rintro i x σ' H17 hx ⟨x16, x17, x18, rfl, k17⟩
              obtain ⟨d, hd, hxd⟩ := A16.get hx
              rw [rowsD_eq, List.getElem?_map] at hd
              cases hz : (rowsL ts Rel.eq rhs)[i]? with
              | none =>
                rw [hz] at hd
                cases hd
              | some z =>
                rw [hz] at hd
                cases hd
                obtain ⟨px, rfl⟩ := hxd.isRef
                obtain ⟨qx, sx, ix⟩ := row_open hxd
                have TZ := RO z (List.mem_of_getElem? hz)
                walk_at "cg"
                refine ⟨_, _, z.1, pt, rfl, by walk_at "cg h", by walk_at "cg h", TZ, ?_⟩
                walk_at "cg"
                refine if_S (fun hc => ?_) (fun hc => ?_)
                · walk_at "cg"
                  exact ⟨some (.str (Str.ofString "row")), some (.ref qx), some (.int z.2), by rw [all_take hz, decide_eq_false (by omega : ¬ sumAt z.1 pt ≤ z.2), Bool.and_false], by walk_at "cg kp"⟩
                · walk_at "cg"
                  exact ⟨some (.str (Str.ofString "row")), some (.ref qx), some (.int z.2), by rw [all_take hz, decide_eq_true (by omega : sumAt z.1 pt ≤ z.2), Bool.and_true], by walk_at "cg kp"⟩
            · rintro σ' H17 ⟨x16, x17, x18, rfl, k17⟩
              walk_at "cg"
              rw [xl, List.take_length, RH, decide_eq_true rfl]
              exact q _
          · exact absurd rfl hr
end
theorem all_mk {l : PySem.W.OpenLaw} {w : World} {K : PySem.W.Frag} {h : Heap} {mg : Str → Option Value} {fa : Addr} (X : K.In h) (G : h.Ns mainGlobals mg) (hfa : mg "law" = some (.ref fa))
    {od_terms_sum an_terms_sum : Option Addr} {sl_terms_sum : Array (Option Value)} {f_terms_sum : Addr} {oc_terms_sum kV_terms_sum dc_terms_sum pm_terms_sum cd_terms_sum ct_terms_sum : Value}
    {od_negated_terms an_negated_terms : Option Addr} {sl_negated_terms : Array (Option Value)} {f_negated_terms : Addr} {oc_negated_terms kV_negated_terms dc_negated_terms pm_negated_terms cd_negated_terms ct_negated_terms : Value}
    {od_rows_of an_rows_of : Option Addr} {sl_rows_of : Array (Option Value)} {f_rows_of : Addr} {oc_rows_of kV_rows_of dc_rows_of pm_rows_of cd_rows_of ct_rows_of : Value}
    {od_law_draw an_law_draw : Option Addr} {sl_law_draw : Array (Option Value)} {f_law_draw : Addr} {oc_law_draw kV_law_draw dc_law_draw pm_law_draw cd_law_draw ct_law_draw : Value}
    {od_law_tape an_law_tape : Option Addr} {sl_law_tape : Array (Option Value)} {f_law_tape : Addr} {oc_law_tape kV_law_tape dc_law_tape pm_law_tape cd_law_tape ct_law_tape : Value}
    {od_law an_law : Option Addr} {sl_law : Array (Option Value)} {f_law : Addr} {oc_law kV_law dc_law pm_law cd_law ct_law : Value}
    (a_terms_sum : PySem.W.nsIn K mainGlobals "terms_sum" = some (some (.ref f_terms_sum))) (l_terms_sum : K.lookup f_terms_sum = some ⟨oc_terms_sum, od_terms_sum, .func (PySem.W.fnOf "terms_sum" "terms_sum" (defArgs s_terms_sum) (defBody s_terms_sum) (defScope s_terms_sum) .none kV_terms_sum dc_terms_sum pm_terms_sum an_terms_sum cd_terms_sum ct_terms_sum), sl_terms_sum⟩) (c_terms_sum : PySem.W.codeIn K cd_terms_sum "terms_sum" = true) (k_terms_sum : PySem.W.keepIn K (.ref f_terms_sum) = true)
    (a_negated_terms : PySem.W.nsIn K mainGlobals "negated_terms" = some (some (.ref f_negated_terms))) (l_negated_terms : K.lookup f_negated_terms = some ⟨oc_negated_terms, od_negated_terms, .func (PySem.W.fnOf "negated_terms" "negated_terms" (defArgs s_negated_terms) (defBody s_negated_terms) (defScope s_negated_terms) .none kV_negated_terms dc_negated_terms pm_negated_terms an_negated_terms cd_negated_terms ct_negated_terms), sl_negated_terms⟩) (c_negated_terms : PySem.W.codeIn K cd_negated_terms "negated_terms" = true) (k_negated_terms : PySem.W.keepIn K (.ref f_negated_terms) = true)
    (a_rows_of : PySem.W.nsIn K mainGlobals "rows_of" = some (some (.ref f_rows_of))) (l_rows_of : K.lookup f_rows_of = some ⟨oc_rows_of, od_rows_of, .func (PySem.W.fnOf "rows_of" "rows_of" (defArgs s_rows_of) (defBody s_rows_of) (defScope s_rows_of) .none kV_rows_of dc_rows_of pm_rows_of an_rows_of cd_rows_of ct_rows_of), sl_rows_of⟩) (c_rows_of : PySem.W.codeIn K cd_rows_of "rows_of" = true) (k_rows_of : PySem.W.keepIn K (.ref f_rows_of) = true)
    (a_law_draw : PySem.W.nsIn K mainGlobals "_law_draw" = some (some (.ref f_law_draw))) (l_law_draw : K.lookup f_law_draw = some ⟨oc_law_draw, od_law_draw, .func (PySem.W.fnOf "_law_draw" "_law_draw" (defArgs s_law_draw) (defBody s_law_draw) (defScope s_law_draw) .none kV_law_draw dc_law_draw pm_law_draw an_law_draw cd_law_draw ct_law_draw), sl_law_draw⟩) (c_law_draw : PySem.W.codeIn K cd_law_draw "_law_draw" = true) (k_law_draw : PySem.W.keepIn K (.ref f_law_draw) = true)
    (a_law_tape : PySem.W.nsIn K mainGlobals "_law_tape" = some (some (.ref f_law_tape))) (l_law_tape : K.lookup f_law_tape = some ⟨oc_law_tape, od_law_tape, .func (PySem.W.fnOf "_law_tape" "_law_tape" (defArgs s_law_tape) (defBody s_law_tape) (defScope s_law_tape) .none kV_law_tape dc_law_tape pm_law_tape an_law_tape cd_law_tape ct_law_tape), sl_law_tape⟩) (c_law_tape : PySem.W.codeIn K cd_law_tape "_law_tape" = true) (k_law_tape : PySem.W.keepIn K (.ref f_law_tape) = true)
    (a_law : PySem.W.nsIn K mainGlobals "law" = some (some (.ref f_law))) (l_law : K.lookup f_law = some ⟨oc_law, od_law, .func (PySem.W.fnOf "law" "law" (defArgs s_law) (defBody s_law) (defScope s_law) .none kV_law dc_law pm_law an_law cd_law ct_law), sl_law⟩) (c_law : PySem.W.codeIn K cd_law "law" = true) (k_law : PySem.W.keepIn K (.ref f_law) = true)
    (z_len : PySem.W.nsIn K mainGlobals "len" = some none)
    (z_int : PySem.W.nsIn K mainGlobals "int" = some none)
    (z_list : PySem.W.nsIn K mainGlobals "list" = some none)
    (z_isinstance : PySem.W.nsIn K mainGlobals "isinstance" = some none)
    (z_tuple : PySem.W.nsIn K mainGlobals "tuple" = some none)
    (z_range : PySem.W.nsIn K mainGlobals "range" = some none)
    : ∃ fd : FuncData, (∀ (s : Shared) (v : Value), BindsTo s fd ⟨[v], []⟩ [("_law_script", v)]) ∧ ∀ base : Heap, K.In base → base.Ns mainGlobals mg → FnOk l.prog w K mg base CX0 3 fa fd ["_law_script"] ((spLaw K)) := by
  have e := hfa.symm.trans (PySem.W.mg_of X G a_law)
  cases e
  have B : Bi K mg := { n_len := PySem.W.mg_none_of X G z_len, n_int := PySem.W.mg_none_of X G z_int, n_list := PySem.W.mg_none_of X G z_list, n_isinstance := PySem.W.mg_none_of X G z_isinstance, n_tuple := PySem.W.mg_none_of X G z_tuple, n_range := PySem.W.mg_none_of X G z_range }
  have F_terms_sum := fun_mk (st := s_terms_sum) l_terms_sum c_terms_sum k_terms_sum
  have b_terms_sum := F_terms_sum.binds (ps := ["terms", "point"]) fun _ _ _ _ _ _ us hl => match us, hl with | [_, _], _ => rfl
  have F_negated_terms := fun_mk (st := s_negated_terms) l_negated_terms c_negated_terms k_negated_terms
  have b_negated_terms := F_negated_terms.binds (ps := ["terms"]) fun _ _ _ _ _ _ us hl => match us, hl with | [_], _ => rfl
  have F_rows_of := fun_mk (st := s_rows_of) l_rows_of c_rows_of k_rows_of
  have b_rows_of := F_rows_of.binds (ps := ["terms", "relation", "rhs"]) fun _ _ _ _ _ _ us hl => match us, hl with | [_, _, _], _ => rfl
  have F_law_draw := fun_mk (st := s_law_draw) l_law_draw c_law_draw k_law_draw
  have b_law_draw := F_law_draw.binds (ps := ["_law_tape_here", "_law_many"]) fun _ _ _ _ _ _ us hl => match us, hl with | [_, _], _ => rfl
  have F_law_tape := fun_mk (st := s_law_tape) l_law_tape c_law_tape k_law_tape
  have b_law_tape := F_law_tape.binds (ps := ["_law_script"]) fun _ _ _ _ _ _ us hl => match us, hl with | [_], _ => rfl
  refine ⟨PySem.W.fnOf "law" "law" (defArgs s_law) (defBody s_law) (defScope s_law) .none kV_law dc_law pm_law an_law cd_law ct_law, fun s v => .of_eq rfl, fun base _ _ => ?_⟩
  have D_terms_sum : Is l.prog w K mg base CX0 1 "terms_sum" ["terms", "point"] (spSum K) := ⟨_, _, ok_terms_sum F_terms_sum B , PySem.W.mg_of X G a_terms_sum, k_terms_sum, b_terms_sum⟩
  have D_negated_terms : Is l.prog w K mg base CX0 1 "negated_terms" ["terms"] (spNegT K) := ⟨_, _, ok_negated_terms F_negated_terms B , PySem.W.mg_of X G a_negated_terms, k_negated_terms, b_negated_terms⟩
  have D_rows_of : Is l.prog w K mg base CX0 2 "rows_of" ["terms", "relation", "rhs"] (spRows K) := ⟨_, _, ok_rows_of F_rows_of B D_negated_terms, PySem.W.mg_of X G a_rows_of, k_rows_of, b_rows_of⟩
  have D_law_draw : Is l.prog w K mg base CX0 1 "_law_draw" ["_law_tape_here", "_law_many"] spDraw := ⟨_, _, ok_law_draw F_law_draw B , PySem.W.mg_of X G a_law_draw, k_law_draw, b_law_draw⟩
  have D_law_tape : Is l.prog w K mg base CX0 1 "_law_tape" ["_law_script"] (spTape K) := ⟨_, _, ok_law_tape F_law_tape B , PySem.W.mg_of X G a_law_tape, k_law_tape, b_law_tape⟩
  exact ok_law (fun_mk (st := s_law) l_law c_law k_law) B D_law_tape D_rows_of D_law_draw D_terms_sum D_negated_terms
theorem walk {l : PySem.W.OpenLaw} {q : Program} {loose : List Str} {XP : (Str → Option Value) → Heap → Prop} {YP : World → Heap → Prop} {d : DefRec} {K : Params → PySem.W.Frag} (hn : l.most = some 63) (hdf : d.params.defaults = [])
    (hY : ∀ (w : World) (h : Heap), YP w h → (K w.params).In h)
    (F : ∀ (w : World) (mg : Str → Option Value) (fa : Addr) (h : Heap), (K w.params).In h → h.Ns mainGlobals mg → mg d.name = some (.ref fa) →
      ∃ fd : FuncData, (∀ (s : Shared) (u : Value), BindsTo s fd ⟨[u], []⟩ [("_law_script", u)]) ∧ ∀ base : Heap, (K w.params).In base → base.Ns mainGlobals mg → FnOk l.prog w (K w.params) mg base CX0 3 fa fd ["_law_script"] (spLaw (K w.params))) :
    PySem.W.WalkO q loose XP YP l.row.toRowW d [] (fun f vs => PySem.call f vs) :=
  L2.walk_of (n := 63) (k := 3) (x := "_law_script") (CX := fun _ => CX0) (sp := fun w => spLaw (K w.params)) hn (by decide) hdf ⟨rfl, by decide, by decide⟩ hY F (fun _ _ a ns hl _ hS => ⟨a, ns, rfl, hS, hl, fun _ => rfl⟩) fun _ _ _ _ _ z => z
end CG

open PySem PySem.W PyProof.Rows in
set_option maxRecDepth 100000 in
set_option maxHeartbeats 0 in
theorem PySem.Challenge.cw_commonground_k03_rows_of_a_condition_holds : PySem.Challenge.rw_commonground_k03_rows_of_a_condition.Holds := by
  w_on; o_law; k_head; (case hw => w_witness2)
  k_fill
  refine CG.walk (l := PySem.Challenge.rw_commonground_k03_rows_of_a_condition) rfl rfl (fun w h Y => PySem.W.kIn_of Y) ?F
  case F =>
    intro w mg fa h KX G hmg
    refine' CG.all_mk KX G hmg ?a_terms_sum ?l_terms_sum ?c_terms_sum ?k_terms_sum ?a_negated_terms ?l_negated_terms ?c_negated_terms ?k_negated_terms ?a_rows_of ?l_rows_of ?c_rows_of ?k_rows_of ?a_law_draw ?l_law_draw ?c_law_draw ?k_law_draw ?a_law_tape ?l_law_tape ?c_law_tape ?k_law_tape ?a_law ?l_law ?c_law ?k_law ?z_len ?z_int ?z_list ?z_isinstance ?z_tuple ?z_range
    (case a_terms_sum => k_is)
    (case l_terms_sum => k_is)
    (case c_terms_sum => k_is)
    (case k_terms_sum => k_is)
    (case a_negated_terms => k_is)
    (case l_negated_terms => k_is)
    (case c_negated_terms => k_is)
    (case k_negated_terms => k_is)
    (case a_rows_of => k_is)
    (case l_rows_of => k_is)
    (case c_rows_of => k_is)
    (case k_rows_of => k_is)
    (case a_law_draw => k_is)
    (case l_law_draw => k_is)
    (case c_law_draw => k_is)
    (case k_law_draw => k_is)
    (case a_law_tape => k_is)
    (case l_law_tape => k_is)
    (case c_law_tape => k_is)
    (case k_law_tape => k_is)
    (case a_law => k_is)
    (case l_law => k_is)
    (case c_law => k_is)
    (case k_law => k_is)
    (case z_len => k_is)
    (case z_int => k_is)
    (case z_list => k_is)
    (case z_isinstance => k_is)
    (case z_tuple => k_is)
    (case z_range => k_is)
#print axioms PySem.Challenge.cw_commonground_k03_rows_of_a_condition_holds
