import PyProof.Rows.All
import Wide.All
import OpenK.AllK
import Wide.FinOn
import HandS.ForMost
import HandS.Wide
import HandS.IsInst
import HandS.Evl
import HandS.Walk
import HandS.Conv
import PySem.Challenge.RW_commonground_k02_literal_implies
set_option Elab.async false
set_option linter.all false
set_option maxRecDepth 100000
set_option maxHeartbeats 4000000

/-! ### ground: calls by a bundle, frames, step rules -/
namespace CG
open PySem L2

structure Is (P : Program) (w : World) (K : PySem.W.Frag) (mg : Str → Option Value) (base : Heap) (CX : CXT) (k : Nat) (x : Str) (ps : List Str) (sp : Sp) : Prop where
  ex : ∃ (f : Addr) (fd : FuncData), FnOk P w K mg base CX k f fd ps sp ∧ mg x = some (.ref f) ∧ PySem.W.keepIn K (.ref f) = true ∧ Binds K fd ps []

def tCl (sp : Sp) (E : XK) (t : TA) : TE := fun σ H Q => t σ H fun vs H1 => sp vs H1 Q E
section
variable {X : Cx} {CX : CXT} {k : Nat} {x : Str} {ps : List Str} {sp : Sp} {E : XK} {t : TA} {p pos : Pos} {e : Expr} {es : List Expr}
theorem pe_is (D : Is X.prog X.w X.K X.mg X.base CX k x ps sp) (hr : Room k X.A) (hg : Gl X x) (hx : Passes CX X E) (ha : PA X (e :: es) t) (hdb : (x == ("__debug__" : Str)) = false := by decide)
    (he : starEach (e :: es) X.env = (false, eval e X.env) :: starEach es X.env := by rfl) (hpl : (backTo pos (starEach es X.env)).any (·.1) = false := by rfl) : PE X (.Call (.Name x p) (e :: es) [] pos) (tCl sp E t) := by
  obtain ⟨f, fd, F, hm, hk, hb⟩ := D.ex
  have q := pe_call (p := p) F hr hg hm hk hb Paired.nil hx ha hdb he hpl
  have e1 : tCall sp [] E t = tCl sp E t := by
    funext σ H Q
    show (t σ H fun vs H1 => sp (vs ++ []) H1 Q E) = (t σ H fun vs H1 => sp vs H1 Q E)
    simp only [List.append_nil]
  rw [← e1]
  exact q
theorem pe_gc {v : V} {j : Pos} (hg : Gl X x) (hm : ∃ u, X.mg x = some u ∧ RelV v u) (hdb : (x == ("__debug__" : Str)) = false := by decide) (hnm : x ≠ "__name__" := by decide) : PE X (.Name x j) (tC v) := by
  obtain ⟨u, h1, h2⟩ := hm
  exact pe_glob hg h1 h2 hdb
end

/-- all that is tracked stands, but at S, where things are written -/
structure Kp (S : List Addr) (H H' : Hp) : Prop where
  k : ∀ b o, ¬ b ∈ S → H b = some o → H' b = some o
  mu : ∀ b, b ∈ S → Mut (H b)
/-- the same from the entry: what is new since is free -/
def Fm (S : List Addr) (H H' : Hp) : Prop := ∀ b o, ¬ b ∈ S → H b = some o → H' b = some o
section
variable {S S' : List Addr} {H H0 H1 H2 : Hp} {a p : Addr} {o o' : HO} {xs : List V} {K : PySem.W.Frag}
theorem Fm.start : Fm S H H := fun _ _ _ h => h
theorem Kp.refl : Kp [] H H := ⟨fun _ _ _ h => h, fun _ h => nomatch h⟩
theorem Kp.new (hp : H p = none) : Kp [] H (upd H p o) := ⟨fun b u _ h => by rw [upd_ne (ne_of_none h hp)]; exact h, fun _ h => nomatch h⟩
theorem Kp.put (hp : H p = some o) (hm : Mut (some o)) : Kp [p] H (upd H p o') := ⟨fun b u hb h => by rw [upd_ne (fun e => hb (by simp [e]))]; exact h, fun b hb => by
  rw [List.mem_singleton] at hb
  subst hb
  rw [hp]
  exact hm⟩
theorem Fm.go (f : Fm S H0 H) (k : Kp S' H H1) (h : ∀ a, a ∈ S' → a ∈ S ∨ H0 a = none) : Fm S H0 H1 := fun b o hb e => by
  refine k.k b o (fun hm => ?_) (f b o hb e)
  rcases h b hm with q | q
  · exact hb q
  · rw [q] at e
    cases e
theorem Fm.go0 (f : Fm S H0 H) (k : Kp [] H H1) : Fm S H0 H1 := f.go k fun _ h => nomatch h
theorem Fm.kp (f : Fm S H0 H) (mu : ∀ b, b ∈ S → Mut (H0 b)) : Kp S H0 H := ⟨f, mu⟩
theorem Fm.free (f : Fm S H0 H) (h : H p = none) (hs : ∀ b, b ∈ S → ∃ o, H b = some o) : H0 p = none := by
  cases q : H0 p with
  | none => rfl
  | some o =>
    by_cases hb : p ∈ S
    · obtain ⟨o, e⟩ := hs p hb
      rw [h] at e
      cases e
    · rw [f p o hb q] at h
      cases h
theorem Kp.free (f : Kp S H0 H) (h : H p = none) (hs : ∀ b, b ∈ S → ∃ o, H b = some o) : H0 p = none := Fm.free (S := S) f.k h hs
theorem Kp.free0 (f : Kp [] H0 H) (h : H p = none) : H0 p = none := f.free h fun _ hm => by cases hm
theorem Kp.get (k : Kp S H H1) (hn : ¬ a ∈ S) (h : H a = some o) : H1 a = some o := k.k _ _ hn h
theorem Kp.get0 (k : Kp [] H H1) (h : H a = some o) : H1 a = some o := k.k _ _ (fun h => nomatch h) h
theorem Kp.get1 (k : Kp [p] H H1) (hn : a ≠ p) (h : H a = some o) : H1 a = some o := k.k _ _ (fun h => hn (by simpa using h)) h
theorem Kp.tup (k : Kp S H H1) (h : SqT K H a xs) : SqT K H1 a xs := by
  rcases h with (h | ⟨u, h⟩) | h
  · exact .inl (.inl (k.k _ _ (fun hm => by have q := k.mu _ hm; rw [h] at q; exact q) h))
  · exact .inl (.inr ⟨u, k.k _ _ (fun hm => by have q := k.mu _ hm; rw [h] at q; exact q) h⟩)
  · exact .inr h
theorem Kp.trans (a : Kp [] H0 H1) (b : Kp [] H1 H2) : Kp [] H0 H2 := ⟨fun c o _ h => b.get0 (a.get0 h), fun _ h => nomatch h⟩
theorem Kp.tr (a : Kp S H0 H1) (b : Kp S' H1 H2) (h : ∀ x, x ∈ S' → x ∈ S ∨ H0 x = none) : Kp S H0 H2 := ⟨fun c o hc e => b.k c o (fun hm => by
  rcases h c hm with q | q
  · exact hc q
  · rw [q] at e
    cases e) (a.k c o hc e), a.mu⟩
theorem Kp.tr0 (b : Kp [] H1 H2) (a : Kp S H0 H1) : Kp S H0 H2 := a.tr b fun _ h => by cases h
theorem Kp.tr1 (b : Kp S H1 H2) (a : Kp S H0 H1) : Kp S H0 H2 := a.tr b fun _ h => .inl h
theorem Kp.base (mu : ∀ b, b ∈ S → Mut (H b)) : Kp S H H := ⟨fun _ _ _ h => h, mu⟩
theorem Kp.fresh (k : Kp S H0 H1) (h : H1 p = none) (hs : ∀ b, b ∈ S → ∃ o, H1 b = some o) : ∀ x, x ∈ [p] → x ∈ S ∨ H0 x = none := fun x hx => by
  rw [List.mem_singleton] at hx
  subst hx
  exact .inr (k.free h hs)
theorem ne_newL (hp : H p = none) (h : H a = some o) : a ≠ p := ne_of_none h hp
theorem ne_newR (hp : H p = none) (h : H a = some o) : p ≠ a := (ne_of_none h hp).symm
theorem SqT.ty (h : SqT K H a xs) : TyX K H (.ref a) (.type "tuple") := by
  rcases h with (h | ⟨u, h⟩) | ⟨o, its, n, h1, h2, _⟩
  · exact .base (.tup h)
  · exact .fTuple h
  · exact .kTuple h1 h2
end

/-! ### step rules: from the head of a reading -/
/-- one step of a reading, many -/
class Stp (g : Prop) (n : outParam Prop) : Prop where
  imp : n → g
class Stps (g : Prop) (n : outParam Prop) : Prop where
  imp : n → g
instance (priority := low) stps_nil {g : Prop} : Stps g g := ⟨id⟩
instance stps_cons {g m n : Prop} [a : Stp g m] [b : Stps m n] : Stps g n := ⟨fun h => a.imp (b.imp h)⟩
/-- one step at least -/
theorem go1 {g m n : Prop} (a : Stp g m) (b : Stps m n) (h : n) : g := a.imp (b.imp h)
class Look (σ : St) (n : Nat) (v : outParam V) : Prop where
  e : σ[n]? = some (some v)
instance look0 {v : V} {σ : St} : Look (some v :: σ) 0 v := ⟨rfl⟩
instance lookS {v : V} {x : Option V} {σ : St} {n : Nat} [a : Look σ n v] : Look (x :: σ) (n + 1) v := ⟨by rw [List.getElem?_cons_succ]; exact a.e⟩
class SetS (σ : St) (n : Nat) (v : V) (σ' : outParam St) : Prop where
  e : σ.set n (some v) = σ'
instance set0 {v : V} {x : Option V} {σ : St} : SetS (x :: σ) 0 v (some v :: σ) := ⟨rfl⟩
instance setS {v : V} {x : Option V} {σ σ' : St} {n : Nat} [a : SetS σ n v σ'] : SetS (x :: σ) (n + 1) v (x :: σ') := ⟨by rw [List.set_cons_succ, a.e]⟩
def mkT (xs : List V) (H : Hp) (Q : VK) : Prop := xs.length ≤ sizeLine ∧ ∀ p, H p = none → Q (.ref p) (upd H p (.tup xs))
def mkL (xs : List V) (H : Hp) (Q : VK) : Prop := xs.length ≤ sizeLine ∧ ∀ p, H p = none → Q (.ref p) (upd H p (.lst xs))
def asB (x : V) (R : Bool → Prop) : Prop := ∃ k, x = .bl k ∧ R k
/-- two ways by a test -/
def iteP (b : Bool) (A B : Prop) : Prop := if b = true then A else B
theorem iteP_of {b : Bool} {A B : Prop} (h : iteP b A B) : if b = true then A else B := h
section
variable {σ σ' : St} {H : Hp} {Q : VK} {ta tb tc te : TE} {v : V} {i j : Int} {n : Nat} {K : PySem.W.Frag} {E : XK} {C : Int → Int → Prop} {gi : Int → Int → V} {nx bk ct : St → Hp → Prop} {rt : VK}
instance s_seq {t u : TS} : Stp (tSeq t u ⟨nx, rt, bk, ct⟩ σ H) (t ⟨u ⟨nx, rt, bk, ct⟩, rt, bk, ct⟩ σ H) := ⟨id⟩
instance s_next : Stp (tNext ⟨nx, rt, bk, ct⟩ σ H) (nx σ H) := ⟨id⟩
instance s_set : Stp (tAsg te (gName n) ⟨nx, rt, bk, ct⟩ σ H) (te σ H fun x H1 => gName n x σ H1 nx) := ⟨id⟩
instance s_asg {g : TG} : Stp (tAsg te g ⟨nx, rt, bk, ct⟩ σ H) (te σ H fun x H1 => g x σ H1 nx) := ⟨id⟩
instance s_gN {R : St → Hp → Prop} [a : SetS σ n v σ'] : Stp (gName n v σ H R) (R σ' H) := ⟨fun h => by show R (σ.set n (some v)) H; rw [a.e]; exact h⟩
instance s_drop : Stp (tDrop te ⟨nx, rt, bk, ct⟩ σ H) (te σ H fun _ H1 => nx σ H1) := ⟨id⟩
instance s_ret : Stp (tRet te ⟨nx, rt, bk, ct⟩ σ H) (te σ H rt) := ⟨id⟩
instance s_retN : Stp (tRetN ⟨nx, rt, bk, ct⟩ σ H) (rt .non H) := ⟨id⟩
instance s_break : Stp (tBreak ⟨nx, rt, bk, ct⟩ σ H) (bk σ H) := ⟨id⟩
instance s_cont : Stp (tCont ⟨nx, rt, bk, ct⟩ σ H) (ct σ H) := ⟨id⟩
instance s_ifS {c : TT} {t u : TS} {D : Ends} : Stp (tIfS c t u D σ H) (c σ H fun b H1 => iteP b (t D σ H1) (u D σ H1)) := ⟨id⟩
instance s_var [a : Look σ n v] : Stp (tVar n σ H Q) (Q v H) := ⟨fun h => ⟨v, a.e, h⟩⟩
instance s_c : Stp (tC v σ H Q) (Q v H) := ⟨id⟩
instance s_op {r : R2} : Stp (tOp r ta tb σ H Q) (ta σ H fun x H1 => tb σ H1 fun y H2 => r x y H2 Q) := ⟨id⟩
instance s_un {r : V → Hp → VK → Prop} : Stp (tUn r ta σ H Q) (ta σ H fun x H1 => r x H1 Q) := ⟨id⟩
instance s_rU {g : Int → V} : Stp (rU g (.int i) H Q) (Q (g i) H) := ⟨fun h => ⟨i, rfl, h⟩⟩
instance s_rI0 : Stp (rI0 gi (.int i) (.int j) H Q) (Q (gi i j) H) := ⟨fun h => ⟨i, j, rfl, rfl, h⟩⟩
theorem r_rI (hc : C i j) (h : Q (gi i j) H) : rI C gi (.int i) (.int j) H Q := ⟨i, j, rfl, rfl, hc, h⟩
instance s_pow6 : Stp (rI CPow (fun i j => V.int (i ^ j.toNat)) (.int 10) (.int 6) H Q) (Q (.int 1000000) H) := ⟨fun h => ⟨10, 6, rfl, rfl, ⟨by decide, by decide, by decide⟩, h⟩⟩
instance s_pow7 : Stp (rI CPow (fun i j => V.int (i ^ j.toNat)) (.int 10) (.int 7) H Q) (Q (.int 10000000) H) := ⟨fun h => ⟨10, 7, rfl, rfl, ⟨by decide, by decide, by decide⟩, h⟩⟩
instance s_pow8 : Stp (rI CPow (fun i j => V.int (i ^ j.toNat)) (.int 10) (.int 8) H Q) (Q (.int 100000000) H) := ⟨fun h => ⟨10, 8, rfl, rfl, ⟨by decide, by decide, by decide⟩, h⟩⟩
instance s_pow9 : Stp (rI CPow (fun i j => V.int (i ^ j.toNat)) (.int 10) (.int 9) H Q) (Q (.int 1000000000) H) := ⟨fun h => ⟨10, 9, rfl, rfl, ⟨by decide, by decide, by decide⟩, h⟩⟩
instance s_pow10 : Stp (rI CPow (fun i j => V.int (i ^ j.toNat)) (.int 10) (.int 10) H Q) (Q (.int 10000000000) H) := ⟨fun h => ⟨10, 10, rfl, rfl, ⟨by decide, by decide, by decide⟩, h⟩⟩
instance s_pow12 : Stp (rI CPow (fun i j => V.int (i ^ j.toNat)) (.int 10) (.int 12) H Q) (Q (.int 1000000000000) H) := ⟨fun h => ⟨10, 12, rfl, rfl, ⟨by decide, by decide, by decide⟩, h⟩⟩
instance s_pow21 : Stp (rI CPow (fun i j => V.int (i ^ j.toNat)) (.int 10) (.int 21) H Q) (Q (.int 1000000000000000000000) H) := ⟨fun h => ⟨10, 21, rfl, rfl, ⟨by decide, by decide, by decide⟩, h⟩⟩
instance s_pow30 : Stp (rI CPow (fun i j => V.int (i ^ j.toNat)) (.int 10) (.int 30) H Q) (Q (.int 1000000000000000000000000000000) H) := ⟨fun h => ⟨10, 30, rfl, rfl, ⟨by decide, by decide, by decide⟩, h⟩⟩
instance s_pow40 : Stp (rI CPow (fun i j => V.int (i ^ j.toNat)) (.int 10) (.int 40) H Q) (Q (.int 10000000000000000000000000000000000000000) H) := ⟨fun h => ⟨10, 40, rfl, rfl, ⟨by decide, by decide, by decide⟩, h⟩⟩
instance s_pow60 : Stp (rI CPow (fun i j => V.int (i ^ j.toNat)) (.int 10) (.int 60) H Q) (Q (.int 1000000000000000000000000000000000000000000000000000000000000) H) := ⟨fun h => ⟨10, 60, rfl, rfl, ⟨by decide, by decide, by decide⟩, h⟩⟩
instance s_eqI : Stp (rEq (.int i) (.int j) H Q) (Q (.bl (decide (i = j))) H) := ⟨fun h => ⟨rfl, by
  have e : decide (V.int i = V.int j) = decide (i = j) := by simp
  rw [e]
  exact h⟩⟩
instance s_neI : Stp (rNe (.int i) (.int j) H Q) (Q (.bl (decide (i ≠ j))) H) := ⟨fun h => ⟨rfl, by
  have e : (!decide (V.int i = V.int j)) = decide (i ≠ j) := by simp
  rw [e]
  exact h⟩⟩
instance s_eqS {a b : Str} : Stp (rEq (.str a) (.str b) H Q) (Q (.bl (decide (a = b))) H) := ⟨fun h => ⟨rfl, by
  have e : decide (V.str a = V.str b) = decide (a = b) := by simp
  rw [e]
  exact h⟩⟩
instance s_neS {a b : Str} : Stp (rNe (.str a) (.str b) H Q) (Q (.bl (decide (a ≠ b))) H) := ⟨fun h => ⟨rfl, by
  have e : (!decide (V.str a = V.str b)) = decide (a ≠ b) := by simp
  rw [e]
  exact h⟩⟩
instance s_eqB {a b : Bool} : Stp (rEq (.bl a) (.bl b) H Q) (Q (.bl (decide (a = b))) H) := ⟨fun h => ⟨rfl, by
  have e : decide (V.bl a = V.bl b) = decide (a = b) := by simp
  rw [e]
  exact h⟩⟩
instance s_test {R : Bool → Hp → Prop} : Stp (tTest te σ H R) (te σ H fun x H1 => asB x fun k => R k H1) := ⟨id⟩
instance s_B {R : Bool → Hp → Prop} : Stp (tB te σ H R) (te σ H fun x H1 => asB x fun k => R k H1) := ⟨id⟩
instance s_asB {b : Bool} {R : Bool → Prop} : Stp (asB (.bl b) R) (R b) := ⟨fun h => ⟨b, rfl, h⟩⟩
instance s_and {t u : TT} {R : Bool → Hp → Prop} : Stp (tAnd t u σ H R) (t σ H fun c H1 => iteP c (u σ H1 R) (R false H1)) := ⟨id⟩
instance s_or {t u : TT} {R : Bool → Hp → Prop} : Stp (tOr t u σ H R) (t σ H fun c H1 => iteP c (R true H1) (u σ H1 R)) := ⟨id⟩
instance s_not {t : TT} {R : Bool → Hp → Prop} : Stp (tNot t σ H R) (t σ H fun c H1 => R (!c) H1) := ⟨id⟩
instance s_andV : Stp (tAndV ta tb σ H Q) (ta σ H fun x H1 => asB x fun c => iteP c (tb σ H1 Q) (Q (.bl false) H1)) := ⟨id⟩
instance s_orV : Stp (tOrV ta tb σ H Q) (ta σ H fun x H1 => asB x fun c => iteP c (Q (.bl true) H1) (tb σ H1 Q)) := ⟨id⟩
instance s_notV : Stp (tNotV ta σ H Q) (ta σ H fun x H1 => asB x fun c => Q (.bl (!c)) H1) := ⟨id⟩
instance s_if {t : TT} : Stp (tIf t ta tb σ H Q) (t σ H fun c H1 => iteP c (ta σ H1 Q) (tb σ H1 Q)) := ⟨id⟩
instance s_chain {r r' : R2} : Stp (tChain r r' ta tb tc σ H Q) (ta σ H fun x H1 => tb σ H1 fun y H2 => r x y H2 fun z H3 => asB z fun k => iteP k (tc σ H3 fun w' H4 => r' y w' H4 Q) (Q (.bl false) H3)) := ⟨id⟩
instance s_nil {R : List V → Hp → Prop} : Stp (tNil σ H R) (R [] H) := ⟨id⟩
instance s_cons {tr : TA} {R : List V → Hp → Prop} : Stp (tCons ta tr σ H R) (ta σ H fun x H1 => tr σ H1 fun xs H2 => R (x :: xs) H2) := ⟨id⟩
instance s_tTup {t : TA} : Stp (tTup t σ H Q) (t σ H fun xs H1 => mkT xs H1 Q) := ⟨id⟩
instance s_tLst {t : TA} : Stp (tLst t σ H Q) (t σ H fun xs H1 => mkL xs H1 Q) := ⟨id⟩
instance s_cB {t : TA} {r : List V → Hp → VK → Prop} : Stp (tCB r t σ H Q) (t σ H fun vs H1 => r vs H1 Q) := ⟨id⟩
instance s_cl {sp : Sp} {t : TA} : Stp (tCl sp E t σ H Q) (t σ H fun vs H1 => sp vs H1 Q E) := ⟨id⟩
instance s_aug {ti : TIp} [a : Look σ n v] : Stp (tAug n te ti ⟨nx, rt, bk, ct⟩ σ H) (te σ H fun y H1 => ti v y H1 fun z H2 => gName n z σ H2 nx) := ⟨fun h => ⟨v, a.e, h⟩⟩
instance s_ipI {f : Int → Int → Int} : Stp (ipI f (.int i) (.int j) H Q) (Q (.int (f i j)) H) := ⟨fun h => ⟨i, j, rfl, rfl, h⟩⟩
instance s_iteT {A B : Prop} : Stp (iteP true A B) A := ⟨fun h => iteT h⟩
instance s_iteF {A B : Prop} : Stp (iteP false A B) B := ⟨fun h => iteF h⟩
instance s_iteNT {A B : Prop} : Stp (iteP (!true) A B) B := ⟨fun h => iteF h⟩
instance s_iteNF {A B : Prop} : Stp (iteP (!false) A B) A := ⟨fun h => iteT h⟩
theorem r_mkT {xs : List V} (hl : xs.length ≤ sizeLine) (h : ∀ p H2, H p = none → SqT K H2 p xs → Kp [] H H2 → Q (.ref p) H2) : mkT xs H Q :=
  ⟨hl, fun p hp => h p _ hp (SqT.of upd_same) (Kp.new hp)⟩
theorem r_mkL {xs : List V} (hl : xs.length ≤ sizeLine) (h : ∀ p H2, H p = none → H2 p = some (.lst xs) → Kp [] H H2 → Q (.ref p) H2) : mkL xs H Q :=
  ⟨hl, fun p hp => h p _ hp upd_same (Kp.new hp)⟩
theorem r_ixT {p : Addr} {xs : List V} (h : SqT K H p xs) (e : atI xs i = some v) (q : Q v H) : rIxT K (.ref p) (.int i) H Q := ⟨p, xs, i, v, rfl, rfl, h, e, q⟩
theorem r_ixL {p : Addr} {xs : List V} (h : H p = some (.lst xs)) (e : atI xs i = some v) (q : Q v H) : rIxL K (.ref p) (.int i) H Q := ⟨p, xs, i, v, rfl, rfl, SqL.of h, e, q⟩
theorem r_gTup {t : TGs} {m : Nat} {p : Addr} {xs : List V} {R : St → Hp → Prop} (h : SqT K H p xs) (e : xs.length = m) (q : t xs σ H R) : gTup K m t (.ref p) σ H R := ⟨p, xs, rfl, h, e, q⟩
instance s_gCons {t : TG} {u : TGs} {r : List V} {R : St → Hp → Prop} : Stp (gCons t u (v :: r) σ H R) (t v σ H fun σ' H' => u r σ' H' R) := ⟨fun h => ⟨v, r, rfl, h⟩⟩
instance s_gNil {R : St → Hp → Prop} : Stp (gNil [] σ H R) (R σ H) := ⟨fun h => ⟨rfl, h⟩⟩
instance s_gSub {s : TSet} {R : St → Hp → Prop} : Stp (gSub ta tb s v σ H R) (ta σ H fun o H1 => tb σ H1 fun i H2 => s o i v H2 fun H3 => R σ H3) := ⟨id⟩
theorem r_setL {p : Addr} {xs : List V} {m : Nat} {R : Hp → Prop} (h : H p = some (.lst xs)) (e : ixN xs.length i = some m) (q : ∀ H2, H2 p = some (.lst (xs.set m v)) → Kp [p] H H2 → R H2) : rSetL (.ref p) (.int i) v H R :=
  ⟨p, xs, i, m, rfl, rfl, h, e, q _ upd_same (Kp.put h trivial)⟩
theorem if_T {A B : Prop} {c : Prop} [Decidable c] (hc : c) (h : A) : iteP (decide c) A B := by
  unfold iteP
  rw [if_pos (decide_eq_true hc)]
  exact h
theorem if_F {A B : Prop} {c : Prop} [Decidable c] (hc : ¬ c) (h : B) : iteP (decide c) A B := by
  unfold iteP
  rw [if_neg (by rw [decide_eq_false hc]; decide)]
  exact h
theorem if_S {A B : Prop} {c : Prop} [Decidable c] (h : c → A) (h' : ¬ c → B) : iteP (decide c) A B := by
  by_cases hc : c
  · exact if_T hc (h hc)
  · exact if_F hc (h' hc)
theorem if_NT {A B : Prop} {c : Prop} [Decidable c] (hc : ¬ c) (h : A) : iteP (!decide c) A B := by
  rw [decide_eq_false hc]
  exact iteT h
theorem if_NF {A B : Prop} {c : Prop} [Decidable c] (hc : c) (h : B) : iteP (!decide c) A B := by
  rw [decide_eq_true hc]
  exact iteF h
theorem if_NS {A B : Prop} {c : Prop} [Decidable c] (h : ¬ c → A) (h' : c → B) : iteP (!decide c) A B := by
  by_cases hc : c
  · exact if_NF hc (h' hc)
  · exact if_NT hc (h hc)
theorem if_B {A B : Prop} {b : Bool} (h : b = true → A) (h' : b = false → B) : iteP b A B := by
  cases b
  · exact iteF (h' rfl)
  · exact iteT (h rfl)
end

/-! ### built-in calls by named rules -/
section
variable {X : Cx} {f : Value} {r r' : List V → Hp → VK → Prop}
theorem callR_imp (h : CallR X f r) (i : ∀ xs H Q, r' xs H Q → r xs H Q) : CallR X f r' := fun pins s σ H xs us Q I rx q => h pins s σ H xs us Q I rx (i _ _ _ q)
def rInt : List V → Hp → VK → Prop := fun xs H Q => (∃ i, xs = [.int i] ∧ Q (.int i) H) ∨ ∃ k, xs = [.bl k] ∧ Q (.int (if k then 1 else 0)) H
theorem cg_int : CallR X (.type "int") rInt := call_int1
def rLen (K : PySem.W.Frag) : List V → Hp → VK → Prop := fun xs H Q => ∃ p ys, xs = [.ref p] ∧ (SqL K H p ys ∨ SqT K H p ys) ∧ Q (.int ys.length) H
theorem cg_len : CallR X (.builtin "len") (rLen X.K) := call_len_seq
def rListOf (K : PySem.W.Frag) : List V → Hp → VK → Prop := fun xs H Q => ∃ p ys, xs = [.ref p] ∧ (SqL K H p ys ∨ SqT K H p ys) ∧ ∀ l, H l = none → Q (.ref l) (upd H l (.lst ys))
theorem cg_list : CallR X (.type "list") (rListOf X.K) := call_list_of
def rTupOf (K : PySem.W.Frag) : List V → Hp → VK → Prop := fun xs H Q => ∃ p ys, xs = [.ref p] ∧ ((SqL K H p ys ∧ ∀ l, H l = none → Q (.ref l) (upd H l (.tup ys))) ∨ (SqT K H p ys ∧ Q (.ref p) H))
theorem cg_tuple : CallR X (.type "tuple") (rTupOf X.K) := call_tuple_of
def rAbs : List V → Hp → VK → Prop := fun xs H Q => ∃ i, xs = [.int i] ∧ Q (.int (if i < 0 then -i else i)) H
theorem cg_abs : CallR X (.builtin "abs") rAbs := call_abs
end
section
variable {H : Hp} {Q : VK} {K : PySem.W.Frag} {i : Int} {p : Addr} {xs : List V}
instance s_int : Stp (rInt [.int i] H Q) (Q (.int i) H) := ⟨fun q => .inl ⟨i, rfl, q⟩⟩
instance s_intB {b : Bool} : Stp (rInt [.bl b] H Q) (Q (.int (if b then 1 else 0)) H) := ⟨fun q => .inr ⟨b, rfl, q⟩⟩
theorem r_lenT (h : SqT K H p xs) (q : Q (.int xs.length) H) : rLen K [.ref p] H Q := ⟨p, xs, rfl, .inr h, q⟩
theorem r_lenL (h : H p = some (.lst xs)) (q : Q (.int xs.length) H) : rLen K [.ref p] H Q := ⟨p, xs, rfl, .inl (SqL.of h), q⟩
theorem r_listL (h : SqL K H p xs) (q : ∀ l H2, H l = none → H2 l = some (.lst xs) → Kp [] H H2 → Q (.ref l) H2) : rListOf K [.ref p] H Q := ⟨p, xs, rfl, .inl h, fun l hl => q l _ hl upd_same (Kp.new hl)⟩
theorem r_tupleL (h : H p = some (.lst xs)) (q : ∀ l H2, H l = none → SqT K H2 l xs → Kp [] H H2 → Q (.ref l) H2) : rTupOf K [.ref p] H Q := ⟨p, xs, rfl, .inl ⟨SqL.of h, fun l hl => q l _ hl (SqT.of upd_same) (Kp.new hl)⟩⟩
instance s_abs : Stp (rAbs [.int i] H Q) (Q (.int (if i < 0 then -i else i)) H) := ⟨fun q => ⟨i, rfl, q⟩⟩
theorem r_isi {v c : V} {t u : Value} {b : Bool} (hc : ClsV c u) (ht : TyX K H v t) (hk : PySem.W.kitOne K t u = some b) (q : Q (.bl b) H) : rIsi K [v, c] H Q := ⟨v, c, t, u, b, rfl, hc, ht, hk, q⟩
theorem r_inL {neg : Bool} {x : V} {b : Bool} (h : H p = some (.lst xs)) (fx : flatV x = true) (fs : xs.all flatV = true) (e : (if neg then !inV x xs else inV x xs) = b) (q : Q (.bl b) H) : rIn K neg x (.ref p) H Q := ⟨p, xs, rfl, .inl (SqL.of h), fx, fs, by rw [e]; exact q⟩
theorem r_inT {neg : Bool} {x : V} {b : Bool} (h : SqT K H p xs) (fx : flatV x = true) (fs : xs.all flatV = true) (e : (if neg then !inV x xs else inV x xs) = b) (q : Q (.bl b) H) : rIn K neg x (.ref p) H Q := ⟨p, xs, rfl, .inr h, fx, fs, by rw [e]; exact q⟩
end
/-! ### loops -/
def forS (J : It) (g : TG) (tb : TS) (D : Ends) (σ : St) (H : Hp) : Prop := ∃ W : Nat → Nat → St → Hp → Prop, (∃ m, W 0 m σ H) ∧ ∀ i m σ H, W i m σ H →
  (J.stop i H ∧ D.nx σ H) ∨ (J.go i H ∧ ∃ N : St → Hp → Prop, (∀ σ' H', N σ' H' → ∃ m', m' < m ∧ W (i + 1) m' σ' H') ∧ ∀ x H', J.yld i H x H' → g x σ H' fun σ2 H2 => tb { D with nx := N, ct := N, bk := D.nx } σ2 H2)
def isL (K : PySem.W.Frag) (x : V) (H : Hp) (R : It → Hp → Prop) : Prop := ∃ a, x = .ref a ∧ (∃ xs, SqL K H a xs) ∧ R (Itl K a) H
def isT (K : PySem.W.Frag) (x : V) (H : Hp) (R : It → Hp → Prop) : Prop := ∃ a, x = .ref a ∧ (∃ xs, SqT K H a xs) ∧ R (Itt K a) H
def isR1 (vs : List V) (H : Hp) (R : It → Hp → Prop) : Prop := ∃ j : Int, vs = [.int j] ∧ -(2 ^ 62) ≤ j ∧ j < 2 ^ 62 ∧ R (Itr 0 j.toNat) H
section
variable {σ : St} {H : Hp} {K : PySem.W.Frag} {p : Addr} {xs : List V} {g : TG} {tb : TS} {nx bk ct : St → Hp → Prop} {rt : VK} {D : Ends} {wi : TI} {tl : TE} {ta : TA} {R : It → Hp → Prop} {lo : Int} {n : Nat}
instance s_for : Stp (tFor wi g tb D σ H) (wi σ H fun J H1 => forS J g tb D σ H1) := ⟨id⟩
instance s_iL : Stp (iList K tl σ H R) (tl σ H fun x H1 => isL K x H1 R) := ⟨id⟩
instance s_iT : Stp (iTup K tl σ H R) (tl σ H fun x H1 => isT K x H1 R) := ⟨id⟩
instance s_iR1 : Stp (iRng1 ta σ H R) (ta σ H fun vs H1 => isR1 vs H1 R) := ⟨id⟩
theorem r_isL (h : H p = some (.lst xs)) (q : R (Itl K p) H) : isL K (.ref p) H R := ⟨p, rfl, ⟨xs, SqL.of h⟩, q⟩
theorem r_isT (h : SqT K H p xs) (q : R (Itt K p) H) : isT K (.ref p) H R := ⟨p, rfl, ⟨xs, h⟩, q⟩
theorem r_isR1 {j : Int} (h : -1000000000 ≤ j ∧ j ≤ 1000000000) (q : R (Itr 0 j.toNat) H) : isR1 [.int j] H R := ⟨j, rfl, by omega, by omega, q⟩
/-- a for over a list that stands at p all along -/
theorem r_forL (xs : List V) (Pv : Nat → St → Hp → Prop) (h0 : Pv 0 σ H) (hG : ∀ i σ' H', Pv i σ' H' → H' p = some (.lst xs))
    (hs : ∀ i x σ' H', xs[i]? = some x → Pv i σ' H' → g x σ' H' fun σ2 H2 => tb ⟨Pv (i + 1), rt, nx, Pv (i + 1)⟩ σ2 H2) (hd : ∀ σ' H', Pv xs.length σ' H' → nx σ' H') : forS (Itl K p) g tb ⟨nx, rt, bk, ct⟩ σ H :=
  for_it (walk_list (K := K) (a := p) (xs := xs)) Pv h0 (fun i σ' H' _ h => SqL.of (hG i σ' H' h)) (fun i x σ' H1 H2 _ h y => by obtain ⟨rfl, y⟩ := y; exact hs i x σ' _ y h) hd
theorem r_forLI (ns : List Int) (Pv : Nat → St → Hp → Prop) (h0 : Pv 0 σ H) (hG : ∀ i σ' H', Pv i σ' H' → H' p = some (.lst (ns.map V.int)))
    (hs : ∀ i (y : Int) σ' H', ns[i]? = some y → Pv i σ' H' → g (.int y) σ' H' fun σ2 H2 => tb ⟨Pv (i + 1), rt, nx, Pv (i + 1)⟩ σ2 H2) (hd : ∀ σ' H', Pv ns.length σ' H' → nx σ' H') : forS (Itl K p) g tb ⟨nx, rt, bk, ct⟩ σ H := by
  refine r_forL (ns.map V.int) Pv h0 hG (fun i x σ' H' e h => ?_) (by rw [List.length_map]; exact hd)
  rw [List.getElem?_map] at e
  cases q : ns[i]? with
  | none =>
    rw [q] at e
    cases e
  | some y =>
    rw [q] at e
    cases e
    exact hs i y σ' H' q h
theorem r_forT (xs : List V) (Pv : Nat → St → Hp → Prop) (h0 : Pv 0 σ H) (hG : ∀ i σ' H', Pv i σ' H' → SqT K H' p xs)
    (hs : ∀ i x σ' H', xs[i]? = some x → Pv i σ' H' → g x σ' H' fun σ2 H2 => tb ⟨Pv (i + 1), rt, nx, Pv (i + 1)⟩ σ2 H2) (hd : ∀ σ' H', Pv xs.length σ' H' → nx σ' H') : forS (Itt K p) g tb ⟨nx, rt, bk, ct⟩ σ H :=
  for_it (walk_tup (K := K) (a := p) (xs := xs)) Pv h0 (fun i σ' H' _ h => hG i σ' H' h) (fun i x σ' H1 H2 _ h y => by obtain ⟨rfl, y⟩ := y; exact hs i x σ' _ y h) hd
theorem r_forR (Pv : Nat → St → Hp → Prop) (h0 : Pv 0 σ H)
    (hs : ∀ i σ' H', i < n → Pv i σ' H' → g (.int (lo + (i : Int))) σ' H' fun σ2 H2 => tb ⟨Pv (i + 1), rt, nx, Pv (i + 1)⟩ σ2 H2) (hd : ∀ σ' H', Pv n σ' H' → nx σ' H') : forS (Itr lo n) g tb ⟨nx, rt, bk, ct⟩ σ H :=
  for_it walk_range Pv h0 (fun _ _ _ _ _ => trivial) (fun i x σ' H1 H2 hi h y => by obtain ⟨rfl, rfl⟩ := y; exact hs i σ' _ hi h) hd
theorem any_take {α : Type} {l : List α} {f : α → Bool} {i : Nat} {x : α} (h : l[i]? = some x) : (l.take (i + 1)).any f = ((l.take i).any f || f x) := by
  rw [List.take_add_one, h, List.any_append]
  simp
end
/-! ### the walk's own steps (rows of tactics) -/
local macro_rules | `(tactic| walk_at "cg yes") => `(tactic| (first
  | assumption | decide | omega | (simp; done)
  | fail))
local macro_rules | `(tactic| walk_at "cg ne") => `(tactic| (first
  | assumption | (apply Ne.symm; assumption) | exact ne_newL (by assumption) (by walk_at "cg h") | exact ne_newR (by assumption) (by walk_at "cg h")
  | fail))
/-- what stands at an address, a tuple, from the last heap backwards -/
local macro_rules | `(tactic| walk_at "cg h") => `(tactic| (first
  | assumption
  | ((with_reducible show _ = some _); first
      | exact Kp.get0 (by assumption) (by walk_at "cg h") | exact Kp.get1 (by assumption) (by walk_at "cg ne") (by walk_at "cg h"))
  | ((with_reducible show SqT _ _ _ _); exact Kp.tup (by assumption) (by walk_at "cg h"))
  | fail))
/-- the frame from the entry on -/
local macro_rules | `(tactic| walk_at "cg kp") => `(tactic| (first
  | assumption
  | exact Kp.refl
  | exact Kp.tr0 (by assumption) (by walk_at "cg kp")
  | exact Kp.tr1 (by assumption) (by walk_at "cg kp")
  | fail))
local macro_rules | `(tactic| walk_at "cg ty") => `(tactic| (first
  | exact .base (.int _) | exact .base (.bl _) | exact .base (.str _) | exact .base .non | exact SqT.ty (by walk_at "cg h") | exact .base (.lst (by walk_at "cg h"))
  | fail))
local macro_rules | `(tactic| walk_at "cg C") => `(tactic| (first
  | assumption | exact (show CMul _ _ from .inl ⟨by omega, by omega⟩) | exact (show CMul _ _ from .inr ⟨by omega, by omega⟩) | omega | decide
  | exact ⟨by decide, by decide, by decide⟩ | exact ⟨by omega, by omega⟩
  | fail))
local macro_rules | `(tactic| walk_at "cg s") => `(tactic| (first
  | (refine go1 inferInstance inferInstance ?_)
  | ((with_reducible refine r_rI ?_ ?_); (focus (walk_at "cg C")))
  | ((with_reducible apply r_ixL); (focus (walk_at "cg h")); exact rfl)
  | ((with_reducible apply r_ixT); (focus (walk_at "cg h")); exact rfl)
  | ((with_reducible apply r_lenL); (focus (walk_at "cg h")))
  | ((with_reducible apply r_lenT); (focus (walk_at "cg h")))
  | ((with_reducible apply r_gTup); (focus (walk_at "cg h")); exact rfl)
  | ((with_reducible refine r_mkT (K := ‹PySem.W.Frag›) ?_ ?_); (focus (exact Nat.le_of_ble_eq_true rfl)); intro _ _ _ _ _)
  | ((with_reducible refine r_mkL ?_ ?_); (focus (exact Nat.le_of_ble_eq_true rfl)); intro _ _ _ _ _)
  | ((with_reducible apply r_tupleL); (focus (walk_at "cg h")); intro _ _ _ _ _)
  | ((with_reducible apply r_listL); (focus (walk_at "cg h")); intro _ _ _ _ _)
  | ((with_reducible apply r_setL); (focus (walk_at "cg h")); exact rfl)
  | ((with_reducible apply r_isi); (focus (exact .ty _)); (focus (walk_at "cg ty")); (focus (first | exact kit_ty (r := true) (by decide +kernel) | exact kit_ty (r := false) (by decide +kernel))))
  | ((with_reducible apply r_inL); (focus (walk_at "cg h")); exact rfl; exact rfl; (focus (first | exact (by decide +kernel : _ = true) | exact (by decide +kernel : _ = false))))
  | ((with_reducible apply r_inT); (focus (walk_at "cg h")); exact rfl; exact rfl; (focus (first | exact (by decide +kernel : _ = true) | exact (by decide +kernel : _ = false))))
  | ((with_reducible apply r_isL); (focus (walk_at "cg h")))
  | ((with_reducible apply r_isT); (focus (walk_at "cg h")))
  | ((with_reducible apply r_isR1); (focus (first | omega | (constructor <;> decide))))
  | ((with_reducible refine if_T ?_ ?_); (focus (walk_at "cg yes"))) | ((with_reducible refine if_F ?_ ?_); (focus (walk_at "cg yes")))
  | ((with_reducible refine if_NT ?_ ?_); (focus (walk_at "cg yes"))) | ((with_reducible refine if_NF ?_ ?_); (focus (walk_at "cg yes")))
  | fail))
local macro_rules | `(tactic| walk_at "cg") => `(tactic| repeat (walk_at "cg s"))

/-! ### the tape and the draw -/
/-- a tape at t over the numbers at c -/
structure Tp (t c : Addr) (H : Hp) : Prop where
  ex : ∃ (ns : List Int) (k z : Int), H t = some (.lst [.ref c, .int k, .int z]) ∧ H c = some (.lst (ns.map V.int)) ∧ 0 ≤ k ∧ 0 ≤ z
theorem Tp.ne {t c : Addr} {H : Hp} (h : Tp t c H) : t ≠ c := by
  obtain ⟨ns, k, z, h1, h2, _⟩ := h.ex
  refine ne_of h1 h2 fun e => ?_
  cases ns with
  | nil => simp at e
  | cons n ns => simp at e
theorem Tp.mut {t c : Addr} {H : Hp} (h : Tp t c H) : Mut (H t) := by
  obtain ⟨ns, k, z, h1, h2, _⟩ := h.ex
  rw [h1]
  trivial
theorem Tp.it {t c : Addr} {H : Hp} (h : Tp t c H) : ∃ o, H t = some o := by
  obtain ⟨ns, k, z, h1, h2, _⟩ := h.ex
  exact ⟨_, h1⟩
theorem Tp.itc {t c : Addr} {H : Hp} (h : Tp t c H) : ∃ o, H c = some o := by
  obtain ⟨ns, k, z, h1, h2, _⟩ := h.ex
  exact ⟨_, h2⟩
theorem Tp.kp {t c : Addr} {S : List Addr} {H H' : Hp} (k : Kp S H H') (h : Tp t c H) (n1 : ¬ t ∈ S) (n2 : ¬ c ∈ S) : Tp t c H' := by
  obtain ⟨ns, j, z, h1, h2, h3⟩ := h.ex
  exact ⟨ns, j, z, k.get n1 h1, k.get n2 h2, h3⟩
theorem Tp.kp0 {t c : Addr} {H H' : Hp} (k : Kp [] H H') (h : Tp t c H) : Tp t c H' := h.kp k (fun z => nomatch z) (fun z => nomatch z)
/-- no draw is asked for more -/
def bigB : Int := 2 ^ 240
theorem bigB_ok {z m : Int} (h1 : 1 ≤ m) (h2 : m < bigB) : CDivW z m := by
  unfold bigB at h2
  exact wide_div (b := 240) (by omega) (by omega) (by decide) (by decide)
def spDraw : Sp := fun vs H Q _ => ∃ (t c : Addr) (m : Int), vs = [.ref t, .int m] ∧ Tp t c H ∧ 1 ≤ m ∧ m < bigB ∧ ∀ (d : Int) (H' : Hp), 0 ≤ d → d < m → Tp t c H' → Kp [t] H H' → Q (.int d) H'
theorem spDraw_i {t c : Addr} {m : Int} {H : Hp} {Q : VK} {E : XK} (h : Tp t c H) (h1 : 1 ≤ m) (h2 : m < bigB) (k : ∀ (d : Int) (H' : Hp), 0 ≤ d → d < m → Tp t c H' → Kp [t] H H' → Q (.int d) H') : spDraw [.ref t, .int m] H Q E :=
  ⟨t, c, m, rfl, h, h1, h2, k⟩
def spTape (K : PySem.W.Frag) : Sp := fun vs H Q _ => ∃ (a : Addr) (ns : List Int), vs = [.ref a] ∧ SqL K H a (ns.map V.int) ∧ ∀ (t c : Addr) (H' : Hp), H t = none → H c = none → Tp t c H' → Kp [] H H' → Q (.ref t) H'
theorem Tp.kp1 {t c p : Addr} {H H' : Hp} (k : Kp [p] H H') (h : Tp t c H) (n1 : t ≠ p) (n2 : c ≠ p) : Tp t c H' := h.kp k (fun z => n1 (by simpa using z)) (fun z => n2 (by simpa using z))
local macro_rules | `(tactic| walk_at "cg h") => `(tactic| (first
  | ((with_reducible show Tp _ _ _); exact Tp.kp0 (by assumption) (by walk_at "cg h"))
  | fail))
local macro_rules | `(tactic| walk_at "cg h") => `(tactic| (first
  | ((with_reducible show Tp _ _ _); exact Tp.kp1 (by assumption) (by walk_at "cg h") (by walk_at "cg ne") (by walk_at "cg ne"))
  | fail))
local macro_rules | `(tactic| walk_at "cg h") => `(tactic| assumption)
theorem Tp.nef {t c p : Addr} {H : Hp} (hp : H p = none) (h : Tp t c H) : p ≠ t := by
  obtain ⟨o, e⟩ := h.it
  exact (ne_of_none e hp).symm
theorem Tp.nefc {t c p : Addr} {H : Hp} (hp : H p = none) (h : Tp t c H) : p ≠ c := by
  obtain ⟨o, e⟩ := h.itc
  exact (ne_of_none e hp).symm
local macro_rules | `(tactic| walk_at "cg ne") => `(tactic| (first
  | exact Tp.nef (by assumption) (by walk_at "cg h") | exact (Tp.nef (by assumption) (by walk_at "cg h")).symm | exact Tp.nefc (by assumption) (by walk_at "cg h") | exact (Tp.nefc (by assumption) (by walk_at "cg h")).symm
  | fail))
theorem Tp.base {t c : Addr} {H : Hp} (T : Tp t c H) : Kp [t] H H := .base fun b hb => by
  rw [List.mem_singleton] at hb
  subst hb
  exact T.mut
local macro_rules | `(tactic| walk_at "cg kp") => `(tactic| (first
  | ((with_reducible show Kp [_] _ _); exact Tp.base (by assumption))
  | fail))
local macro_rules | `(tactic| walk_at "cg dr") => `(tactic| ((with_reducible refine spDraw_i (c := ?c) ?h ?h1 ?h2 ?_); (case h => walk_at "cg h"); (case h1 => first | decide | omega); (case h2 => first | decide | assumption)))
local macro_rules | `(tactic| walk_at "cg s") => `(tactic| (walk_at "cg dr"; intro _ _ _ _ _ _))

/-! ### relations and literals -/
inductive Rel where
  | le | ge | eq | ne
  deriving DecidableEq
def Rel.s : Rel → Str
  | .le => "<="
  | .ge => ">="
  | .eq => "="
  | .ne => "!="
def Rel.h : Rel → Int → Int → Bool
  | .le, a, b => decide (a ≤ b)
  | .ge, a, b => decide (b ≤ a)
  | .eq, a, b => decide (a = b)
  | .ne, a, b => decide (a ≠ b)
def Rel.neg : Rel → Rel
  | .le => .ge
  | .ge => .le
  | .eq => .ne
  | .ne => .eq
def Rel.nnum : Rel → Int → Int
  | .le, a => a + 1
  | .ge, a => a - 1
  | _, a => a
theorem Rel.neg_neg (r : Rel) : r.neg.neg = r := by cases r <;> rfl
theorem Rel.nnum_nnum (r : Rel) (a : Int) : r.neg.nnum (r.nnum a) = a := by
  cases r <;> simp [Rel.neg, Rel.nnum] <;> omega
theorem Rel.neg_h (r : Rel) (x a : Int) : r.neg.h x (r.nnum a) = !r.h x a := by
  cases r
  · simp only [Rel.neg, Rel.nnum, Rel.h]
    rw [Bool.eq_iff_iff]; simp; omega
  · simp only [Rel.neg, Rel.nnum, Rel.h]
    rw [Bool.eq_iff_iff]; simp; omega
  · simp [Rel.neg, Rel.nnum, Rel.h]
  · simp [Rel.neg, Rel.nnum, Rel.h]
def spRel : Sp := fun vs H Q _ => ∃ (r : Rel) (a b : Int), vs = [.str r.s, .int a, .int b] ∧ Q (.bl (r.h a b)) H
theorem spRel_i (r : Rel) {a b : Int} {H : Hp} {Q : VK} {E : XK} (q : Q (.bl (r.h a b)) H) : spRel [.str r.s, .int a, .int b] H Q E := ⟨r, a, b, rfl, q⟩
/-- a literal stands at p -/
abbrev LitAt (K : PySem.W.Frag) (H : Hp) (p : Addr) (v : Int) (r : Rel) (a : Int) : Prop := SqT K H p [.int v, .str r.s, .int a]
def spLit (K : PySem.W.Frag) : Sp := fun vs H Q _ => ∃ (p : Addr) (v : Int) (r : Rel) (a x : Int), vs = [.ref p, .int x] ∧ LitAt K H p v r a ∧ Q (.bl (r.h x a)) H
def spNeg (K : PySem.W.Frag) : Sp := fun vs H Q _ => ∃ (p : Addr) (v : Int) (r : Rel) (a : Int), vs = [.ref p] ∧ LitAt K H p v r a ∧ ∀ (p' : Addr) (H' : Hp), LitAt K H' p' v r.neg (r.nnum a) → Kp [] H H' → Q (.ref p') H'
def spSame : Sp := fun vs H Q _ => ∃ (a b : Bool), vs = [.bl a, .bl b] ∧ Q (.bl (decide (a = b))) H
theorem ix_rel4 {K : PySem.W.Frag} {p : Addr} {H : Hp} {Q : VK} {d : Int} (h : H p = some (.lst [.str (Str.ofString "<="), .str (Str.ofString ">="), .str (Str.ofString "="), .str (Str.ofString "!=")])) (h0 : 0 ≤ d) (h1 : d < 4) (q : ∀ r : Rel, Q (.str r.s) H) : rIxL K (.ref p) (.int d) H Q := by
  have e : d = 0 ∨ d = 1 ∨ d = 2 ∨ d = 3 := by omega
  rcases e with rfl | rfl | rfl | rfl
  · exact r_ixL h rfl (q .le)
  · exact r_ixL h rfl (q .ge)
  · exact r_ixL h rfl (q .eq)
  · exact r_ixL h rfl (q .ne)
def litD (v : Int) (r : Rel) (a : Int) : PyData := .tuple [.int v, .str r.s, .int a]
theorem Rel.ok (r : Rel) : PyData.strOk r.s = true := by cases r <;> decide +kernel
theorem litD_shaped (v : Int) (r : Rel) (a : Int) : SeqAt.shaped (litD v r a) = true := by
  simp [litD, Rel.ok, SeqAt.shaped, PyData.canLay0, PyData.canLayAll0, PyData.depth, PyData.depthAll]
theorem litD_self (v : Int) (r : Rel) (a : Int) : PyData.eqv (litD v r a) (litD v r a) = true := by
  simp [litD, PyData.eqv, PyData.eqvAll]
theorem LitAt.dp {K : PySem.W.Frag} {H : Hp} {p : Addr} {v : Int} {r : Rel} {a : Int} (h : LitAt K H p v r a) : Dp K H (.ref p) (litD v r a) :=
  .tup h (.cons (.int _) (.cons (.str _) (.cons (.int _) .nil)))
local macro_rules | `(tactic| walk_at "cg s") => `(tactic| (with_reducible refine spRel_i _ ?_))
theorem spSame_i {a b : Bool} {H : Hp} {Q : VK} {E : XK} (q : Q (.bl (decide (a = b))) H) : spSame [.bl a, .bl b] H Q E := ⟨a, b, rfl, q⟩
local macro_rules | `(tactic| walk_at "cg s") => `(tactic| (with_reducible refine spSame_i ?_))
theorem spLit_i {K : PySem.W.Frag} {H : Hp} {Q : VK} {E : XK} {p : Addr} {v : Int} {r : Rel} {a x : Int} (h : LitAt K H p v r a) (q : Q (.bl (r.h x a)) H) : spLit K [.ref p, .int x] H Q E := ⟨p, v, r, a, x, rfl, h, q⟩
local macro_rules | `(tactic| walk_at "cg s") => `(tactic| ((with_reducible refine spLit_i (v := ?v) (r := ?r) (a := ?a) ?h ?_); (focus (walk_at "cg h"))))

def top (i : Nat) : Stmt := PySem.Challenge.pw_commonground_k02_literal_implies.main.body.getD i (.Pass ⟨0, 0, 0, 0⟩)
abbrev s_relation_holds : Stmt := top 1
theorem sc_relation_holds : FnScope ["relation", "left", "right"] ["relation", "left", "right"] (defScope s_relation_holds) := ⟨rfl, rfl, rfl, by decide +kernel, rfl, by decide +kernel, by decide +kernel⟩
theorem st_relation_holds (v0 v1 v2 : V) : L2.start ["relation", "left", "right"] [v0, v1, v2] = [some v0, some v1, some v2] := rfl
abbrev s_literal_implies : Stmt := top 2
theorem sc_literal_implies : FnScope ["first", "second", "relation", "a", "wanted", "b"] ["first", "second"] (defScope s_literal_implies) := ⟨rfl, rfl, rfl, by decide +kernel, rfl, by decide +kernel, by decide +kernel⟩
theorem st_literal_implies (v0 v1 : V) : L2.start ["first", "second", "relation", "a", "wanted", "b"] [v0, v1] = [some v0, some v1, none, none, none, none] := rfl
abbrev s_law_same : Stmt := top 4
theorem sc_law_same : FnScope ["_law_told", "_law_due"] ["_law_told", "_law_due"] (defScope s_law_same) := ⟨rfl, rfl, rfl, by decide +kernel, rfl, by decide +kernel, by decide +kernel⟩
theorem st_law_same (v0 v1 : V) : L2.start ["_law_told", "_law_due"] [v0, v1] = [some v0, some v1] := rfl
abbrev s_law_draw : Stmt := top 5
theorem sc_law_draw : FnScope ["_law_tape_here", "_law_many", "_law_cells", "_law_k", "_law_cell", "_law_digit"] ["_law_tape_here", "_law_many"] (defScope s_law_draw) := ⟨rfl, rfl, rfl, by decide +kernel, rfl, by decide +kernel, by decide +kernel⟩
theorem st_law_draw (v0 v1 : V) : L2.start ["_law_tape_here", "_law_many", "_law_cells", "_law_k", "_law_cell", "_law_digit"] [v0, v1] = [some v0, some v1, none, none, none, none] := rfl
abbrev s_law_tape : Stmt := top 6
theorem sc_law_tape : FnScope ["_law_script"] ["_law_script"] (defScope s_law_tape) := ⟨rfl, rfl, rfl, by decide +kernel, rfl, by decide +kernel, by decide +kernel⟩
theorem st_law_tape (v0 : V) : L2.start ["_law_script"] [v0] = [some v0] := rfl
abbrev s_law_rel : Stmt := top 7
theorem sc_law_rel : FnScope ["_law_relation", "_law_left", "_law_right"] ["_law_relation", "_law_left", "_law_right"] (defScope s_law_rel) := ⟨rfl, rfl, rfl, by decide +kernel, rfl, by decide +kernel, by decide +kernel⟩
theorem st_law_rel (v0 v1 v2 : V) : L2.start ["_law_relation", "_law_left", "_law_right"] [v0, v1, v2] = [some v0, some v1, some v2] := rfl
abbrev s_law_read : Stmt := top 8
theorem sc_law_read : FnScope ["_law_tape_here", "_law_scale", "_law_relation"] ["_law_tape_here", "_law_scale"] (defScope s_law_read) := ⟨rfl, rfl, rfl, by decide +kernel, rfl, by decide +kernel, by decide +kernel⟩
theorem st_law_read (v0 v1 : V) : L2.start ["_law_tape_here", "_law_scale", "_law_relation"] [v0, v1] = [some v0, some v1, none] := rfl
abbrev s_law : Stmt := top 9
theorem sc_law : FnScope ["_law_script", "_law_tape_here", "_law_scale", "_law_first", "_law_second", "_law_due", "_law_a", "_law_step"] ["_law_script"] (defScope s_law) := ⟨rfl, rfl, rfl, by decide +kernel, rfl, by decide +kernel, by decide +kernel⟩
theorem st_law (v0 : V) : L2.start ["_law_script", "_law_tape_here", "_law_scale", "_law_first", "_law_second", "_law_due", "_law_a", "_law_step"] [v0] = [some v0, none, none, none, none, none, none, none] := rfl
/-- what the program answers -/
def impB (v1 : Int) (r1 : Rel) (n1 v2 : Int) (r2 : Rel) (n2 : Int) : Bool :=
  if v1 = v2 then (match r1 with | .eq => r2.h n1 n2 | .ne => decide (r2 = .ne) && decide (n1 = n2) | .le => (match r2 with | .le => decide (n1 ≤ n2) | .ne => !decide (n2 ≤ n1) | _ => false) | .ge => (match r2 with | .ge => decide (n2 ≤ n1) | .ne => !decide (n1 ≤ n2) | _ => false)) else false
def badAt (r1 : Rel) (n1 : Int) (r2 : Rel) (n2 x : Int) : Bool := r1.h x n1 && !r2.h x n2
def steps : List Int := [-1000000000000, -1, 0, 1, 1000000000000]
theorem law_imp (v1 v2 : Int) (r1 r2 : Rel) (n1 n2 : Int) (h1 : -1000000000 < n1) (h2 : n1 < 1000000000) (h3 : -1000000000 < n2) (h4 : n2 < 1000000000) :
    decide (impB v1 r1 n1 v2 r2 n2 = (decide (v1 = v2) && !(List.take [n1, n2].length [n1, n2]).any fun y => steps.any fun s => badAt r1 n1 r2 n2 (y + s))) = true := by
  rw [decide_eq_true_eq, List.take_length]
  unfold impB
  by_cases hv : v1 = v2
  · rw [if_pos hv, decide_eq_true hv, Bool.true_and]
    cases r1 <;> cases r2 <;> simp only [List.any_cons, List.any_nil, steps, badAt, Rel.h] <;> rw [Bool.eq_iff_iff] <;> simp <;> omega
  · rw [if_neg hv, decide_eq_false hv, Bool.false_and]
def spImp (K : PySem.W.Frag) : Sp := fun vs H Q _ => ∃ (p q : Addr) (v1 : Int) (r1 : Rel) (n1 v2 : Int) (r2 : Rel) (n2 : Int), vs = [.ref p, .ref q] ∧ LitAt K H p v1 r1 n1 ∧ LitAt K H q v2 r2 n2 ∧ Q (.bl (impB v1 r1 n1 v2 r2 n2)) H
structure Bi (K : PySem.W.Frag) (mg : Str → Option Value) : Prop where
  n_len : mg "len" = none
  n_int : mg "int" = none
  n_list : mg "list" = none
  n_isinstance : mg "isinstance" = none
  n_bool : mg "bool" = none
def spLaw (K : PySem.W.Frag) : Sp := fun vs H Q _ => ∃ (a : Addr) (ns : List Int), vs = [.ref a] ∧ SqL K H a (ns.map V.int) ∧ ns.length ≤ 63 ∧ ∀ H', Q (.bl true) H'
def spRead (K : PySem.W.Frag) : Sp := fun vs H Q _ => ∃ (t c : Addr) (m : Int), vs = [.ref t, .int m] ∧ Tp t c H ∧ 1 ≤ m ∧ m ≤ 100000000 ∧ ∀ (p : Addr) (v n : Int) (r : Rel) (H' : Hp), LitAt K H' p v r n → Tp t c H' → Kp [t] H H' → -1000000000 < n → n < 1000000000 → Q (.ref p) H'
section
variable {P : Program} {w : World} {K : PySem.W.Frag} {mg : Str → Option Value} {base : Heap}
theorem ok_law_draw {f : Addr} {fd : FuncData} (F : Fun K "_law_draw" "_law_draw" s_law_draw f fd) (B : Bi K mg)  : FnOk P w K mg base CX0 1 f fd ["_law_tape_here", "_law_many"] spDraw := by
  have nd := sc_law_draw.nd
  refine F.ok sc_law_draw ?len (fun cdv A outer s H vs Q E hr h => ?body)
  case len =>
    rintro vs H Q E ⟨t, c, m, rfl, _⟩
    rfl
  case body =>
    obtain ⟨t, c, m, rfl, T, hm1, hm2, q⟩ := h
    refine ⟨_, (Evl.pss_cut (ps_if (pt_cmpR op_lt (pe_ix ix_list (pv 0) pe_int (fun _ _ => rfl)) (pv 1) (nomark _))
      (pss_cons (ps_set (i := 2) nd rfl (by first | exact Or.inl rfl | exact Or.inr rfl) (pe_ix ix_list (pv 0) pe_int (fun _ _ => rfl)))
      (pss_cons (ps_set (i := 3) nd rfl (by first | exact Or.inl rfl | exact Or.inr rfl) (pe_ix ix_list (pv 0) pe_int (fun _ _ => rfl)))
      (pss_cons (ps_set (i := 4) nd rfl (by first | exact Or.inl rfl | exact Or.inr rfl) pe_int)
      (Evl.pss_cut (ps_if (pt_cmpR op_lt (pv 3) (pe_callB cg_len (by rfl) B.n_len PySem.boot_len (pa_cons (pv 2) pa_nil)) (nomark _))
      (pss_one (ps_set (i := 4) nd rfl (by first | exact Or.inl rfl | exact Or.inr rfl) (pe_ix ix_list (pv 2) (pv 3) (fun _ _ => rfl))))
      pss_nil)
      (Evl.pss_cut (ps_if (pt_cmpR op_lt (pv 4) pe_int (nomark _))
      (pss_one (ps_set (i := 4) nd rfl (by first | exact Or.inl rfl | exact Or.inr rfl) (pe_op op_sub (pe_op op_mul (pe_un un_neg pe_int) (pv 4)) pe_int)))
      pss_nil)
      (Evl.pss_cut (ps_if (pt_cmpR op_lt (pv 4) (pe_op op_pow pe_int pe_int) (nomark _))
      (pss_cons (ps_set (i := 4) nd rfl (by first | exact Or.inl rfl | exact Or.inr rfl) (pe_op op_mod (pe_callTy cg_int (by rfl) B.n_int PyProof.Rows.boot_int (pa_cons (pe_op op_add (pe_op op_add (pe_op op_mul (pv 4) pe_int) (pe_op op_mul (pv 3) pe_int)) pe_int) pa_nil)) pe_int))
      (pss_one (ps_set (i := 4) nd rfl (by first | exact Or.inl rfl | exact Or.inr rfl) (pe_op op_mod (pe_callTy cg_int (by rfl) B.n_int PyProof.Rows.boot_int (pa_cons (pe_op op_add (pe_op op_add (pe_op op_mul (pv 4) pe_int) (pe_op op_mul (pv 3) pe_int)) pe_int) pa_nil)) pe_int))))
      pss_nil)
      (pss_cons (ps_asg (pe_op op_add (pv 3) pe_int) (pg_sub (pv 0) pe_int set_list))
      (pss_one (ps_asg (pv 4) (pg_sub (pv 0) pe_int set_list))))))))))
      pss_nil)
      (pss_cons (ps_set (i := 5) nd rfl (by first | exact Or.inl rfl | exact Or.inr rfl) (pe_op op_mod (pe_callTy cg_int (by rfl) B.n_int PyProof.Rows.boot_int (pa_cons (pe_ix ix_list (pv 0) pe_int (fun _ _ => rfl)) pa_nil)) (pv 1)))
      (pss_cons (ps_asg (pe_op op_fdivW (pe_ix ix_list (pv 0) pe_int (fun _ _ => rfl)) (pv 1)) (pg_sub (pv 0) pe_int set_list))
      (pss_one (ps_ret (pv 5)))))), ?_⟩
    try dsimp only [L2.cxOf, L2.Cx.nox, L2.Cx.wish]
    rw [st_law_draw]
    obtain ⟨ns, k, z, h1, h2, hk, hz⟩ := id T.ex
    have net := T.ne
    show Evl.tCut _ _ _ _ _
    refine ⟨fun σ' H1 => ∃ (k z : Int) (x1 x2 x3 x4 : Option V), σ' = [some (V.ref t), some (.int m), x1, x2, x3, x4] ∧ H1 t = some (.lst [.ref c, .int k, .int z]) ∧ H1 c = some (.lst (ns.map V.int)) ∧ 0 ≤ k ∧ 0 ≤ z ∧ (H1 = H ∨ Kp [t] H H1), ?_, ?_⟩
    · walk_at "cg"
      refine if_S (fun hc => ?_) (fun hc => ?_)
      · walk_at "cg"
        refine ⟨fun σ' H1 => ∃ z' : Int, σ' = [some (V.ref t), some (.int m), some (V.ref c), some (.int k), some (.int z'), none] ∧ H = H1, ?_, ?_⟩
        · walk_at "cg"
          refine if_S (fun hk1 => ?_) (fun hk1 => ?_)
          · walk_at "cg"
            rw [List.length_map] at hk1
            refine r_ixL h2 (v := .int (ns.getD k.toNat 0)) ?_ ?_
            · have e : k.toNat < ns.length := by omega
              simp [atI, ixN, hk, hk1, e]
            · walk_at "cg"
              exact ⟨_, rfl, rfl⟩
          · walk_at "cg"
            exact ⟨_, rfl, rfl⟩
        · rintro σ' H1 ⟨z1, rfl, rfl⟩
          refine ⟨fun σ' H2 => ∃ z' : Int, 0 ≤ z' ∧ σ' = [some (V.ref t), some (.int m), some (V.ref c), some (.int k), some (.int z'), none] ∧ H = H2, ?_, ?_⟩
          · walk_at "cg"
            refine if_S (fun hk1 => ?_) (fun hk1 => ?_)
            · walk_at "cg"
              exact ⟨_, by omega, rfl, rfl⟩
            · walk_at "cg"
              exact ⟨_, by omega, rfl, rfl⟩
          · rintro σ' H2 ⟨z2, hz2, rfl, rfl⟩
            refine ⟨fun σ' H2 => ∃ z' : Int, 0 ≤ z' ∧ σ' = [some (V.ref t), some (.int m), some (V.ref c), some (.int k), some (.int z'), none] ∧ H = H2, ?_, ?_⟩
            · walk_at "cg"
              refine if_S (fun hk1 => ?_) (fun hk1 => ?_)
              · walk_at "cg"
                exact ⟨_, by omega, rfl, rfl⟩
              · walk_at "cg"
                exact ⟨_, hz2, rfl, rfl⟩
            · rintro σ' H2 ⟨z3, hz3, rfl, rfl⟩
              walk_at "cg"
              intro H2 e1 k1
              walk_at "cg"
              intro H3 e2 k2
              walk_at "cg"
              exact ⟨k + 1, z3, _, _, _, _, rfl, e2, k2.get1 net.symm (k1.get1 net.symm h2), by omega, hz3, .inr ⟨fun b o hb e => k2.k b o hb (k1.k b o hb e), k1.mu⟩⟩
      · walk_at "cg"
        exact ⟨k, z, _, _, _, _, rfl, h1, h2, hk, hz, .inl rfl⟩
    · rintro σ' H1 ⟨k, z, x1, x2, x3, x4, rfl, g1, g2, gk, gz, hk⟩
      walk_at "cg"
      refine r_rI (bigB_ok hm1 hm2) ?_
      walk_at "cg"
      intro H2 e1 k1
      walk_at "cg"
      refine q _ _ (Int.emod_nonneg _ (by omega)) (Int.emod_lt_of_pos _ (by omega)) ⟨ns, k, _, e1, k1.get1 net.symm g2, gk, Int.ediv_nonneg gz (by omega)⟩ ?_
      rcases hk with rfl | hk
      · exact k1
      · exact ⟨fun b o hb e => k1.k b o hb (hk.k b o hb e), hk.mu⟩

theorem ok_law_tape {f : Addr} {fd : FuncData} (F : Fun K "_law_tape" "_law_tape" s_law_tape f fd) (B : Bi K mg)  : FnOk P w K mg base CX0 1 f fd ["_law_script"] (spTape K) := by
  have nd := sc_law_tape.nd
  refine F.ok sc_law_tape ?len (fun cdv A outer s H vs Q E hr h => ?body)
  case len =>
    rintro vs H Q E ⟨a, ns, rfl, _⟩
    rfl
  case body =>
    obtain ⟨a, ns, rfl, hS, q⟩ := h
    refine ⟨_, (pss_one (ps_ret (pe_lst (pa_cons (pe_callTy cg_list (by rfl) B.n_list (by decide +kernel) (pa_cons (pv 0) pa_nil)) (pa_cons pe_int (pa_cons pe_int pa_nil)))))), ?_⟩
    try dsimp only [L2.cxOf, L2.Cx.nox, L2.Cx.wish]
    rw [st_law_tape]
    walk_at "cg"
    rename_i c H1 hc h1 k1 t H2 ht h2 k2
    exact q _ _ _ (Kp.free0 (by assumption) ht) hc ⟨ns, 0, 0, h2, k2.get0 h1, by decide, by decide⟩ (by walk_at "cg kp")

theorem ok_relation_holds {f : Addr} {fd : FuncData} (F : Fun K "relation_holds" "relation_holds" s_relation_holds f fd) (B : Bi K mg)  : FnOk P w K mg base CX0 1 f fd ["relation", "left", "right"] spRel := by
  have nd := sc_relation_holds.nd
  refine F.ok sc_relation_holds ?len (fun cdv A outer s H vs Q E hr h => ?body)
  case len =>
    rintro vs H Q E ⟨r, a, b, rfl, _⟩
    rfl
  case body =>
    obtain ⟨r, a, b, rfl, q⟩ := h
    refine ⟨_, (pss_cons (ps_if (pt_cmpR op_eq (pv 0) pe_str (nomark _))
      (pss_one (ps_ret (pe_cmpR op_le (pv 1) (pv 2) (nomark _))))
      pss_nil)
      (pss_cons (ps_if (pt_cmpR op_eq (pv 0) pe_str (nomark _))
      (pss_one (ps_ret (pe_cmpR op_ge (pv 1) (pv 2) (nomark _))))
      pss_nil)
      (pss_cons (ps_if (pt_cmpR op_eq (pv 0) pe_str (nomark _))
      (pss_one (ps_ret (pe_cmpR op_eq (pv 1) (pv 2) (nomark _))))
      pss_nil)
      (pss_one (ps_ret (pe_cmpR op_ne (pv 1) (pv 2) (nomark _))))))), ?_⟩
    try dsimp only [L2.cxOf, L2.Cx.nox, L2.Cx.wish]
    rw [st_relation_holds]
    cases r
    all_goals
      walk_at "cg"
      exact q

theorem ok_law_same {f : Addr} {fd : FuncData} (F : Fun K "_law_same" "_law_same" s_law_same f fd) (B : Bi K mg)  : FnOk P w K mg base CX0 1 f fd ["_law_told", "_law_due"] spSame := by
  have nd := sc_law_same.nd
  refine F.ok sc_law_same ?len (fun cdv A outer s H vs Q E hr h => ?body)
  case len =>
    rintro vs H Q E ⟨a, b, rfl, _⟩
    rfl
  case body =>
    obtain ⟨a, b, rfl, q⟩ := h
    refine ⟨_, (pss_one (ps_ret (pe_and (pe_callB call_isi (by rfl) B.n_isinstance (by decide +kernel) (pa_cons (pv 0) (pa_cons (pe_bltn (v := .ty "bool") rfl B.n_bool (by decide +kernel) rfl) pa_nil))) (pe_one (pe_cmpR op_eq (pv 0) (pv 1) (nomark _)))))), ?_⟩
    try dsimp only [L2.cxOf, L2.Cx.nox, L2.Cx.wish]
    rw [st_law_same]
    walk_at "cg"
    exact q

theorem ok_law_rel {f : Addr} {fd : FuncData} (F : Fun K "_law_rel" "_law_rel" s_law_rel f fd) (B : Bi K mg)  : FnOk P w K mg base CX0 1 f fd ["_law_relation", "_law_left", "_law_right"] spRel := by
  have nd := sc_law_rel.nd
  refine F.ok sc_law_rel ?len (fun cdv A outer s H vs Q E hr h => ?body)
  case len =>
    rintro vs H Q E ⟨r, a, b, rfl, _⟩
    rfl
  case body =>
    obtain ⟨r, a, b, rfl, q⟩ := h
    refine ⟨_, (pss_cons (ps_if (pt_cmpR op_eq (pv 0) pe_str (nomark _))
      (pss_one (ps_ret (pe_cmpR op_le (pv 1) (pv 2) (nomark _))))
      pss_nil)
      (pss_cons (ps_if (pt_cmpR op_eq (pv 0) pe_str (nomark _))
      (pss_one (ps_ret (pe_cmpR op_ge (pv 1) (pv 2) (nomark _))))
      pss_nil)
      (pss_one (ps_ret (pe_cmpR op_eq (pe_cmpR op_eq (pv 1) (pv 2) (nomark _)) (pe_cmpR op_eq (pv 0) pe_str (nomark _)) (nomark _)))))), ?_⟩
    try dsimp only [L2.cxOf, L2.Cx.nox, L2.Cx.wish]
    rw [st_law_rel]
    have e : Rel.h r a b = (match r with | .le => decide (a ≤ b) | .ge => decide (b ≤ a) | .eq => decide (decide (a = b) = true) | .ne => decide (decide (a = b) = false)) := by
      cases r <;> simp only [Rel.h] <;> rw [Bool.eq_iff_iff] <;> simp
    rw [e] at q
    cases r
    all_goals
      walk_at "cg"
      exact q
theorem ok_literal_implies {f : Addr} {fd : FuncData} (F : Fun K "literal_implies" "literal_implies" s_literal_implies f fd) (B : Bi K mg) (D_relation_holds : Is P w K mg base CX0 1 "relation_holds" ["relation", "left", "right"] spRel) : FnOk P w K mg base CX0 2 f fd ["first", "second"] (spImp K) := by
  have nd := sc_literal_implies.nd
  refine F.ok sc_literal_implies ?len (fun cdv A outer s H vs Q E hr h => ?body)
  case len =>
    rintro vs H Q E ⟨p, q, v1, r1, n1, v2, r2, n2, rfl, _⟩
    rfl
  case body =>
    obtain ⟨p, q, v1, r1, n1, v2, r2, n2, rfl, L1, L2, k⟩ := h
    refine ⟨_, (pss_cons (ps_if (pt_cmpR op_ne (pe_ix ix_tup (pv 0) pe_int (fun _ _ => rfl)) (pe_ix ix_tup (pv 1) pe_int (fun _ _ => rfl)) (nomark _))
      (pss_one (ps_ret pe_bl))
      pss_nil)
      (pss_cons (ps_set (i := 2) nd rfl (by first | exact Or.inl rfl | exact Or.inr rfl) (pe_ix ix_tup (pv 0) pe_int (fun _ _ => rfl)))
      (pss_cons (ps_set (i := 3) nd rfl (by first | exact Or.inl rfl | exact Or.inr rfl) (pe_ix ix_tup (pv 0) pe_int (fun _ _ => rfl)))
      (pss_cons (ps_set (i := 4) nd rfl (by first | exact Or.inl rfl | exact Or.inr rfl) (pe_ix ix_tup (pv 1) pe_int (fun _ _ => rfl)))
      (pss_cons (ps_set (i := 5) nd rfl (by first | exact Or.inl rfl | exact Or.inr rfl) (pe_ix ix_tup (pv 1) pe_int (fun _ _ => rfl)))
      (pss_cons (ps_if (pt_cmpR op_eq (pv 2) pe_str (nomark _))
      (pss_one (ps_ret (pe_is D_relation_holds (hr.mono (by decide)) rfl pass0 (pa_cons (pv 4) (pa_cons (pv 3) (pa_cons (pv 5) pa_nil))))))
      pss_nil)
      (pss_cons (ps_if (pt_cmpR op_eq (pv 2) pe_str (nomark _))
      (pss_one (ps_ret (pe_and (pe_cmpR op_eq (pv 4) pe_str (nomark _)) (pe_one (pe_cmpR op_eq (pv 3) (pv 5) (nomark _))))))
      pss_nil)
      (pss_cons (ps_if (pt_cmpR op_eq (pv 4) (pv 2) (nomark _))
      (pss_one (ps_ret (pe_is D_relation_holds (hr.mono (by decide)) rfl pass0 (pa_cons (pv 2) (pa_cons (pv 3) (pa_cons (pv 5) pa_nil))))))
      pss_nil)
      (pss_cons (ps_if (pt_cmpR op_eq (pv 4) pe_str (nomark _))
      (pss_one (ps_ret (pe_not (pe_is D_relation_holds (hr.mono (by decide)) rfl pass0 (pa_cons (pv 2) (pa_cons (pv 5) (pa_cons (pv 3) pa_nil)))))))
      pss_nil)
      (pss_one (ps_ret pe_bl))))))))))), ?_⟩
    try dsimp only [L2.cxOf, L2.Cx.nox, L2.Cx.wish]
    rw [st_literal_implies]
    walk_at "cg"
    by_cases hv : v1 = v2
    · subst hv
      cases r1 <;> cases r2
      all_goals
        walk_at "cg"
        simp [impB, Rel.h] at k
        first | exact k | (simp [Rel.h]; exact k)
    · walk_at "cg"
      unfold impB at k
      rw [if_neg hv] at k
      exact k
theorem ok_law_read {f : Addr} {fd : FuncData} (F : Fun K "_law_read" "_law_read" s_law_read f fd) (B : Bi K mg) (D_law_draw : Is P w K mg base CX0 1 "_law_draw" ["_law_tape_here", "_law_many"] spDraw) : FnOk P w K mg base CX0 2 f fd ["_law_tape_here", "_law_scale"] (spRead K) := by
  have nd := sc_law_read.nd
  refine F.ok sc_law_read ?len (fun cdv A outer s H vs Q E hr h => ?body)
  case len =>
    rintro vs H Q E ⟨t, c, m, rfl, _⟩
    rfl
  case body =>
    obtain ⟨t, c, m, rfl, T, m1, m2, q⟩ := h
    refine ⟨_, (pss_cons (ps_set (i := 2) nd rfl (by first | exact Or.inl rfl | exact Or.inr rfl) (pe_ix ix_list (pe_lst (pa_cons pe_str (pa_cons pe_str (pa_cons pe_str (pa_cons pe_str pa_nil))))) (pe_is D_law_draw (hr.mono (by decide)) rfl pass0 (pa_cons (pv 0) (pa_cons pe_int pa_nil))) (fun _ _ => rfl)))
      (pss_one (ps_ret (pe_tup (pa_cons (pe_callTy cg_int (by rfl) B.n_int PyProof.Rows.boot_int (pa_cons (pe_cmpR op_eq (pe_is D_law_draw (hr.mono (by decide)) rfl pass0 (pa_cons (pv 0) (pa_cons pe_int pa_nil))) pe_int (nomark _)) pa_nil)) (pa_cons (pv 2) (pa_cons (pe_op op_mul (pe_op op_sub (pe_is D_law_draw (hr.mono (by decide)) rfl pass0 (pa_cons (pv 0) (pa_cons pe_int pa_nil))) pe_int) (pv 1)) pa_nil))))))), ?_⟩
    try dsimp only [L2.cxOf, L2.Cx.nox, L2.Cx.wish]
    rw [st_law_read]
    walk_at "cg"
    refine ix_rel4 (by walk_at "cg h") (by assumption) (by assumption) fun r => ?_
    walk_at "cg"
    rename_i d1 _ _ _ _ _ d2 _ _ _ _ _ p1 H5 _ _ _
    have b : -1000000000 < (d2 - 6) * m ∧ (d2 - 6) * m < 1000000000 := by
      have e : d2 = 0 ∨ d2 = 1 ∨ d2 = 2 ∨ d2 = 3 ∨ d2 = 4 ∨ d2 = 5 ∨ d2 = 6 ∨ d2 = 7 ∨ d2 = 8 ∨ d2 = 9 ∨ d2 = 10 ∨ d2 = 11 ∨ d2 = 12 := by omega
      rcases e with rfl | rfl | rfl | rfl | rfl | rfl | rfl | rfl | rfl | rfl | rfl | rfl | rfl <;> omega
    exact q _ _ _ _ _ (by assumption) (by walk_at "cg h") (by walk_at "cg kp") b.1 b.2
theorem ok_law {f : Addr} {fd : FuncData} (F : Fun K "law" "law" s_law f fd) (B : Bi K mg) (D_law_tape : Is P w K mg base CX0 1 "_law_tape" ["_law_script"] (spTape K)) (D_law_read : Is P w K mg base CX0 2 "_law_read" ["_law_tape_here", "_law_scale"] (spRead K)) (D_law_same : Is P w K mg base CX0 1 "_law_same" ["_law_told", "_law_due"] spSame) (D_law_draw : Is P w K mg base CX0 1 "_law_draw" ["_law_tape_here", "_law_many"] spDraw) (D_literal_implies : Is P w K mg base CX0 2 "literal_implies" ["first", "second"] (spImp K)) (D_law_rel : Is P w K mg base CX0 1 "_law_rel" ["_law_relation", "_law_left", "_law_right"] spRel) : FnOk P w K mg base CX0 3 f fd ["_law_script"] (spLaw K) := by
  have nd := sc_law.nd
  refine F.ok sc_law ?len (fun cdv A outer s H vs Q E hr h => ?body)
  case len =>
    rintro vs H Q E ⟨a, ns, rfl, _⟩
    rfl
  case body =>
    obtain ⟨a, ns, rfl, hS, hl, q⟩ := h
    refine ⟨_, (pss_cons (ps_set (i := 1) nd rfl (by first | exact Or.inl rfl | exact Or.inr rfl) (pe_is D_law_tape (hr.mono (by decide)) rfl pass0 (pa_cons (pv 0) pa_nil)))
      (pss_cons (ps_set (i := 2) nd rfl (by first | exact Or.inl rfl | exact Or.inr rfl) pe_int)
      (Evl.pss_cut (ps_if (pt_cmpR op_eq (pe_is D_law_draw (hr.mono (by decide)) rfl pass0 (pa_cons (pv 1) (pa_cons pe_int pa_nil))) pe_int (nomark _))
      (pss_one (ps_set (i := 2) nd rfl (by first | exact Or.inl rfl | exact Or.inr rfl) (pe_op op_add pe_int (pe_is D_law_draw (hr.mono (by decide)) rfl pass0 (pa_cons (pv 1) (pa_cons (pe_op op_pow pe_int pe_int) pa_nil))))))
      pss_nil)
      (pss_cons (ps_set (i := 3) nd rfl (by first | exact Or.inl rfl | exact Or.inr rfl) (pe_is D_law_read (hr.mono (by decide)) rfl pass0 (pa_cons (pv 1) (pa_cons (pv 2) pa_nil))))
      (pss_cons (ps_set (i := 4) nd rfl (by first | exact Or.inl rfl | exact Or.inr rfl) (pe_is D_law_read (hr.mono (by decide)) rfl pass0 (pa_cons (pv 1) (pa_cons (pv 2) pa_nil))))
      (pss_cons (ps_set (i := 5) nd rfl (by first | exact Or.inl rfl | exact Or.inr rfl) (pe_cmpR op_eq (pe_ix ix_tup (pv 3) pe_int (fun _ _ => rfl)) (pe_ix ix_tup (pv 4) pe_int (fun _ _ => rfl)) (nomark _)))
      (pss_cons (ps_for PassesOwn.never rfl (pi_list (pe_lst (pa_cons (pe_ix ix_tup (pv 3) pe_int (fun _ _ => rfl)) (pa_cons (pe_ix ix_tup (pv 4) pe_int (fun _ _ => rfl)) pa_nil)))) (pg_name (i := 6) nd rfl (by first | exact Or.inl rfl | exact Or.inr rfl))
      (pss_one (ps_for PassesOwn.never rfl (pi_list (pe_lst (pa_cons (pe_un un_neg (pe_op op_pow pe_int pe_int)) (pa_cons (pe_un un_neg pe_int) (pa_cons pe_int (pa_cons pe_int (pa_cons (pe_op op_pow pe_int pe_int) pa_nil))))))) (pg_name (i := 7) nd rfl (by first | exact Or.inl rfl | exact Or.inr rfl))
      (pss_one (ps_if (PW.pt (pw_and (pt_val (pe_is D_law_rel (hr.mono (by decide)) rfl pass0 (pa_cons (pe_ix ix_tup (pv 3) pe_int (fun _ _ => rfl)) (pa_cons (pe_op op_add (pv 6) (pv 7)) (pa_cons (pe_ix ix_tup (pv 3) pe_int (fun _ _ => rfl)) pa_nil))))) (pw_and1 (pt_not (pt_val (pe_is D_law_rel (hr.mono (by decide)) rfl pass0 (pa_cons (pe_ix ix_tup (pv 4) pe_int (fun _ _ => rfl)) (pa_cons (pe_op op_add (pv 6) (pv 7)) (pa_cons (pe_ix ix_tup (pv 4) pe_int (fun _ _ => rfl)) pa_nil)))))))))
      (pss_one (ps_set (i := 5) nd rfl (by first | exact Or.inl rfl | exact Or.inr rfl) pe_bl))
      pss_nil)))))
      (pss_one (ps_ret (pe_is D_law_same (hr.mono (by decide)) rfl pass0 (pa_cons (pe_is D_literal_implies (hr.mono (by decide)) rfl pass0 (pa_cons (pv 3) (pa_cons (pv 4) pa_nil))) (pa_cons (pv 5) pa_nil)))))))))))), ?_⟩
    try dsimp only [L2.cxOf, L2.Cx.nox, L2.Cx.wish]
    rw [st_law]
    walk_at "cg"
    refine ⟨a, ns, rfl, hS, fun t c H1 ht hc T1 k1 => ?_⟩
    walk_at "cg"
    refine ⟨fun σ' H' => ∃ m : Int, σ' = [some (.ref a), some (.ref t), some (.int m), none, none, none, none, none] ∧ Tp t c H' ∧ 1 ≤ m ∧ m ≤ 100000000, ?_, ?_⟩
    · walk_at "cg"
      refine if_S (fun e => ?_) (fun e => ?_)
      · walk_at "cg"
        exact ⟨_, rfl, by walk_at "cg h", by omega, by omega⟩
      · walk_at "cg"
        exact ⟨_, rfl, by walk_at "cg h", by omega, by omega⟩
    · rintro σ' H2 ⟨m, rfl, T2, m1, m2⟩
      walk_at "cg"
      refine ⟨t, c, m, rfl, T2, m1, m2, fun p v1 n1 r1 H3 L3 T3 k3 b1 b2 => ?_⟩
      walk_at "cg"
      refine ⟨t, c, m, rfl, T3, m1, m2, fun p' v2 n2 r2 H4 L4 T4 k4 b3 b4 => ?_⟩
      have L4' := k4.tup L3
      walk_at "cg"
      rename_i pl H5 _ hl5 k5
      have A5 := k5.tup L4'
      have B5 := k5.tup L4
      clear L4' L4 k4 T4 L3 T3 k3 T2 T1 k1
      refine r_forLI [n1, n2] (fun i σ' H' => ∃ x6 x7 : Option V, σ' = [some (.ref a), some (.ref t), some (.int m), some (.ref p), some (.ref p'), some (.bl (decide (v1 = v2) && !(([n1, n2].take i).any fun y => steps.any fun s => badAt r1 n1 r2 n2 (y + s)))), x6, x7] ∧ LitAt K H' p v1 r1 n1 ∧ LitAt K H' p' v2 r2 n2 ∧ H' pl = some (.lst [.int n1, .int n2])) ⟨none, none, by simp, A5, B5, hl5⟩ (fun i σ' H' ⟨_, _, _, _, _, z⟩ => z) ?_ ?_
      · rintro i y σ' H6 hi ⟨x6, x7, rfl, L1, L2, hl6⟩
        rw [any_take hi]
        generalize (decide (v1 = v2)) = d0
        generalize ((List.take i [n1, n2]).any fun y => steps.any fun s => badAt r1 n1 r2 n2 (y + s)) = d1
        walk_at "cg"
        rename_i ps H7 _ hl7 k7
        refine r_forLI steps (fun i σ' H' => ∃ x7 : Option V, σ' = [some (.ref a), some (.ref t), some (.int m), some (.ref p), some (.ref p'), some (.bl (d0 && !d1 && !((steps.take i).any fun s => badAt r1 n1 r2 n2 (y + s)))), some (.int y), x7] ∧ LitAt K H' p v1 r1 n1 ∧ LitAt K H' p' v2 r2 n2 ∧ H' pl = some (.lst [.int n1, .int n2]) ∧ H' ps = some (.lst (steps.map V.int))) ⟨x7, by simp, k7.tup L1, k7.tup L2, k7.get0 hl6, hl7⟩ (fun i σ' H' ⟨_, _, _, _, _, z⟩ => z) ?_ ?_
        · rintro j s σ' H8 hj ⟨x7, rfl, L1, L2, hl8, hs8⟩
          rw [any_take hj]
          generalize (steps.take j).any (fun s => badAt r1 n1 r2 n2 (y + s)) = d2
          walk_at "cg"
          refine if_B (fun e1 => ?_) (fun e1 => ?_)
          · walk_at "cg"
            generalize e2 : r2.h (y + s) n2 = b2
            cases b2
            · walk_at "cg"
              exact ⟨some (.int s), by simp [badAt, e1, e2], L1, L2, hl8, hs8⟩
            · walk_at "cg"
              exact ⟨some (.int s), by simp [badAt, e1, e2], L1, L2, hl8, hs8⟩
          · walk_at "cg"
            exact ⟨some (.int s), by simp [badAt, e1], L1, L2, hl8, hs8⟩
        · rintro σ' H8 ⟨x7, rfl, L1, L2, hl8, hs8⟩
          refine ⟨some (.int y), x7, ?_, L1, L2, hl8⟩
          rw [List.take_length]
          cases d0 <;> cases d1 <;> simp
      · rintro σ' H6 ⟨x6, x7, rfl, L1, L2, hl6⟩
        walk_at "cg"
        refine ⟨p, p', v1, r1, n1, v2, r2, n2, rfl, L1, L2, ?_⟩
        walk_at "cg"
        rw [law_imp v1 v2 r1 r2 n1 n2 b1 b2 b3 b4]
        exact q _
end
theorem all_mk {l : PySem.W.OpenLaw} {w : World} {K : PySem.W.Frag} {h : Heap} {mg : Str → Option Value} {fa : Addr} (X : K.In h) (G : h.Ns mainGlobals mg) (hfa : mg "law" = some (.ref fa))
    {od_relation_holds an_relation_holds : Option Addr} {sl_relation_holds : Array (Option Value)} {f_relation_holds : Addr} {oc_relation_holds kV_relation_holds dc_relation_holds pm_relation_holds cd_relation_holds ct_relation_holds : Value}
    {od_literal_implies an_literal_implies : Option Addr} {sl_literal_implies : Array (Option Value)} {f_literal_implies : Addr} {oc_literal_implies kV_literal_implies dc_literal_implies pm_literal_implies cd_literal_implies ct_literal_implies : Value}
    {od_law_same an_law_same : Option Addr} {sl_law_same : Array (Option Value)} {f_law_same : Addr} {oc_law_same kV_law_same dc_law_same pm_law_same cd_law_same ct_law_same : Value}
    {od_law_draw an_law_draw : Option Addr} {sl_law_draw : Array (Option Value)} {f_law_draw : Addr} {oc_law_draw kV_law_draw dc_law_draw pm_law_draw cd_law_draw ct_law_draw : Value}
    {od_law_tape an_law_tape : Option Addr} {sl_law_tape : Array (Option Value)} {f_law_tape : Addr} {oc_law_tape kV_law_tape dc_law_tape pm_law_tape cd_law_tape ct_law_tape : Value}
    {od_law_rel an_law_rel : Option Addr} {sl_law_rel : Array (Option Value)} {f_law_rel : Addr} {oc_law_rel kV_law_rel dc_law_rel pm_law_rel cd_law_rel ct_law_rel : Value}
    {od_law_read an_law_read : Option Addr} {sl_law_read : Array (Option Value)} {f_law_read : Addr} {oc_law_read kV_law_read dc_law_read pm_law_read cd_law_read ct_law_read : Value}
    {od_law an_law : Option Addr} {sl_law : Array (Option Value)} {f_law : Addr} {oc_law kV_law dc_law pm_law cd_law ct_law : Value}
    (a_relation_holds : PySem.W.nsIn K mainGlobals "relation_holds" = some (some (.ref f_relation_holds))) (l_relation_holds : K.lookup f_relation_holds = some ⟨oc_relation_holds, od_relation_holds, .func (PySem.W.fnOf "relation_holds" "relation_holds" (defArgs s_relation_holds) (defBody s_relation_holds) (defScope s_relation_holds) .none kV_relation_holds dc_relation_holds pm_relation_holds an_relation_holds cd_relation_holds ct_relation_holds), sl_relation_holds⟩) (c_relation_holds : PySem.W.codeIn K cd_relation_holds "relation_holds" = true) (k_relation_holds : PySem.W.keepIn K (.ref f_relation_holds) = true)
    (a_literal_implies : PySem.W.nsIn K mainGlobals "literal_implies" = some (some (.ref f_literal_implies))) (l_literal_implies : K.lookup f_literal_implies = some ⟨oc_literal_implies, od_literal_implies, .func (PySem.W.fnOf "literal_implies" "literal_implies" (defArgs s_literal_implies) (defBody s_literal_implies) (defScope s_literal_implies) .none kV_literal_implies dc_literal_implies pm_literal_implies an_literal_implies cd_literal_implies ct_literal_implies), sl_literal_implies⟩) (c_literal_implies : PySem.W.codeIn K cd_literal_implies "literal_implies" = true) (k_literal_implies : PySem.W.keepIn K (.ref f_literal_implies) = true)
    (a_law_same : PySem.W.nsIn K mainGlobals "_law_same" = some (some (.ref f_law_same))) (l_law_same : K.lookup f_law_same = some ⟨oc_law_same, od_law_same, .func (PySem.W.fnOf "_law_same" "_law_same" (defArgs s_law_same) (defBody s_law_same) (defScope s_law_same) .none kV_law_same dc_law_same pm_law_same an_law_same cd_law_same ct_law_same), sl_law_same⟩) (c_law_same : PySem.W.codeIn K cd_law_same "_law_same" = true) (k_law_same : PySem.W.keepIn K (.ref f_law_same) = true)
    (a_law_draw : PySem.W.nsIn K mainGlobals "_law_draw" = some (some (.ref f_law_draw))) (l_law_draw : K.lookup f_law_draw = some ⟨oc_law_draw, od_law_draw, .func (PySem.W.fnOf "_law_draw" "_law_draw" (defArgs s_law_draw) (defBody s_law_draw) (defScope s_law_draw) .none kV_law_draw dc_law_draw pm_law_draw an_law_draw cd_law_draw ct_law_draw), sl_law_draw⟩) (c_law_draw : PySem.W.codeIn K cd_law_draw "_law_draw" = true) (k_law_draw : PySem.W.keepIn K (.ref f_law_draw) = true)
    (a_law_tape : PySem.W.nsIn K mainGlobals "_law_tape" = some (some (.ref f_law_tape))) (l_law_tape : K.lookup f_law_tape = some ⟨oc_law_tape, od_law_tape, .func (PySem.W.fnOf "_law_tape" "_law_tape" (defArgs s_law_tape) (defBody s_law_tape) (defScope s_law_tape) .none kV_law_tape dc_law_tape pm_law_tape an_law_tape cd_law_tape ct_law_tape), sl_law_tape⟩) (c_law_tape : PySem.W.codeIn K cd_law_tape "_law_tape" = true) (k_law_tape : PySem.W.keepIn K (.ref f_law_tape) = true)
    (a_law_rel : PySem.W.nsIn K mainGlobals "_law_rel" = some (some (.ref f_law_rel))) (l_law_rel : K.lookup f_law_rel = some ⟨oc_law_rel, od_law_rel, .func (PySem.W.fnOf "_law_rel" "_law_rel" (defArgs s_law_rel) (defBody s_law_rel) (defScope s_law_rel) .none kV_law_rel dc_law_rel pm_law_rel an_law_rel cd_law_rel ct_law_rel), sl_law_rel⟩) (c_law_rel : PySem.W.codeIn K cd_law_rel "_law_rel" = true) (k_law_rel : PySem.W.keepIn K (.ref f_law_rel) = true)
    (a_law_read : PySem.W.nsIn K mainGlobals "_law_read" = some (some (.ref f_law_read))) (l_law_read : K.lookup f_law_read = some ⟨oc_law_read, od_law_read, .func (PySem.W.fnOf "_law_read" "_law_read" (defArgs s_law_read) (defBody s_law_read) (defScope s_law_read) .none kV_law_read dc_law_read pm_law_read an_law_read cd_law_read ct_law_read), sl_law_read⟩) (c_law_read : PySem.W.codeIn K cd_law_read "_law_read" = true) (k_law_read : PySem.W.keepIn K (.ref f_law_read) = true)
    (a_law : PySem.W.nsIn K mainGlobals "law" = some (some (.ref f_law))) (l_law : K.lookup f_law = some ⟨oc_law, od_law, .func (PySem.W.fnOf "law" "law" (defArgs s_law) (defBody s_law) (defScope s_law) .none kV_law dc_law pm_law an_law cd_law ct_law), sl_law⟩) (c_law : PySem.W.codeIn K cd_law "law" = true) (k_law : PySem.W.keepIn K (.ref f_law) = true)
    (z_len : PySem.W.nsIn K mainGlobals "len" = some none)
    (z_int : PySem.W.nsIn K mainGlobals "int" = some none)
    (z_list : PySem.W.nsIn K mainGlobals "list" = some none)
    (z_isinstance : PySem.W.nsIn K mainGlobals "isinstance" = some none)
    (z_bool : PySem.W.nsIn K mainGlobals "bool" = some none)
    : ∃ fd : FuncData, (∀ (s : Shared) (v : Value), BindsTo s fd ⟨[v], []⟩ [("_law_script", v)]) ∧ ∀ base : Heap, K.In base → base.Ns mainGlobals mg → FnOk l.prog w K mg base CX0 3 fa fd ["_law_script"] ((spLaw K)) := by
  have e := hfa.symm.trans (PySem.W.mg_of X G a_law)
  cases e
  have B : Bi K mg := { n_len := PySem.W.mg_none_of X G z_len, n_int := PySem.W.mg_none_of X G z_int, n_list := PySem.W.mg_none_of X G z_list, n_isinstance := PySem.W.mg_none_of X G z_isinstance, n_bool := PySem.W.mg_none_of X G z_bool }
  have F_relation_holds := fun_mk (st := s_relation_holds) l_relation_holds c_relation_holds k_relation_holds
  have b_relation_holds := F_relation_holds.binds (ps := ["relation", "left", "right"]) fun _ _ _ _ _ _ us hl => match us, hl with | [_, _, _], _ => rfl
  have F_literal_implies := fun_mk (st := s_literal_implies) l_literal_implies c_literal_implies k_literal_implies
  have b_literal_implies := F_literal_implies.binds (ps := ["first", "second"]) fun _ _ _ _ _ _ us hl => match us, hl with | [_, _], _ => rfl
  have F_law_same := fun_mk (st := s_law_same) l_law_same c_law_same k_law_same
  have b_law_same := F_law_same.binds (ps := ["_law_told", "_law_due"]) fun _ _ _ _ _ _ us hl => match us, hl with | [_, _], _ => rfl
  have F_law_draw := fun_mk (st := s_law_draw) l_law_draw c_law_draw k_law_draw
  have b_law_draw := F_law_draw.binds (ps := ["_law_tape_here", "_law_many"]) fun _ _ _ _ _ _ us hl => match us, hl with | [_, _], _ => rfl
  have F_law_tape := fun_mk (st := s_law_tape) l_law_tape c_law_tape k_law_tape
  have b_law_tape := F_law_tape.binds (ps := ["_law_script"]) fun _ _ _ _ _ _ us hl => match us, hl with | [_], _ => rfl
  have F_law_rel := fun_mk (st := s_law_rel) l_law_rel c_law_rel k_law_rel
  have b_law_rel := F_law_rel.binds (ps := ["_law_relation", "_law_left", "_law_right"]) fun _ _ _ _ _ _ us hl => match us, hl with | [_, _, _], _ => rfl
  have F_law_read := fun_mk (st := s_law_read) l_law_read c_law_read k_law_read
  have b_law_read := F_law_read.binds (ps := ["_law_tape_here", "_law_scale"]) fun _ _ _ _ _ _ us hl => match us, hl with | [_, _], _ => rfl
  refine ⟨PySem.W.fnOf "law" "law" (defArgs s_law) (defBody s_law) (defScope s_law) .none kV_law dc_law pm_law an_law cd_law ct_law, fun s v => .of_eq rfl, fun base _ _ => ?_⟩
  have D_relation_holds : Is l.prog w K mg base CX0 1 "relation_holds" ["relation", "left", "right"] spRel := ⟨_, _, ok_relation_holds F_relation_holds B , PySem.W.mg_of X G a_relation_holds, k_relation_holds, b_relation_holds⟩
  have D_literal_implies : Is l.prog w K mg base CX0 2 "literal_implies" ["first", "second"] (spImp K) := ⟨_, _, ok_literal_implies F_literal_implies B D_relation_holds, PySem.W.mg_of X G a_literal_implies, k_literal_implies, b_literal_implies⟩
  have D_law_same : Is l.prog w K mg base CX0 1 "_law_same" ["_law_told", "_law_due"] spSame := ⟨_, _, ok_law_same F_law_same B , PySem.W.mg_of X G a_law_same, k_law_same, b_law_same⟩
  have D_law_draw : Is l.prog w K mg base CX0 1 "_law_draw" ["_law_tape_here", "_law_many"] spDraw := ⟨_, _, ok_law_draw F_law_draw B , PySem.W.mg_of X G a_law_draw, k_law_draw, b_law_draw⟩
  have D_law_tape : Is l.prog w K mg base CX0 1 "_law_tape" ["_law_script"] (spTape K) := ⟨_, _, ok_law_tape F_law_tape B , PySem.W.mg_of X G a_law_tape, k_law_tape, b_law_tape⟩
  have D_law_rel : Is l.prog w K mg base CX0 1 "_law_rel" ["_law_relation", "_law_left", "_law_right"] spRel := ⟨_, _, ok_law_rel F_law_rel B , PySem.W.mg_of X G a_law_rel, k_law_rel, b_law_rel⟩
  have D_law_read : Is l.prog w K mg base CX0 2 "_law_read" ["_law_tape_here", "_law_scale"] (spRead K) := ⟨_, _, ok_law_read F_law_read B D_law_draw, PySem.W.mg_of X G a_law_read, k_law_read, b_law_read⟩
  exact ok_law (fun_mk (st := s_law) l_law c_law k_law) B D_law_tape D_law_read D_law_same D_law_draw D_literal_implies D_law_rel
theorem walk {l : PySem.W.OpenLaw} {q : Program} {loose : List Str} {XP : (Str → Option Value) → Heap → Prop} {YP : World → Heap → Prop} {d : DefRec} {K : Params → PySem.W.Frag} (hn : l.most = some 63) (hdf : d.params.defaults = [])
    (hY : ∀ (w : World) (h : Heap), YP w h → (K w.params).In h)
    (F : ∀ (w : World) (mg : Str → Option Value) (fa : Addr) (h : Heap), (K w.params).In h → h.Ns mainGlobals mg → mg d.name = some (.ref fa) →
      ∃ fd : FuncData, (∀ (s : Shared) (u : Value), BindsTo s fd ⟨[u], []⟩ [("_law_script", u)]) ∧ ∀ base : Heap, (K w.params).In base → base.Ns mainGlobals mg → FnOk l.prog w (K w.params) mg base CX0 3 fa fd ["_law_script"] (spLaw (K w.params))) :
    PySem.W.WalkO q loose XP YP l.row.toRowW d [] (fun f vs => PySem.call f vs) :=
  L2.walk_of (n := 63) (k := 3) (x := "_law_script") (CX := fun _ => CX0) (sp := fun w => spLaw (K w.params)) hn (by decide) hdf ⟨rfl, by decide, by decide⟩ hY F (fun _ _ a ns hl _ hS => ⟨a, ns, rfl, hS, hl, fun _ => rfl⟩) fun _ _ _ _ _ z => z
end CG

open PySem PySem.W PyProof.Rows in
set_option maxRecDepth 100000 in
set_option maxHeartbeats 0 in
theorem PySem.Challenge.cw_commonground_k02_literal_implies_holds : PySem.Challenge.rw_commonground_k02_literal_implies.Holds := by
  w_on; o_law; k_head; (case hw => w_witness2)
  k_fill
  refine CG.walk (l := PySem.Challenge.rw_commonground_k02_literal_implies) rfl rfl (fun w h Y => PySem.W.kIn_of Y) ?F
  case F =>
    intro w mg fa h KX G hmg
    refine' CG.all_mk KX G hmg ?a_relation_holds ?l_relation_holds ?c_relation_holds ?k_relation_holds ?a_literal_implies ?l_literal_implies ?c_literal_implies ?k_literal_implies ?a_law_same ?l_law_same ?c_law_same ?k_law_same ?a_law_draw ?l_law_draw ?c_law_draw ?k_law_draw ?a_law_tape ?l_law_tape ?c_law_tape ?k_law_tape ?a_law_rel ?l_law_rel ?c_law_rel ?k_law_rel ?a_law_read ?l_law_read ?c_law_read ?k_law_read ?a_law ?l_law ?c_law ?k_law ?z_len ?z_int ?z_list ?z_isinstance ?z_bool
    (case a_relation_holds => k_is)
    (case l_relation_holds => k_is)
    (case c_relation_holds => k_is)
    (case k_relation_holds => k_is)
    (case a_literal_implies => k_is)
    (case l_literal_implies => k_is)
    (case c_literal_implies => k_is)
    (case k_literal_implies => k_is)
    (case a_law_same => k_is)
    (case l_law_same => k_is)
    (case c_law_same => k_is)
    (case k_law_same => k_is)
    (case a_law_draw => k_is)
    (case l_law_draw => k_is)
    (case c_law_draw => k_is)
    (case k_law_draw => k_is)
    (case a_law_tape => k_is)
    (case l_law_tape => k_is)
    (case c_law_tape => k_is)
    (case k_law_tape => k_is)
    (case a_law_rel => k_is)
    (case l_law_rel => k_is)
    (case c_law_rel => k_is)
    (case k_law_rel => k_is)
    (case a_law_read => k_is)
    (case l_law_read => k_is)
    (case c_law_read => k_is)
    (case k_law_read => k_is)
    (case a_law => k_is)
    (case l_law => k_is)
    (case c_law => k_is)
    (case k_law => k_is)
    (case z_len => k_is)
    (case z_int => k_is)
    (case z_list => k_is)
    (case z_isinstance => k_is)
    (case z_bool => k_is)
#print axioms PySem.Challenge.cw_commonground_k02_literal_implies_holds
