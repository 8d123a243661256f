import PyProof.Rows.All
import Wide.All
import OpenK.AllK
import Wide.FinOn
import HandS.ForMost
import HandS.Wide
import HandS.IsInst
import HandS.Evl
import HandS.Walk
import HandS.Conv
import HandS.Deep
import HandS.More
import HandS.SetFor
import HandS.Strs
import HandS.TupSets
import HandS.TupAny
import KE.KDictCopyH
import HandS.DictComp
import HandS.Zip
import PySem.Challenge.RW_commonground_k21_cost_of_a_look
set_option Elab.async false
set_option linter.all false
set_option maxRecDepth 100000
set_option maxHeartbeats 4000000

/-! ### ground: calls by a bundle, frames, step rules -/
namespace CG
open PySem L2

structure Is (P : Program) (w : World) (K : PySem.W.Frag) (mg : Str → Option Value) (base : Heap) (CX : CXT) (k : Nat) (x : Str) (ps : List Str) (sp : Sp) : Prop where
  ex : ∃ (f : Addr) (fd : FuncData), FnOk P w K mg base CX k f fd ps sp ∧ mg x = some (.ref f) ∧ PySem.W.keepIn K (.ref f) = true ∧ Binds K fd ps []

def tCl (sp : Sp) (E : XK) (t : TA) : TE := fun σ H Q => t σ H fun vs H1 => sp vs H1 Q E
section
variable {X : Cx} {CX : CXT} {k : Nat} {x : Str} {ps : List Str} {sp : Sp} {E : XK} {t : TA} {p pos : Pos} {e : Expr} {es : List Expr}
theorem pe_is (D : Is X.prog X.w X.K X.mg X.base CX k x ps sp) (hr : Room k X.A) (hg : Gl X x) (hx : Passes CX X E) (ha : PA X (e :: es) t) (hdb : (x == ("__debug__" : Str)) = false := by decide)
    (he : starEach (e :: es) X.env = (false, eval e X.env) :: starEach es X.env := by rfl) (hpl : (backTo pos (starEach es X.env)).any (·.1) = false := by rfl) : PE X (.Call (.Name x p) (e :: es) [] pos) (tCl sp E t) := by
  obtain ⟨f, fd, F, hm, hk, hb⟩ := D.ex
  have q := pe_call (p := p) F hr hg hm hk hb Paired.nil hx ha hdb he hpl
  have e1 : tCall sp [] E t = tCl sp E t := by
    funext σ H Q
    show (t σ H fun vs H1 => sp (vs ++ []) H1 Q E) = (t σ H fun vs H1 => sp vs H1 Q E)
    simp only [List.append_nil]
  rw [← e1]
  exact q
theorem pe_gc {v : V} {j : Pos} (hg : Gl X x) (hm : ∃ u, X.mg x = some u ∧ RelV v u) (hdb : (x == ("__debug__" : Str)) = false := by decide) (hnm : x ≠ "__name__" := by decide) : PE X (.Name x j) (tC v) := by
  obtain ⟨u, h1, h2⟩ := hm
  exact pe_glob hg h1 h2 hdb
end

/-- all that is tracked stands, but at S, where things are written -/
structure Kp (S : List Addr) (H H' : Hp) : Prop where
  k : ∀ b o, ¬ b ∈ S → H b = some o → H' b = some o
  mu : ∀ b, b ∈ S → Mut (H b)
/-- the same from the entry: what is new since is free -/
def Fm (S : List Addr) (H H' : Hp) : Prop := ∀ b o, ¬ b ∈ S → H b = some o → H' b = some o
section
variable {S S' : List Addr} {H H0 H1 H2 : Hp} {a p : Addr} {o o' : HO} {xs : List V} {K : PySem.W.Frag}
theorem Fm.start : Fm S H H := fun _ _ _ h => h
theorem Kp.refl : Kp [] H H := ⟨fun _ _ _ h => h, fun _ h => nomatch h⟩
theorem Kp.new (hp : H p = none) : Kp [] H (upd H p o) := ⟨fun b u _ h => by rw [upd_ne (ne_of_none h hp)]; exact h, fun _ h => nomatch h⟩
theorem Kp.put (hp : H p = some o) (hm : Mut (some o)) : Kp [p] H (upd H p o') := ⟨fun b u hb h => by rw [upd_ne (fun e => hb (by simp [e]))]; exact h, fun b hb => by
  rw [List.mem_singleton] at hb
  subst hb
  rw [hp]
  exact hm⟩
theorem Fm.go (f : Fm S H0 H) (k : Kp S' H H1) (h : ∀ a, a ∈ S' → a ∈ S ∨ H0 a = none) : Fm S H0 H1 := fun b o hb e => by
  refine k.k b o (fun hm => ?_) (f b o hb e)
  rcases h b hm with q | q
  · exact hb q
  · rw [q] at e
    cases e
theorem Fm.go0 (f : Fm S H0 H) (k : Kp [] H H1) : Fm S H0 H1 := f.go k fun _ h => nomatch h
theorem Fm.kp (f : Fm S H0 H) (mu : ∀ b, b ∈ S → Mut (H0 b)) : Kp S H0 H := ⟨f, mu⟩
theorem Fm.free (f : Fm S H0 H) (h : H p = none) (hs : ∀ b, b ∈ S → ∃ o, H b = some o) : H0 p = none := by
  cases q : H0 p with
  | none => rfl
  | some o =>
    by_cases hb : p ∈ S
    · obtain ⟨o, e⟩ := hs p hb
      rw [h] at e
      cases e
    · rw [f p o hb q] at h
      cases h
theorem Kp.free (f : Kp S H0 H) (h : H p = none) (hs : ∀ b, b ∈ S → ∃ o, H b = some o) : H0 p = none := Fm.free (S := S) f.k h hs
theorem Kp.free0 (f : Kp [] H0 H) (h : H p = none) : H0 p = none := f.free h fun _ hm => by cases hm
theorem Kp.get (k : Kp S H H1) (hn : ¬ a ∈ S) (h : H a = some o) : H1 a = some o := k.k _ _ hn h
theorem Kp.get0 (k : Kp [] H H1) (h : H a = some o) : H1 a = some o := k.k _ _ (fun h => nomatch h) h
theorem Kp.get1 (k : Kp [p] H H1) (hn : a ≠ p) (h : H a = some o) : H1 a = some o := k.k _ _ (fun h => hn (by simpa using h)) h
theorem Kp.tup (k : Kp S H H1) (h : SqT K H a xs) : SqT K H1 a xs := by
  rcases h with (h | ⟨u, h⟩) | h
  · exact .inl (.inl (k.k _ _ (fun hm => by have q := k.mu _ hm; rw [h] at q; exact q) h))
  · exact .inl (.inr ⟨u, k.k _ _ (fun hm => by have q := k.mu _ hm; rw [h] at q; exact q) h⟩)
  · exact .inr h
theorem Kp.trans (a : Kp [] H0 H1) (b : Kp [] H1 H2) : Kp [] H0 H2 := ⟨fun c o _ h => b.get0 (a.get0 h), fun _ h => nomatch h⟩
theorem Kp.tr (a : Kp S H0 H1) (b : Kp S' H1 H2) (h : ∀ x, x ∈ S' → x ∈ S ∨ H0 x = none) : Kp S H0 H2 := ⟨fun c o hc e => b.k c o (fun hm => by
  rcases h c hm with q | q
  · exact hc q
  · rw [q] at e
    cases e) (a.k c o hc e), a.mu⟩
theorem Kp.tr0 (b : Kp [] H1 H2) (a : Kp S H0 H1) : Kp S H0 H2 := a.tr b fun _ h => by cases h
theorem Kp.tr1 (b : Kp S H1 H2) (a : Kp S H0 H1) : Kp S H0 H2 := a.tr b fun _ h => .inl h
theorem Kp.trN (b : Kp [p] H1 H2) (a : Kp S H0 H1) (hp : H0 p = none) : Kp S H0 H2 := a.tr b fun x hx => by
  rw [List.mem_singleton] at hx
  subst hx
  exact .inr hp
theorem Kp.base (mu : ∀ b, b ∈ S → Mut (H b)) : Kp S H H := ⟨fun _ _ _ h => h, mu⟩
theorem Kp.fresh (k : Kp S H0 H1) (h : H1 p = none) (hs : ∀ b, b ∈ S → ∃ o, H1 b = some o) : ∀ x, x ∈ [p] → x ∈ S ∨ H0 x = none := fun x hx => by
  rw [List.mem_singleton] at hx
  subst hx
  exact .inr (k.free h hs)
theorem ne_newL (hp : H p = none) (h : H a = some o) : a ≠ p := ne_of_none h hp
theorem ne_newR (hp : H p = none) (h : H a = some o) : p ≠ a := (ne_of_none h hp).symm
theorem SqT.ty (h : SqT K H a xs) : TyX K H (.ref a) (.type "tuple") := by
  rcases h with (h | ⟨u, h⟩) | ⟨o, its, n, h1, h2, _⟩
  · exact .base (.tup h)
  · exact .fTuple h
  · exact .kTuple h1 h2
end

/-! ### step rules: from the head of a reading -/
/-- one step of a reading, many -/
class Stp (g : Prop) (n : outParam Prop) : Prop where
  imp : n → g
class Stps (g : Prop) (n : outParam Prop) : Prop where
  imp : n → g
instance (priority := low) stps_nil {g : Prop} : Stps g g := ⟨id⟩
instance stps_cons {g m n : Prop} [a : Stp g m] [b : Stps m n] : Stps g n := ⟨fun h => a.imp (b.imp h)⟩
/-- one step at least -/
theorem go1 {g m n : Prop} (a : Stp g m) (b : Stps m n) (h : n) : g := a.imp (b.imp h)
class Look (σ : St) (n : Nat) (v : outParam V) : Prop where
  e : σ[n]? = some (some v)
instance look0 {v : V} {σ : St} : Look (some v :: σ) 0 v := ⟨rfl⟩
instance lookS {v : V} {x : Option V} {σ : St} {n : Nat} [a : Look σ n v] : Look (x :: σ) (n + 1) v := ⟨by rw [List.getElem?_cons_succ]; exact a.e⟩
class SetS (σ : St) (n : Nat) (v : V) (σ' : outParam St) : Prop where
  e : σ.set n (some v) = σ'
instance set0 {v : V} {x : Option V} {σ : St} : SetS (x :: σ) 0 v (some v :: σ) := ⟨rfl⟩
instance setS {v : V} {x : Option V} {σ σ' : St} {n : Nat} [a : SetS σ n v σ'] : SetS (x :: σ) (n + 1) v (x :: σ') := ⟨by rw [List.set_cons_succ, a.e]⟩
def mkT (xs : List V) (H : Hp) (Q : VK) : Prop := xs.length ≤ sizeLine ∧ ∀ p, H p = none → Q (.ref p) (upd H p (.tup xs))
def mkL (xs : List V) (H : Hp) (Q : VK) : Prop := xs.length ≤ sizeLine ∧ ∀ p, H p = none → Q (.ref p) (upd H p (.lst xs))
def asB (x : V) (R : Bool → Prop) : Prop := ∃ k, x = .bl k ∧ R k
/-- two ways by a test -/
def iteP (b : Bool) (A B : Prop) : Prop := if b = true then A else B
theorem iteP_of {b : Bool} {A B : Prop} (h : iteP b A B) : if b = true then A else B := h
section
variable {σ σ' : St} {H : Hp} {Q : VK} {ta tb tc te : TE} {v : V} {i j : Int} {n : Nat} {K : PySem.W.Frag} {E : XK} {C : Int → Int → Prop} {gi : Int → Int → V} {nx bk ct : St → Hp → Prop} {rt : VK}
instance s_seq {t u : TS} : Stp (tSeq t u ⟨nx, rt, bk, ct⟩ σ H) (t ⟨u ⟨nx, rt, bk, ct⟩, rt, bk, ct⟩ σ H) := ⟨id⟩
instance s_next : Stp (tNext ⟨nx, rt, bk, ct⟩ σ H) (nx σ H) := ⟨id⟩
instance s_set : Stp (tAsg te (gName n) ⟨nx, rt, bk, ct⟩ σ H) (te σ H fun x H1 => gName n x σ H1 nx) := ⟨id⟩
instance s_asg {g : TG} : Stp (tAsg te g ⟨nx, rt, bk, ct⟩ σ H) (te σ H fun x H1 => g x σ H1 nx) := ⟨id⟩
instance s_gN {R : St → Hp → Prop} [a : SetS σ n v σ'] : Stp (gName n v σ H R) (R σ' H) := ⟨fun h => by show R (σ.set n (some v)) H; rw [a.e]; exact h⟩
instance s_drop : Stp (tDrop te ⟨nx, rt, bk, ct⟩ σ H) (te σ H fun _ H1 => nx σ H1) := ⟨id⟩
instance s_ret : Stp (tRet te ⟨nx, rt, bk, ct⟩ σ H) (te σ H rt) := ⟨id⟩
instance s_retN : Stp (tRetN ⟨nx, rt, bk, ct⟩ σ H) (rt .non H) := ⟨id⟩
instance s_break : Stp (tBreak ⟨nx, rt, bk, ct⟩ σ H) (bk σ H) := ⟨id⟩
instance s_cont : Stp (tCont ⟨nx, rt, bk, ct⟩ σ H) (ct σ H) := ⟨id⟩
instance s_ifS {c : TT} {t u : TS} {D : Ends} : Stp (tIfS c t u D σ H) (c σ H fun b H1 => iteP b (t D σ H1) (u D σ H1)) := ⟨id⟩
instance s_var [a : Look σ n v] : Stp (tVar n σ H Q) (Q v H) := ⟨fun h => ⟨v, a.e, h⟩⟩
instance s_c : Stp (tC v σ H Q) (Q v H) := ⟨id⟩
instance s_op {r : R2} : Stp (tOp r ta tb σ H Q) (ta σ H fun x H1 => tb σ H1 fun y H2 => r x y H2 Q) := ⟨id⟩
instance s_un {r : V → Hp → VK → Prop} : Stp (tUn r ta σ H Q) (ta σ H fun x H1 => r x H1 Q) := ⟨id⟩
instance s_rU {g : Int → V} : Stp (rU g (.int i) H Q) (Q (g i) H) := ⟨fun h => ⟨i, rfl, h⟩⟩
instance s_rI0 : Stp (rI0 gi (.int i) (.int j) H Q) (Q (gi i j) H) := ⟨fun h => ⟨i, j, rfl, rfl, h⟩⟩
theorem r_rI (hc : C i j) (h : Q (gi i j) H) : rI C gi (.int i) (.int j) H Q := ⟨i, j, rfl, rfl, hc, h⟩
instance s_pow6 : Stp (rI CPow (fun i j => V.int (i ^ j.toNat)) (.int 10) (.int 6) H Q) (Q (.int 1000000) H) := ⟨fun h => ⟨10, 6, rfl, rfl, ⟨by decide, by decide, by decide⟩, h⟩⟩
instance s_pow7 : Stp (rI CPow (fun i j => V.int (i ^ j.toNat)) (.int 10) (.int 7) H Q) (Q (.int 10000000) H) := ⟨fun h => ⟨10, 7, rfl, rfl, ⟨by decide, by decide, by decide⟩, h⟩⟩
instance s_pow8 : Stp (rI CPow (fun i j => V.int (i ^ j.toNat)) (.int 10) (.int 8) H Q) (Q (.int 100000000) H) := ⟨fun h => ⟨10, 8, rfl, rfl, ⟨by decide, by decide, by decide⟩, h⟩⟩
instance s_pow9 : Stp (rI CPow (fun i j => V.int (i ^ j.toNat)) (.int 10) (.int 9) H Q) (Q (.int 1000000000) H) := ⟨fun h => ⟨10, 9, rfl, rfl, ⟨by decide, by decide, by decide⟩, h⟩⟩
instance s_pow10 : Stp (rI CPow (fun i j => V.int (i ^ j.toNat)) (.int 10) (.int 10) H Q) (Q (.int 10000000000) H) := ⟨fun h => ⟨10, 10, rfl, rfl, ⟨by decide, by decide, by decide⟩, h⟩⟩
instance s_pow12 : Stp (rI CPow (fun i j => V.int (i ^ j.toNat)) (.int 10) (.int 12) H Q) (Q (.int 1000000000000) H) := ⟨fun h => ⟨10, 12, rfl, rfl, ⟨by decide, by decide, by decide⟩, h⟩⟩
instance s_pow21 : Stp (rI CPow (fun i j => V.int (i ^ j.toNat)) (.int 10) (.int 21) H Q) (Q (.int 1000000000000000000000) H) := ⟨fun h => ⟨10, 21, rfl, rfl, ⟨by decide, by decide, by decide⟩, h⟩⟩
instance s_pow30 : Stp (rI CPow (fun i j => V.int (i ^ j.toNat)) (.int 10) (.int 30) H Q) (Q (.int 1000000000000000000000000000000) H) := ⟨fun h => ⟨10, 30, rfl, rfl, ⟨by decide, by decide, by decide⟩, h⟩⟩
instance s_pow40 : Stp (rI CPow (fun i j => V.int (i ^ j.toNat)) (.int 10) (.int 40) H Q) (Q (.int 10000000000000000000000000000000000000000) H) := ⟨fun h => ⟨10, 40, rfl, rfl, ⟨by decide, by decide, by decide⟩, h⟩⟩
instance s_pow60 : Stp (rI CPow (fun i j => V.int (i ^ j.toNat)) (.int 10) (.int 60) H Q) (Q (.int 1000000000000000000000000000000000000000000000000000000000000) H) := ⟨fun h => ⟨10, 60, rfl, rfl, ⟨by decide, by decide, by decide⟩, h⟩⟩
instance s_eqI : Stp (rEq (.int i) (.int j) H Q) (Q (.bl (decide (i = j))) H) := ⟨fun h => ⟨rfl, by
  have e : decide (V.int i = V.int j) = decide (i = j) := by simp
  rw [e]
  exact h⟩⟩
instance s_neI : Stp (rNe (.int i) (.int j) H Q) (Q (.bl (decide (i ≠ j))) H) := ⟨fun h => ⟨rfl, by
  have e : (!decide (V.int i = V.int j)) = decide (i ≠ j) := by simp
  rw [e]
  exact h⟩⟩
instance s_eqS {a b : Str} : Stp (rEq (.str a) (.str b) H Q) (Q (.bl (decide (a = b))) H) := ⟨fun h => ⟨rfl, by
  have e : decide (V.str a = V.str b) = decide (a = b) := by simp
  rw [e]
  exact h⟩⟩
instance s_neS {a b : Str} : Stp (rNe (.str a) (.str b) H Q) (Q (.bl (decide (a ≠ b))) H) := ⟨fun h => ⟨rfl, by
  have e : (!decide (V.str a = V.str b)) = decide (a ≠ b) := by simp
  rw [e]
  exact h⟩⟩
instance s_eqB {a b : Bool} : Stp (rEq (.bl a) (.bl b) H Q) (Q (.bl (decide (a = b))) H) := ⟨fun h => ⟨rfl, by
  have e : decide (V.bl a = V.bl b) = decide (a = b) := by simp
  rw [e]
  exact h⟩⟩
instance s_neB {a b : Bool} : Stp (rNe (.bl a) (.bl b) H Q) (Q (.bl (decide (a ≠ b))) H) := ⟨fun h => ⟨rfl, by
  have e : (!decide (V.bl a = V.bl b)) = decide (a ≠ b) := by simp
  rw [e]
  exact h⟩⟩
instance s_test {R : Bool → Hp → Prop} : Stp (tTest te σ H R) (te σ H fun x H1 => asB x fun k => R k H1) := ⟨id⟩
instance s_B {R : Bool → Hp → Prop} : Stp (tB te σ H R) (te σ H fun x H1 => asB x fun k => R k H1) := ⟨id⟩
instance s_asB {b : Bool} {R : Bool → Prop} : Stp (asB (.bl b) R) (R b) := ⟨fun h => ⟨b, rfl, h⟩⟩
instance s_and {t u : TT} {R : Bool → Hp → Prop} : Stp (tAnd t u σ H R) (t σ H fun c H1 => iteP c (u σ H1 R) (R false H1)) := ⟨id⟩
instance s_or {t u : TT} {R : Bool → Hp → Prop} : Stp (tOr t u σ H R) (t σ H fun c H1 => iteP c (R true H1) (u σ H1 R)) := ⟨id⟩
instance s_not {t : TT} {R : Bool → Hp → Prop} : Stp (tNot t σ H R) (t σ H fun c H1 => R (!c) H1) := ⟨id⟩
instance s_andV : Stp (tAndV ta tb σ H Q) (ta σ H fun x H1 => asB x fun c => iteP c (tb σ H1 Q) (Q (.bl false) H1)) := ⟨id⟩
instance s_orV : Stp (tOrV ta tb σ H Q) (ta σ H fun x H1 => asB x fun c => iteP c (Q (.bl true) H1) (tb σ H1 Q)) := ⟨id⟩
instance s_notV : Stp (tNotV ta σ H Q) (ta σ H fun x H1 => asB x fun c => Q (.bl (!c)) H1) := ⟨id⟩
instance s_if {t : TT} : Stp (tIf t ta tb σ H Q) (t σ H fun c H1 => iteP c (ta σ H1 Q) (tb σ H1 Q)) := ⟨id⟩
instance s_chain {r r' : R2} : Stp (tChain r r' ta tb tc σ H Q) (ta σ H fun x H1 => tb σ H1 fun y H2 => r x y H2 fun z H3 => asB z fun k => iteP k (tc σ H3 fun w' H4 => r' y w' H4 Q) (Q (.bl false) H3)) := ⟨id⟩
instance s_nil {R : List V → Hp → Prop} : Stp (tNil σ H R) (R [] H) := ⟨id⟩
instance s_cons {tr : TA} {R : List V → Hp → Prop} : Stp (tCons ta tr σ H R) (ta σ H fun x H1 => tr σ H1 fun xs H2 => R (x :: xs) H2) := ⟨id⟩
instance s_tTup {t : TA} : Stp (tTup t σ H Q) (t σ H fun xs H1 => mkT xs H1 Q) := ⟨id⟩
instance s_tLst {t : TA} : Stp (tLst t σ H Q) (t σ H fun xs H1 => mkL xs H1 Q) := ⟨id⟩
instance s_cB {t : TA} {r : List V → Hp → VK → Prop} : Stp (tCB r t σ H Q) (t σ H fun vs H1 => r vs H1 Q) := ⟨id⟩
instance s_cl {sp : Sp} {t : TA} : Stp (tCl sp E t σ H Q) (t σ H fun vs H1 => sp vs H1 Q E) := ⟨id⟩
instance s_aug {ti : TIp} [a : Look σ n v] : Stp (tAug n te ti ⟨nx, rt, bk, ct⟩ σ H) (te σ H fun y H1 => ti v y H1 fun z H2 => gName n z σ H2 nx) := ⟨fun h => ⟨v, a.e, h⟩⟩
instance s_ipI {f : Int → Int → Int} : Stp (ipI f (.int i) (.int j) H Q) (Q (.int (f i j)) H) := ⟨fun h => ⟨i, j, rfl, rfl, h⟩⟩
instance s_iteT {A B : Prop} : Stp (iteP true A B) A := ⟨fun h => iteT h⟩
instance s_iteF {A B : Prop} : Stp (iteP false A B) B := ⟨fun h => iteF h⟩
instance s_iteNT {A B : Prop} : Stp (iteP (!true) A B) B := ⟨fun h => iteF h⟩
instance s_iteNF {A B : Prop} : Stp (iteP (!false) A B) A := ⟨fun h => iteT h⟩
theorem r_mkT {xs : List V} (hl : xs.length ≤ sizeLine) (h : ∀ p H2, H p = none → SqT K H2 p xs → Kp [] H H2 → Q (.ref p) H2) : mkT xs H Q :=
  ⟨hl, fun p hp => h p _ hp (SqT.of upd_same) (Kp.new hp)⟩
theorem r_mkL {xs : List V} (hl : xs.length ≤ sizeLine) (h : ∀ p H2, H p = none → H2 p = some (.lst xs) → Kp [] H H2 → Q (.ref p) H2) : mkL xs H Q :=
  ⟨hl, fun p hp => h p _ hp upd_same (Kp.new hp)⟩
theorem r_ixT {p : Addr} {xs : List V} (h : SqT K H p xs) (e : atI xs i = some v) (q : Q v H) : rIxT K (.ref p) (.int i) H Q := ⟨p, xs, i, v, rfl, rfl, h, e, q⟩
theorem r_ixL {p : Addr} {xs : List V} (h : H p = some (.lst xs)) (e : atI xs i = some v) (q : Q v H) : rIxL K (.ref p) (.int i) H Q := ⟨p, xs, i, v, rfl, rfl, SqL.of h, e, q⟩
theorem r_gTup {t : TGs} {m : Nat} {p : Addr} {xs : List V} {R : St → Hp → Prop} (h : SqT K H p xs) (e : xs.length = m) (q : t xs σ H R) : gTup K m t (.ref p) σ H R := ⟨p, xs, rfl, h, e, q⟩
instance s_gCons {t : TG} {u : TGs} {r : List V} {R : St → Hp → Prop} : Stp (gCons t u (v :: r) σ H R) (t v σ H fun σ' H' => u r σ' H' R) := ⟨fun h => ⟨v, r, rfl, h⟩⟩
instance s_gNil {R : St → Hp → Prop} : Stp (gNil [] σ H R) (R σ H) := ⟨fun h => ⟨rfl, h⟩⟩
instance s_gSub {s : TSet} {R : St → Hp → Prop} : Stp (gSub ta tb s v σ H R) (ta σ H fun o H1 => tb σ H1 fun i H2 => s o i v H2 fun H3 => R σ H3) := ⟨id⟩
theorem r_setL {p : Addr} {xs : List V} {m : Nat} {R : Hp → Prop} (h : H p = some (.lst xs)) (e : ixN xs.length i = some m) (q : ∀ H2, H2 p = some (.lst (xs.set m v)) → Kp [p] H H2 → R H2) : rSetL (.ref p) (.int i) v H R :=
  ⟨p, xs, i, m, rfl, rfl, h, e, q _ upd_same (Kp.put h trivial)⟩
theorem if_T {A B : Prop} {c : Prop} [Decidable c] (hc : c) (h : A) : iteP (decide c) A B := by
  unfold iteP
  rw [if_pos (decide_eq_true hc)]
  exact h
theorem if_F {A B : Prop} {c : Prop} [Decidable c] (hc : ¬ c) (h : B) : iteP (decide c) A B := by
  unfold iteP
  rw [if_neg (by rw [decide_eq_false hc]; decide)]
  exact h
theorem if_S {A B : Prop} {c : Prop} [Decidable c] (h : c → A) (h' : ¬ c → B) : iteP (decide c) A B := by
  by_cases hc : c
  · exact if_T hc (h hc)
  · exact if_F hc (h' hc)
theorem if_NT {A B : Prop} {c : Prop} [Decidable c] (hc : ¬ c) (h : A) : iteP (!decide c) A B := by
  rw [decide_eq_false hc]
  exact iteT h
theorem if_NF {A B : Prop} {c : Prop} [Decidable c] (hc : c) (h : B) : iteP (!decide c) A B := by
  rw [decide_eq_true hc]
  exact iteF h
theorem if_NS {A B : Prop} {c : Prop} [Decidable c] (h : ¬ c → A) (h' : c → B) : iteP (!decide c) A B := by
  by_cases hc : c
  · exact if_NF hc (h' hc)
  · exact if_NT hc (h hc)
theorem if_B {A B : Prop} {b : Bool} (h : b = true → A) (h' : b = false → B) : iteP b A B := by
  cases b
  · exact iteF (h' rfl)
  · exact iteT (h rfl)
end

/-! ### built-in calls by named rules -/
section
variable {X : Cx} {f : Value} {r r' : List V → Hp → VK → Prop}
theorem callR_imp (h : CallR X f r) (i : ∀ xs H Q, r' xs H Q → r xs H Q) : CallR X f r' := fun pins s σ H xs us Q I rx q => h pins s σ H xs us Q I rx (i _ _ _ q)
def rInt : List V → Hp → VK → Prop := fun xs H Q => (∃ i, xs = [.int i] ∧ Q (.int i) H) ∨ ∃ k, xs = [.bl k] ∧ Q (.int (if k then 1 else 0)) H
theorem cg_int : CallR X (.type "int") rInt := call_int1
def rLen (K : PySem.W.Frag) : List V → Hp → VK → Prop := fun xs H Q => ∃ p ys, xs = [.ref p] ∧ (SqL K H p ys ∨ SqT K H p ys) ∧ Q (.int ys.length) H
theorem cg_len : CallR X (.builtin "len") (rLen X.K) := call_len_seq
def rListOf (K : PySem.W.Frag) : List V → Hp → VK → Prop := fun xs H Q => ∃ p ys, xs = [.ref p] ∧ (SqL K H p ys ∨ SqT K H p ys) ∧ ∀ l, H l = none → Q (.ref l) (upd H l (.lst ys))
theorem cg_list : CallR X (.type "list") (rListOf X.K) := call_list_of
def rTupOf (K : PySem.W.Frag) : List V → Hp → VK → Prop := fun xs H Q => ∃ p ys, xs = [.ref p] ∧ ((SqL K H p ys ∧ ∀ l, H l = none → Q (.ref l) (upd H l (.tup ys))) ∨ (SqT K H p ys ∧ Q (.ref p) H))
theorem cg_tuple : CallR X (.type "tuple") (rTupOf X.K) := call_tuple_of
def rAbs : List V → Hp → VK → Prop := fun xs H Q => ∃ i, xs = [.int i] ∧ Q (.int (if i < 0 then -i else i)) H
theorem cg_abs : CallR X (.builtin "abs") rAbs := call_abs
end
section
variable {H : Hp} {Q : VK} {K : PySem.W.Frag} {i : Int} {p : Addr} {xs : List V}
instance s_int : Stp (rInt [.int i] H Q) (Q (.int i) H) := ⟨fun q => .inl ⟨i, rfl, q⟩⟩
instance s_intB {b : Bool} : Stp (rInt [.bl b] H Q) (Q (.int (if b then 1 else 0)) H) := ⟨fun q => .inr ⟨b, rfl, q⟩⟩
theorem r_lenT (h : SqT K H p xs) (q : Q (.int xs.length) H) : rLen K [.ref p] H Q := ⟨p, xs, rfl, .inr h, q⟩
theorem r_lenL (h : H p = some (.lst xs)) (q : Q (.int xs.length) H) : rLen K [.ref p] H Q := ⟨p, xs, rfl, .inl (SqL.of h), q⟩
theorem r_listL (h : SqL K H p xs) (q : ∀ l H2, H l = none → H2 l = some (.lst xs) → Kp [] H H2 → Q (.ref l) H2) : rListOf K [.ref p] H Q := ⟨p, xs, rfl, .inl h, fun l hl => q l _ hl upd_same (Kp.new hl)⟩
theorem r_tupleL (h : H p = some (.lst xs)) (q : ∀ l H2, H l = none → SqT K H2 l xs → Kp [] H H2 → Q (.ref l) H2) : rTupOf K [.ref p] H Q := ⟨p, xs, rfl, .inl ⟨SqL.of h, fun l hl => q l _ hl (SqT.of upd_same) (Kp.new hl)⟩⟩
instance s_abs : Stp (rAbs [.int i] H Q) (Q (.int (if i < 0 then -i else i)) H) := ⟨fun q => ⟨i, rfl, q⟩⟩
theorem r_isi {v c : V} {t u : Value} {b : Bool} (hc : ClsV c u) (ht : TyX K H v t) (hk : PySem.W.kitOne K t u = some b) (q : Q (.bl b) H) : rIsi K [v, c] H Q := ⟨v, c, t, u, b, rfl, hc, ht, hk, q⟩
theorem r_inL {neg : Bool} {x : V} {b : Bool} (h : H p = some (.lst xs)) (fx : flatV x = true) (fs : xs.all flatV = true) (e : (if neg then !inV x xs else inV x xs) = b) (q : Q (.bl b) H) : rIn K neg x (.ref p) H Q := ⟨p, xs, rfl, .inl (SqL.of h), fx, fs, by rw [e]; exact q⟩
theorem r_inT {neg : Bool} {x : V} {b : Bool} (h : SqT K H p xs) (fx : flatV x = true) (fs : xs.all flatV = true) (e : (if neg then !inV x xs else inV x xs) = b) (q : Q (.bl b) H) : rIn K neg x (.ref p) H Q := ⟨p, xs, rfl, .inr h, fx, fs, by rw [e]; exact q⟩
end
/-! ### data that never changes -/
mutual
inductive Im (K : PySem.W.Frag) (H : Hp) : V → PyData → Prop
  | non : Im K H .non .none
  | bl (b : Bool) : Im K H (.bl b) (.bool b)
  | int (i : Int) : Im K H (.int i) (.int i)
  | str (x : Str) : Im K H (.str x) (.str x)
  | tup {a : Addr} {xs : List V} {ds : List PyData} : SqT K H a xs → ImAll K H xs ds → Im K H (.ref a) (.tuple ds)
inductive ImAll (K : PySem.W.Frag) (H : Hp) : List V → List PyData → Prop
  | nil : ImAll K H [] []
  | cons {v : V} {vs : List V} {d : PyData} {ds : List PyData} : Im K H v d → ImAll K H vs ds → ImAll K H (v :: vs) (d :: ds)
end
section
variable {K : PySem.W.Frag} {H H' : Hp} {S : List Addr} {p : Addr} {xs : List V} {ds : List PyData} {x : V} {d : PyData}
mutual
theorem Kp.im (k : Kp S H H') : ∀ {x : V} {d : PyData}, Im K H x d → Im K H' x d
  | _, _, .non => .non
  | _, _, .bl b => .bl b
  | _, _, .int i => .int i
  | _, _, .str z => .str z
  | _, _, .tup h a => .tup (k.tup h) (Kp.imAll k a)
theorem Kp.imAll (k : Kp S H H') : ∀ {xs : List V} {ds : List PyData}, ImAll K H xs ds → ImAll K H' xs ds
  | _, _, .nil => .nil
  | _, _, .cons h a => .cons (Kp.im k h) (Kp.imAll k a)
end
mutual
theorem Im.dp : ∀ {x : V} {d : PyData}, Im K H x d → Dp K H x d
  | _, _, .non => .non
  | _, _, .bl b => .bl b
  | _, _, .int i => .int i
  | _, _, .str z => .str z
  | _, _, .tup h a => .tup h (ImAll.dp a)
theorem ImAll.dp : ∀ {xs : List V} {ds : List PyData}, ImAll K H xs ds → DpAll K H xs ds
  | _, _, .nil => .nil
  | _, _, .cons h a => .cons h.dp (ImAll.dp a)
end
theorem ImAll.length : ∀ {xs : List V} {ds : List PyData}, ImAll K H xs ds → xs.length = ds.length
  | _, _, .nil => rfl
  | _, _, .cons _ a => by rw [List.length_cons, List.length_cons, ImAll.length a]
theorem ImAll.get : ∀ {xs : List V} {ds : List PyData} {i : Nat} {x : V}, ImAll K H xs ds → xs[i]? = some x → ∃ d, ds[i]? = some d ∧ Im K H x d
  | _, _, _, _, .nil, e => by simp at e
  | _, _, 0, _, .cons h _, e => by simp at e; subst e; exact ⟨_, rfl, h⟩
  | _, _, i + 1, _, .cons _ a, e => by
    obtain ⟨d, h1, h2⟩ := ImAll.get (i := i) a (by simpa using e)
    exact ⟨d, by simpa using h1, h2⟩
theorem ImAll.at : ∀ {xs : List V} {ds : List PyData} {i : Nat} {d : PyData}, ImAll K H xs ds → ds[i]? = some d → ∃ x, xs[i]? = some x ∧ Im K H x d
  | _, _, _, _, .nil, e => by simp at e
  | _, _, 0, _, .cons h _, e => by simp at e; subst e; exact ⟨_, rfl, h⟩
  | _, _, i + 1, _, .cons _ a, e => by
    obtain ⟨x, h1, h2⟩ := ImAll.at (i := i) a (by simpa using e)
    exact ⟨x, by simpa using h1, h2⟩
theorem ImAll.snoc : ∀ {xs : List V} {ds : List PyData} {x : V} {d : PyData}, ImAll K H xs ds → Im K H x d → ImAll K H (xs ++ [x]) (ds ++ [d])
  | _, _, _, _, .nil, h => .cons h .nil
  | _, _, _, _, .cons h a, h' => .cons h (ImAll.snoc a h')
/-- the data of a flat value, back -/
def flatD : PyData → Option V
  | .none => some .non
  | .bool b => some (.bl b)
  | .int i => some (.int i)
  | .str x => some (.str x)
  | _ => Option.none
def flatDs : List PyData → Option (List V)
  | [] => some []
  | d :: ds => match flatD d, flatDs ds with
    | some x, some xs => some (x :: xs)
    | _, _ => Option.none
theorem Im.flat (h : Im K H x d) {y : V} (e : flatD d = some y) : x = y := by
  cases h with
  | tup _ _ => cases e
  | _ => exact Option.some.inj e
theorem ImAll.flat : ∀ {xs : List V} {ds : List PyData} {ys : List V}, ImAll K H xs ds → flatDs ds = some ys → xs = ys
  | _, _, _, .nil, e => Option.some.inj e
  | _, d :: ds, ys, .cons (v := v) h a, e => by
    unfold flatDs at e
    split at e
    · rename_i y zs h1 h2
      rw [h.flat h1, ImAll.flat a h2]
      exact Option.some.inj e
    · cases e
theorem Im.open (h : Im K H (.ref p) (.tuple ds)) : ∃ xs, SqT K H p xs ∧ ImAll K H xs ds := by
  cases h with
  | tup h a => exact ⟨_, h, a⟩
theorem Im.sq (h : Im K H (.ref p) (.tuple ds)) {ys : List V} (e : flatDs ds = some ys) : SqT K H p ys := by
  obtain ⟨xs, h1, h2⟩ := h.open
  rw [← h2.flat e]
  exact h1
theorem Im.isRef (h : Im K H x (.tuple ds)) : ∃ p, x = .ref p := by
  cases h with
  | tup h a => exact ⟨_, rfl⟩
theorem flatDs_ints : ∀ ns : List Int, flatDs (ns.map PyData.int) = some (ns.map V.int)
  | [] => rfl
  | n :: ns => by
    show (match flatD (.int n), flatDs (ns.map PyData.int) with | some x, some xs => some (x :: xs) | _, _ => Option.none) = _
    rw [flatDs_ints ns]
    rfl
theorem Im.ints {ns : List Int} (h : SqT K H p (ns.map V.int)) : Im K H (.ref p) (.tuple (ns.map .int)) := by
  refine .tup h ?_
  clear h
  induction ns with
  | nil => exact .nil
  | cons n ns ih => exact .cons (.int n) ih
end
/-! ### loops -/
def forS (J : It) (g : TG) (tb : TS) (D : Ends) (σ : St) (H : Hp) : Prop := ∃ W : Nat → Nat → St → Hp → Prop, (∃ m, W 0 m σ H) ∧ ∀ i m σ H, W i m σ H →
  (J.stop i H ∧ D.nx σ H) ∨ (J.go i H ∧ ∃ N : St → Hp → Prop, (∀ σ' H', N σ' H' → ∃ m', m' < m ∧ W (i + 1) m' σ' H') ∧ ∀ x H', J.yld i H x H' → g x σ H' fun σ2 H2 => tb { D with nx := N, ct := N, bk := D.nx } σ2 H2)
def isL (K : PySem.W.Frag) (x : V) (H : Hp) (R : It → Hp → Prop) : Prop := ∃ a, x = .ref a ∧ (∃ xs, SqL K H a xs) ∧ R (Itl K a) H
def isT (K : PySem.W.Frag) (x : V) (H : Hp) (R : It → Hp → Prop) : Prop := ∃ a, x = .ref a ∧ (∃ xs, SqT K H a xs) ∧ R (Itt K a) H
def isR1 (vs : List V) (H : Hp) (R : It → Hp → Prop) : Prop := ∃ j : Int, vs = [.int j] ∧ -(2 ^ 62) ≤ j ∧ j < 2 ^ 62 ∧ R (Itr 0 j.toNat) H
section
variable {σ : St} {H : Hp} {K : PySem.W.Frag} {p : Addr} {xs : List V} {g : TG} {tb : TS} {nx bk ct : St → Hp → Prop} {rt : VK} {D : Ends} {wi : TI} {tl : TE} {ta : TA} {R : It → Hp → Prop} {lo : Int} {n : Nat}
instance s_for : Stp (tFor wi g tb D σ H) (wi σ H fun J H1 => forS J g tb D σ H1) := ⟨id⟩
instance s_iL : Stp (iList K tl σ H R) (tl σ H fun x H1 => isL K x H1 R) := ⟨id⟩
instance s_iT : Stp (iTup K tl σ H R) (tl σ H fun x H1 => isT K x H1 R) := ⟨id⟩
instance s_iR1 : Stp (iRng1 ta σ H R) (ta σ H fun vs H1 => isR1 vs H1 R) := ⟨id⟩
theorem r_isL (h : H p = some (.lst xs)) (q : R (Itl K p) H) : isL K (.ref p) H R := ⟨p, rfl, ⟨xs, SqL.of h⟩, q⟩
theorem r_isT (h : SqT K H p xs) (q : R (Itt K p) H) : isT K (.ref p) H R := ⟨p, rfl, ⟨xs, h⟩, q⟩
theorem r_isR1 {j : Int} (h : -1000000000 ≤ j ∧ j ≤ 1000000000) (q : R (Itr 0 j.toNat) H) : isR1 [.int j] H R := ⟨j, rfl, by omega, by omega, q⟩
/-- a for over a list that stands at p all along -/
theorem r_forL (xs : List V) (Pv : Nat → St → Hp → Prop) (h0 : Pv 0 σ H) (hG : ∀ i σ' H', Pv i σ' H' → H' p = some (.lst xs))
    (hs : ∀ i x σ' H', xs[i]? = some x → Pv i σ' H' → g x σ' H' fun σ2 H2 => tb ⟨Pv (i + 1), rt, nx, Pv (i + 1)⟩ σ2 H2) (hd : ∀ σ' H', Pv xs.length σ' H' → nx σ' H') : forS (Itl K p) g tb ⟨nx, rt, bk, ct⟩ σ H :=
  for_it (walk_list (K := K) (a := p) (xs := xs)) Pv h0 (fun i σ' H' _ h => SqL.of (hG i σ' H' h)) (fun i x σ' H1 H2 _ h y => by obtain ⟨rfl, y⟩ := y; exact hs i x σ' _ y h) hd
theorem r_forLI (ns : List Int) (Pv : Nat → St → Hp → Prop) (h0 : Pv 0 σ H) (hG : ∀ i σ' H', Pv i σ' H' → H' p = some (.lst (ns.map V.int)))
    (hs : ∀ i (y : Int) σ' H', ns[i]? = some y → Pv i σ' H' → g (.int y) σ' H' fun σ2 H2 => tb ⟨Pv (i + 1), rt, nx, Pv (i + 1)⟩ σ2 H2) (hd : ∀ σ' H', Pv ns.length σ' H' → nx σ' H') : forS (Itl K p) g tb ⟨nx, rt, bk, ct⟩ σ H := by
  refine r_forL (ns.map V.int) Pv h0 hG (fun i x σ' H' e h => ?_) (by rw [List.length_map]; exact hd)
  rw [List.getElem?_map] at e
  cases q : ns[i]? with
  | none =>
    rw [q] at e
    cases e
  | some y =>
    rw [q] at e
    cases e
    exact hs i y σ' H' q h
theorem r_forT (xs : List V) (Pv : Nat → St → Hp → Prop) (h0 : Pv 0 σ H) (hG : ∀ i σ' H', Pv i σ' H' → SqT K H' p xs)
    (hs : ∀ i x σ' H', xs[i]? = some x → Pv i σ' H' → g x σ' H' fun σ2 H2 => tb ⟨Pv (i + 1), rt, nx, Pv (i + 1)⟩ σ2 H2) (hd : ∀ σ' H', Pv xs.length σ' H' → nx σ' H') : forS (Itt K p) g tb ⟨nx, rt, bk, ct⟩ σ H :=
  for_it (walk_tup (K := K) (a := p) (xs := xs)) Pv h0 (fun i σ' H' _ h => hG i σ' H' h) (fun i x σ' H1 H2 _ h y => by obtain ⟨rfl, y⟩ := y; exact hs i x σ' _ y h) hd
theorem r_forR (Pv : Nat → St → Hp → Prop) (h0 : Pv 0 σ H)
    (hs : ∀ i σ' H', i < n → Pv i σ' H' → g (.int (lo + (i : Int))) σ' H' fun σ2 H2 => tb ⟨Pv (i + 1), rt, nx, Pv (i + 1)⟩ σ2 H2) (hd : ∀ σ' H', Pv n σ' H' → nx σ' H') : forS (Itr lo n) g tb ⟨nx, rt, bk, ct⟩ σ H :=
  for_it walk_range Pv h0 (fun _ _ _ _ _ => trivial) (fun i x σ' H1 H2 hi h y => by obtain ⟨rfl, rfl⟩ := y; exact hs i σ' _ hi h) hd
theorem any_take {α : Type} {l : List α} {f : α → Bool} {i : Nat} {x : α} (h : l[i]? = some x) : (l.take (i + 1)).any f = ((l.take i).any f || f x) := by
  rw [List.take_add_one, h, List.any_append]
  simp
end
/-! ### comprehensions -/
def apS (D : Addr) (y : V) (H : Hp) (R : Hp → Prop) : Prop := ∃ acc, H D = some (.lst acc) ∧ acc.length < sizeLine ∧ R (upd H D (.lst (acc ++ [y])))
def wpS (σ2 σ : St) (vs : List Nat) (R : Prop) : Prop := wipe σ2 vs = wipe σ vs ∧ R
def lcS (J : It) (g : TG) (tt : TT) (te : TE) (vs : List Nat) (σ : St) (H1 : Hp) (Q : VK) : Prop := ∀ D, H1 D = none → ∃ W : Nat → Nat → Hp → Prop, (∃ m, W 0 m (upd H1 D (.lst []))) ∧ ∀ i m H, W i m H →
  (J.stop i H ∧ Q (.ref D) H) ∨ (J.go i H ∧ ∃ Nx : Hp → Prop, (∀ H', Nx H' → ∃ m', m' < m ∧ W (i + 1) m' H') ∧ ∀ x H', J.yld i H x H' → g x (wipe σ vs) H' fun σ2 H2 => wipe σ2 vs = wipe σ vs ∧ tt σ2 H2 fun b H3 =>
    if b = true then te σ2 H3 fun y H4 => ∃ acc, H4 D = some (.lst acc) ∧ acc.length < sizeLine ∧ Nx (upd H4 D (.lst (acc ++ [y]))) else Nx H3)
class SetN (σ : St) (n : Nat) (σ' : outParam St) : Prop where
  e : σ.set n none = σ'
instance setn0 {x : Option V} {σ : St} : SetN (x :: σ) 0 (none :: σ) := ⟨rfl⟩
instance setnS {x : Option V} {σ σ' : St} {n : Nat} [a : SetN σ n σ'] : SetN (x :: σ) (n + 1) (x :: σ') := ⟨by rw [List.set_cons_succ, a.e]⟩
class Wip (σ : St) (vs : List Nat) (σ' : outParam St) : Prop where
  e : wipe σ vs = σ'
instance wip0 {σ : St} : Wip σ [] σ := ⟨rfl⟩
instance wipS {σ σ1 σ2 : St} {v : Nat} {vs : List Nat} [a : Wip σ vs σ1] [b : SetN σ1 v σ2] : Wip σ (v :: vs) σ2 := ⟨by unfold wipe; rw [a.e, b.e]⟩
instance wipM0 {σ : St} : Wip σ (List.map (fun x : Str × Nat => x.2) []) σ := ⟨rfl⟩
instance wipMS {σ σ1 σ2 : St} {x : Str} {v : Nat} {own : List (Str × Nat)} [a : Wip σ (List.map (fun x : Str × Nat => x.2) own) σ1] [b : SetN σ1 v σ2] : Wip σ (List.map (fun x : Str × Nat => x.2) ((x, v) :: own)) σ2 := ⟨by rw [List.map_cons]; unfold wipe; rw [a.e, b.e]⟩
section
variable {σ σ0 : St} {H : Hp} {K : PySem.W.Frag} {p : Addr} {xs : List V} {g : TG} {wi : TI} {tt : TT} {te : TE} {vs : List Nat} {Q : VK} {J : It} {n : Nat} {lo : Int}
instance s_lc : Stp (tLc wi g tt te vs σ H Q) (wi σ H fun J H1 => lcS J g tt te vs σ H1 Q) := ⟨id⟩
instance s_yes {R : Bool → Hp → Prop} : Stp (tYes σ H R) (R true H) := ⟨id⟩
instance s_wp {R : Prop} {σ2 : St} [a : Wip σ2 vs σ0] [b : Wip σ vs σ0] : Stp (wpS σ2 σ vs R) R := ⟨fun h => ⟨by rw [a.e, b.e], h⟩⟩
theorem r_ap {D : Addr} {y : V} {R : Hp → Prop} {acc : List V} (h : H D = some (.lst acc)) (hl : acc.length < sizeLine) (q : ∀ H2, H2 D = some (.lst (acc ++ [y])) → Kp [D] H H2 → R H2) : apS D y H R :=
  ⟨acc, h, hl, q _ upd_same (Kp.put h trivial)⟩
theorem lc_by {G : Hp → Prop} {Y : Nat → Hp → V → Hp → Prop} (w : Walk J n G Y) [hw : Wip σ vs σ0] (Pv : Addr → Nat → Hp → Prop) (h0 : ∀ D H2, H D = none → H2 D = some (.lst []) → Kp [] H H2 → Pv D 0 H2) (hG : ∀ D i H', Pv D i H' → G H')
    (hs : ∀ D i x H' H'', i < n → Pv D i H' → Y i H' x H'' → g x σ0 H'' fun σ2 H2 => wpS σ2 σ vs (tt σ2 H2 fun b H3 => iteP b (te σ2 H3 fun y H4 => apS D y H4 (Pv D (i + 1))) (Pv D (i + 1) H3)))
    (hd : ∀ D H', Pv D n H' → Q (.ref D) H') : lcS J g tt te vs σ H Q := by
  intro D hD
  refine lc_it w (Pv D) (h0 D _ hD upd_same (Kp.new hD)) (fun i H' _ h => hG D i H' h) ?_ (hd D)
  intro i x H' H'' hi h y
  rw [hw.e]
  have q := hs D i x H' H'' hi h y
  unfold wpS at q
  rw [hw.e] at q
  exact q
theorem r_lcT (xs : List V) [hw : Wip σ vs σ0] (Pv : Addr → Nat → Hp → Prop) (h0 : ∀ D H2, H D = none → H2 D = some (.lst []) → Kp [] H H2 → Pv D 0 H2) (hG : ∀ D i H', Pv D i H' → SqT K H' p xs)
    (hs : ∀ D i x H', xs[i]? = some x → Pv D i H' → g x σ0 H' fun σ2 H2 => wpS σ2 σ vs (tt σ2 H2 fun b H3 => iteP b (te σ2 H3 fun y H4 => apS D y H4 (Pv D (i + 1))) (Pv D (i + 1) H3)))
    (hd : ∀ D H', Pv D xs.length H' → Q (.ref D) H') : lcS (Itt K p) g tt te vs σ H Q :=
  lc_by (walk_tup (K := K) (a := p) (xs := xs)) Pv h0 hG (fun D i x H1 H2 _ h y => by obtain ⟨rfl, y⟩ := y; exact hs D i x _ y h) hd
theorem r_lcL (xs : List V) [hw : Wip σ vs σ0] (Pv : Addr → Nat → Hp → Prop) (h0 : ∀ D H2, H D = none → H2 D = some (.lst []) → Kp [] H H2 → Pv D 0 H2) (hG : ∀ D i H', Pv D i H' → H' p = some (.lst xs))
    (hs : ∀ D i x H', xs[i]? = some x → Pv D i H' → g x σ0 H' fun σ2 H2 => wpS σ2 σ vs (tt σ2 H2 fun b H3 => iteP b (te σ2 H3 fun y H4 => apS D y H4 (Pv D (i + 1))) (Pv D (i + 1) H3)))
    (hd : ∀ D H', Pv D xs.length H' → Q (.ref D) H') : lcS (Itl K p) g tt te vs σ H Q :=
  lc_by (walk_list (K := K) (a := p) (xs := xs)) Pv h0 (fun D i H' h => SqL.of (hG D i H' h)) (fun D i x H1 H2 _ h y => by obtain ⟨rfl, y⟩ := y; exact hs D i x _ y h) hd
theorem r_lcR [hw : Wip σ vs σ0] (Pv : Addr → Nat → Hp → Prop) (h0 : ∀ D H2, H D = none → H2 D = some (.lst []) → Kp [] H H2 → Pv D 0 H2)
    (hs : ∀ D i H', i < n → Pv D i H' → g (.int (lo + (i : Int))) σ0 H' fun σ2 H2 => wpS σ2 σ vs (tt σ2 H2 fun b H3 => iteP b (te σ2 H3 fun y H4 => apS D y H4 (Pv D (i + 1))) (Pv D (i + 1) H3)))
    (hd : ∀ D H', Pv D n H' → Q (.ref D) H') : lcS (Itr lo n) g tt te vs σ H Q :=
  lc_by walk_range Pv h0 (fun _ _ _ _ => trivial) (fun D i x H1 H2 hi h y => by obtain ⟨rfl, rfl⟩ := y; exact hs D i _ hi h) hd
end
/-! ### rules with the written part by its name (within comprehensions) -/
section
variable {X : Cx} (K : PySem.W.Frag)
theorem ixT (h : X.K = K := by rfl) : IxR X (rIxT K) := h ▸ ix_tup
theorem ixL (h : X.K = K := by rfl) : IxR X (rIxL K) := h ▸ ix_list
theorem inS (h : X.K = K := by rfl) : OpR X (compareOp .In) (rIn K false) := h ▸ op_in_seq
theorem notInS (h : X.K = K := by rfl) : OpR X (compareOp .NotIn) (rIn K true) := h ▸ op_notIn_seq
theorem cgLen (h : X.K = K := by rfl) : CallR X (.builtin "len") (rLen K) := h ▸ cg_len
theorem cgList (h : X.K = K := by rfl) : CallR X (.type "list") (rListOf K) := h ▸ cg_list
theorem cgTuple (h : X.K = K := by rfl) : CallR X (.type "tuple") (rTupOf K) := h ▸ cg_tuple
theorem cgIsi (h : X.K = K := by rfl) : CallR X (.builtin "isinstance") (rIsi K) := h ▸ call_isi
theorem eqD {k : Nat} {A : Around} (r : Room k A) (h : X.K = K := by rfl) (ha : X.A = A := by rfl) : OpR X (compareOp .Eq) (rEqD K) := h ▸ op_eqD (by rw [ha]; exact r.units)
theorem neD {k : Nat} {A : Around} (r : Room k A) (h : X.K = K := by rfl) (ha : X.A = A := by rfl) : OpR X (compareOp .NotEq) (rNeD K) := h ▸ op_neD (by rw [ha]; exact r.units)
theorem slT (h : X.K = K := by rfl) : SlR X (rSlT K) := h ▸ sl_tup
end
/-! ### is None; any, all -/
def rIsNo : R2 := fun x y H Q => y = .non ∧ Q (.bl (decide (x = .non))) H
def rNotNo : R2 := fun x y H Q => y = .non ∧ Q (.bl (!decide (x = .non))) H
theorem cg_isN {X : Cx} : OpR X (compareOp .Is) rIsNo := op_isN
theorem cg_notN {X : Cx} : OpR X (compareOp .IsNot) rNotNo := op_notN
section
variable {H : Hp} {Q : VK} {p : Addr} {K : PySem.W.Frag} {bs : List Bool}
instance s_isN0 : Stp (rIsNo .non .non H Q) (Q (.bl true) H) := ⟨fun h => ⟨rfl, h⟩⟩
instance s_isN1 : Stp (rIsNo (.ref p) .non H Q) (Q (.bl false) H) := ⟨fun h => ⟨rfl, by rw [decide_eq_false (fun e => by cases e)]; exact h⟩⟩
instance s_notN0 : Stp (rNotNo .non .non H Q) (Q (.bl false) H) := ⟨fun h => ⟨rfl, h⟩⟩
instance s_notN1 : Stp (rNotNo (.ref p) .non H Q) (Q (.bl true) H) := ⟨fun h => ⟨rfl, by rw [decide_eq_false (fun e => by cases e)]; exact h⟩⟩
theorem r_any (h : H p = some (.lst (bs.map V.bl))) (q : Q (.bl (bs.any id)) H) : rAny K [.ref p] H Q := ⟨p, bs, rfl, SqL.of h, q⟩
theorem r_all (h : H p = some (.lst (bs.map V.bl))) (q : Q (.bl (bs.all id)) H) : rAll K [.ref p] H Q := ⟨p, bs, rfl, SqL.of h, q⟩
end
/-! ### list methods -/
instance s_bm {K : PySem.W.Frag} {T : String} {r : V → List V → Hp → VK → Prop} {to : TE} {t : TA} {σ : St} {H : Hp} {Q : VK} : Stp (tBM K T r to t σ H Q) (to σ H fun x H1 => tyV K T x H1 ∧ t σ H1 fun xs H2 => r x xs H2 Q) := ⟨id⟩
theorem r_tyL {K : PySem.W.Frag} {H : Hp} {l : Addr} {xs : List V} {R : Prop} (h : H l = some (.lst xs)) (q : R) : tyV K "list" (.ref l) H ∧ R := ⟨.inl ⟨rfl, xs, SqL.of h⟩, q⟩
theorem r_app {H : Hp} {l : Addr} {xs : List V} {y : V} {Q : VK} (h : H l = some (.lst xs)) (hl : xs.length < sizeLine) (q : ∀ H2, H2 l = some (.lst (xs ++ [y])) → Kp [l] H H2 → Q .non H2) : rAppend (.ref l) [y] H Q :=
  ⟨l, xs, y, rfl, rfl, h, hl, q _ upd_same (Kp.put h trivial)⟩
section
variable {H : Hp} {Q : VK} {l p : Addr} {K : PySem.W.Frag} {xs : List V} {y : V} {i : Int}
def rIns : V → List V → Hp → VK → Prop := fun x vs H Q => ∃ (l : Addr) (xs : List V) (i : Int) (y : V), x = .ref l ∧ vs = [.int i, y] ∧ H l = some (.lst xs) ∧ xs.length < sizeLine ∧ 0 ≤ i ∧ i < 2 ^ 63 ∧ Q .non (upd H l (.lst (xs.take i.toNat ++ [y] ++ xs.drop i.toNat)))
theorem cg_insert {X : Cx} : MtR X "list.insert" rIns := mt_insert
theorem r_ins (h : H l = some (.lst xs)) (hl : xs.length < sizeLine) (h0 : 0 ≤ i) (h1 : i ≤ 1000000) (q : ∀ H2, H2 l = some (.lst (xs.take i.toNat ++ [y] ++ xs.drop i.toNat)) → Kp [l] H H2 → Q .non H2) : rIns (.ref l) [.int i, y] H Q :=
  ⟨l, xs, i, y, rfl, rfl, h, hl, h0, by omega, q _ upd_same (Kp.put h trivial)⟩
theorem r_pop (h : H l = some (.lst xs)) (h0 : 0 ≤ i) (h1 : i < xs.length) (h2 : i ≤ 1000000) (q : ∀ y H2, xs[i.toNat]? = some y → H2 l = some (.lst (xs.eraseIdx i.toNat)) → Kp [l] H H2 → Q y H2) : rPopAt (.ref l) [.int i] H Q := by
  have e : i.toNat < xs.length := by omega
  refine ⟨l, xs, i, i.toNat, xs[i.toNat], rfl, rfl, h, by omega, by omega, ?_, List.getElem?_eq_getElem e, q _ _ (List.getElem?_eq_getElem e) upd_same (Kp.put h trivial)⟩
  unfold seqIndex?
  rw [if_neg (by omega : ¬ i < 0)]
  simp
  omega
theorem r_listT (h : SqT K H p xs) (q : ∀ l H2, H l = none → H2 l = some (.lst xs) → Kp [] H H2 → Q (.ref l) H2) : rListOf K [.ref p] H Q := ⟨p, xs, rfl, .inr h, fun l hl => q l _ hl upd_same (Kp.new hl)⟩
instance s_sl {r : V → Option Int → Option Int → Hp → VK → Prop} {te : TE} {tl th : TO} {σ : St} : Stp (tSl r te tl th σ H Q) (te σ H fun x H1 => tl σ H1 fun l H2 => th σ H2 fun u H3 => r x l u H3 Q) := ⟨id⟩
instance s_noPart {σ : St} {R : Option Int → Hp → Prop} : Stp (tNoPart σ H R) (R Option.none H) := ⟨id⟩
def asI (x : V) (R : Int → Prop) : Prop := ∃ i, x = .int i ∧ R i
instance s_asI {R : Int → Prop} : Stp (asI (.int i) R) (R i) := ⟨fun h => ⟨i, rfl, h⟩⟩
instance s_part {te : TE} {σ : St} {R : Option Int → Hp → Prop} : Stp (tPart te σ H R) (te σ H fun x H1 => asI x fun i => R (some i) H1) := ⟨id⟩
theorem r_slL {lo hi : Option Int} (h : H p = some (.lst xs)) (q : ∀ l H2, H l = none → H2 l = some (.lst (cutV xs lo hi)) → Kp [] H H2 → Q (.ref l) H2) : rSlL K (.ref p) lo hi H Q := ⟨p, xs, rfl, SqL.of h, fun l hl => q l _ hl upd_same (Kp.new hl)⟩
theorem slL {X : Cx} (K : PySem.W.Frag) (h : X.K = K := by rfl) : SlR X (rSlL K) := h ▸ sl_list
theorem cut_from {i : Int} (h : 0 ≤ i) : cutV xs (some i) none = xs.drop i.toNat := by
  obtain ⟨k, rfl⟩ : ∃ k : Nat, i = k := ⟨i.toNat, by omega⟩
  unfold cutV
  rw [HT.sIx_nat, HT.sIx_none, Int.toNat_natCast]
  by_cases hk : k ≤ xs.length
  · rw [Nat.min_eq_left hk, List.take_of_length_le (by rw [List.length_drop]; omega)]
  · rw [Nat.min_eq_right (by omega), List.drop_eq_nil_of_le (Nat.le_refl _), List.drop_eq_nil_of_le (by omega), List.take_nil]
/-- a list of bools in which True, False stands -/
theorem flat_bls (bs : List Bool) : (bs.map V.bl).all flatV = true := by
  induction bs with
  | nil => rfl
  | cons b bs ih => simpa [flatV] using ih
theorem inV_true (bs : List Bool) : inV (.bl true) (bs.map V.bl) = bs.any id := by
  unfold inV
  rw [List.any_map]
  congr 1
  funext b
  cases b <;> rfl
theorem inV_false (bs : List Bool) : (!inV (.bl false) (bs.map V.bl)) = bs.all id := by
  unfold inV
  induction bs with
  | nil => rfl
  | cons b bs ih =>
    simp only [List.map_cons, List.any_cons, List.all_cons, Bool.not_or, ih]
    cases b <;> rfl
end
/-! ### the walk's own steps (rows of tactics) -/
local macro_rules | `(tactic| walk_at "cg yes") => `(tactic| (first
  | assumption | decide | omega | (simp; done)
  | fail))
local macro_rules | `(tactic| walk_at "cg ne") => `(tactic| (first
  | assumption | (apply Ne.symm; assumption) | exact ne_newL (by assumption) (by walk_at "cg h") | exact ne_newR (by assumption) (by walk_at "cg h")
  | fail))
/-- what stands at an address, a tuple, from the last heap backwards -/
local macro_rules | `(tactic| walk_at "cg h") => `(tactic| (first
  | assumption
  | ((with_reducible show _ = some _); first
      | exact Kp.get0 (by assumption) (by walk_at "cg h") | exact Kp.get1 (by assumption) (by walk_at "cg ne") (by walk_at "cg h"))
  | ((with_reducible show SqT _ _ _ _); exact Kp.tup (by assumption) (by walk_at "cg h"))
  | ((with_reducible show Im _ _ _ _); exact Kp.im (by assumption) (by walk_at "cg h"))
  | ((with_reducible show ImAll _ _ _ _); exact Kp.imAll (by assumption) (by walk_at "cg h"))
  | fail))
/-- an address that was free -/
local macro_rules | `(tactic| walk_at "cg fr") => `(tactic| (first
  | assumption
  | exact Kp.free0 (by assumption) (by assumption)
  | exact Kp.free0 (by walk_at "cg kp") (by assumption)
  | fail))
/-- the frame from the entry on -/
local macro_rules | `(tactic| walk_at "cg kp") => `(tactic| (first
  | assumption
  | exact Kp.refl
  | exact Kp.tr0 (by assumption) (by walk_at "cg kp")
  | exact Kp.tr1 (by assumption) (by walk_at "cg kp")
  | exact Kp.trN (by assumption) (by walk_at "cg kp") (by walk_at "cg fr")
  | fail))
local macro_rules | `(tactic| walk_at "cg ty") => `(tactic| (first
  | exact .base (.int _) | exact .base (.bl _) | exact .base (.str _) | exact .base .non | exact SqT.ty (by walk_at "cg h") | exact .base (.lst (by walk_at "cg h"))
  | fail))
local macro_rules | `(tactic| walk_at "cg C") => `(tactic| (first
  | assumption | exact (show CMul _ _ from .inl ⟨by omega, by omega⟩) | exact (show CMul _ _ from .inr ⟨by omega, by omega⟩) | omega | decide
  | exact ⟨by decide, by decide, by decide⟩ | exact ⟨by omega, by omega⟩
  | fail))
local macro_rules | `(tactic| walk_at "cg s") => `(tactic| (first
  | (refine go1 inferInstance inferInstance ?_)
  | ((with_reducible refine r_rI ?_ ?_); (focus (walk_at "cg C")))
  | ((with_reducible apply r_ixL); (focus (walk_at "cg h")); exact rfl)
  | ((with_reducible apply r_ixT); (focus (walk_at "cg h")); exact rfl)
  | ((with_reducible apply r_lenL); (focus (walk_at "cg h")))
  | ((with_reducible apply r_lenT); (focus (walk_at "cg h")))
  | ((with_reducible apply r_gTup); (focus (walk_at "cg h")); exact rfl)
  | ((with_reducible refine r_mkT (K := ‹PySem.W.Frag›) ?_ ?_); (focus (exact Nat.le_of_ble_eq_true rfl)); intro _ _ _ _ _)
  | ((with_reducible refine r_mkL ?_ ?_); (focus (exact Nat.le_of_ble_eq_true rfl)); intro _ _ _ _ _)
  | ((with_reducible apply r_tupleL); (focus (walk_at "cg h")); intro _ _ _ _ _)
  | ((with_reducible apply r_listT); (focus (walk_at "cg h")); intro _ _ _ _ _)
  | ((with_reducible apply r_slL); (focus (walk_at "cg h")); intro _ _ _ _ _)
  | ((with_reducible apply r_listL); (focus (walk_at "cg h")); intro _ _ _ _ _)
  | ((with_reducible apply r_setL); (focus (walk_at "cg h")); exact rfl)
  | ((with_reducible apply r_isi); (focus (exact .ty _)); (focus (walk_at "cg ty")); (focus (first | exact kit_ty (r := true) (by decide +kernel) | exact kit_ty (r := false) (by decide +kernel))))
  | ((with_reducible apply r_inL); (focus (walk_at "cg h")); exact rfl; exact rfl; (focus (first | exact (by decide +kernel : _ = true) | exact (by decide +kernel : _ = false))))
  | ((with_reducible apply r_inT); (focus (walk_at "cg h")); exact rfl; exact rfl; (focus (first | exact (by decide +kernel : _ = true) | exact (by decide +kernel : _ = false))))
  | ((with_reducible apply r_tyL); (focus (walk_at "cg h")))
  | ((with_reducible refine r_app (xs := ?xs) ?h ?hl ?_); (case h => walk_at "cg h"); (case hl => first | exact Nat.lt_of_sub_pos (by decide) | (apply small1000; omega) | (apply small1000; simp; done) | (apply small1000; simp; omega)); intro _ _ _)
  | ((with_reducible apply r_isL); (focus (walk_at "cg h")))
  | ((with_reducible apply r_isT); (focus (walk_at "cg h")))
  | ((with_reducible apply r_isR1); (focus (first | omega | (constructor <;> decide))))
  | ((with_reducible refine if_T ?_ ?_); (focus (walk_at "cg yes"))) | ((with_reducible refine if_F ?_ ?_); (focus (walk_at "cg yes")))
  | ((with_reducible refine if_NT ?_ ?_); (focus (walk_at "cg yes"))) | ((with_reducible refine if_NF ?_ ?_); (focus (walk_at "cg yes")))
  | fail))
local macro_rules | `(tactic| walk_at "cg") => `(tactic| repeat (walk_at "cg s"))

/-! ### set(xs) of a list of ints, and sorted of it -/
section
open PySem.Spec PyProof.Rows
variable {P : Program} {w : World} {A : Around} {E : Value → Shared → Prop} {s : Shared}
/-- a new empty set; the iterator of the list at l -/
def oSet (w : World) : Obj := ⟨.type "set", none, .set #[] 0 (.fresh 0 0 (!w.params.followText "set-order")), #[]⟩
def oIt (l : Addr) : Obj := ⟨.type "list_iterator", none, .fields #[.ref l, .int 0 0], #[]⟩
/-- what the making of the set leaves: the set at n, every elder object -/
def SetDone (w : World) (h0 : Heap) (ns : List Int) (h : Heap) : Prop := ∃ c, SetR w h h0.objs.size (fun j => decide (j ∈ ns)) c ∧ c ≤ ns.length ∧ ∀ b o, h0.get? b = some o → h.get? b = some o
set_option maxHeartbeats 8000000 in
theorem set_made {l : Addr} {vs : Array Value} {ns : List Int} {Q : Value → Shared → Prop} (hc : A.handled = none) (hl : s.heap.IsList l vs) (hv : IntsAre vs.toList ns) (few : ns.length ≤ 4000)
    (q : ∀ h tk, SetDone w s.heap ns h → Q (.ref s.heap.objs.size) { s with heap := h, toks := tk }) : wpAny (model P w) A (call (.type "set") [.ref l]) Q E s := by
  have room : ns.length + 1 < scanBound := by unfold scanBound; omega
  have size : vs.size = ns.length := by simpa using IntsAre.length hv
  have atS : (s.heap.push (oSet w)).get? s.heap.objs.size = some (oSet w) := Heap.get?_push_size _ rfl
  have tyS : Shared.TypeIs { s with heap := s.heap.push (oSet w) } (.ref s.heap.objs.size) "set" := ⟨_, atS, rfl⟩
  have e1 := F.called_set.made
  have e2 := F.called_set.sub
  have e3 := F.called_set.notType
  have e4 := F.called_set.canCreate
  have e5 := F.typeCall_set_1 (.ref l)
  have e6 := F.called_set.init.lookup
  have e7 := F.called_set.init.bind (.ref s.heap.objs.size)
  obtain ⟨cc, tl, e0⟩ := F.called_set.mro
  apply wpAny_call
  apply codeAny_of_tree
  show wpAny _ _ (callAny (.type "set") _) _ _ _
  apply wpAny_pure
  refine ⟨Code.quiet_builtin _ (by decide +kernel), ?_⟩
  apply codeAny_builtin F.entry_type_call
  rw [Around.under_plain (weight_type_call_type "set" [.ref l] []) rfl]
  repeat any_goals first | wp_step | assumption
  refine codeAny_mono (code_set_led1 (E := E) (.ref l) (Q₁ := fun v z => v = .ref s.heap.objs.size ∧ z = { s with heap := s.heap.push (oSet w) }) ⟨rfl, rfl⟩) ?_
  rintro (e | f) z hz
  · exact hz
  · cases f
    case ret v =>
      obtain ⟨rfl, rfl⟩ := hz
      repeat any_goals first | wp_step | assumption
      refine codeAny_mono (codeAny_call_builtin F.called_set.init.plain F.entry_set_init (check_set_init_1 tyS ?go)
        (R := wants (fun r z => r = .none ∧ ∃ h tk, z = { s with heap := h, toks := tk } ∧ SetDone w s.heap ns h) E)) ?_
      case go =>
        obtain ⟨⟨c0, d0, t0, s0⟩, at0, cl0, n0, da0⟩ := hl
        dsimp only at cl0 da0
        subst cl0 da0
        have atL : (s.heap.push (oSet w)).get? l = some ⟨.type "list", d0, .seq vs n0, s0⟩ := Heap.get?_push_of_some _ at0
        have isL : (s.heap.push (oSet w)).IsList l vs := ⟨_, atL, rfl, n0, rfl⟩
        have f1 := F.sub_list_set
        have f2 := F.sub_list_frozenset
        have f3 : (Value.type "list" == Value.type "dict") = false := by decide
        unfold Builtin.«set.__init__» noKeywords Builtin.Frozenset.updateFrom
        generalize hw : pyIter = it0
        wp_walk
        subst hw
        apply wpAny_pyIter_list isL
        apply wpAny_bind
        apply wpAny_runValue
        have small : l < s.heap.objs.size := Heap.lt_size at0
        have big : (s.heap.push (oSet w)).objs.size = s.heap.objs.size + 1 := Heap.size_push ..
        have calm : A.in1.in1.in1.handled = none := by simpa using hc
        have n1 : l ≠ (s.heap.push (oSet w)).objs.size := by
          rw [big]
          exact Nat.ne_of_lt (Nat.lt_succ_of_lt small)
        have n2 : s.heap.objs.size ≠ (s.heap.push (oSet w)).objs.size := by
          rw [big]
          exact Nat.ne_of_lt (Nat.lt_succ_self _)
        refine set_update_ints (Walks.list calm _ l n1 vs).toS s.heap.objs.size (fun hm => ?f1) ns size room (fun i v ev => ?f2) (vs.size - 0) 0 _ rfl (Nat.zero_le _)
          ⟨⟨_, Heap.get?_push_size _ rfl, rfl, rfl⟩, isL.push _⟩ ⟨0, Nat.le_refl 0, setR_new_at (Heap.get?_push_of_some _ atS)⟩ ?f3
        case f1 =>
          rcases List.mem_cons.mp hm with e | hm
          · exact n2 e
          · exact Nat.ne_of_gt small (List.mem_singleton.mp hm)
        case f2 =>
          have hi : i < ns.length := size ▸ (Array.getElem?_eq_some_iff.mp ev).1
          obtain ⟨t, e⟩ := IntsAre.int_at hv i v (by simpa using ev)
          exact ⟨ns[i], t, by simp [hi], by simp [e, hi]⟩
        case f3 =>
          rintro ⟨h, g, d, tk, os⟩ c moved hcn hS
          obtain rfl : g = s.gens := moved.gens
          obtain rfl : d = s.drawn := moved.drawn
          obtain rfl : os = s.os := moved.os
          apply wpAny_pure
          show wpAny _ _ (ret Value.none) _ _ _
          apply wpAny_pure
          refine ⟨rfl, h, tk, rfl, c, hS, by omega, fun b o e => ?_⟩
          have lt := Heap.lt_size e
          refine moved.heap b o (fun hm => ?_) (Heap.get?_push_of_some _ (Heap.get?_push_of_some _ e))
          rcases List.mem_cons.mp hm with e | hm
          · exact Nat.ne_of_lt lt e
          · have e : b = (s.heap.push (oSet w)).objs.size := List.mem_singleton.mp hm
            rw [big] at e
            exact Nat.ne_of_lt (Nat.lt_succ_of_lt lt) e
      rintro (e | f) z hz
      · exact hz
      · cases f
        case ret v =>
          obtain ⟨rfl, h, tk, rfl, done⟩ := hz
          repeat any_goals first | wp_step | assumption
          exact q h tk done
        all_goals exact hz.elim
    all_goals exact hz.elim
end
/-- set(xs), xs a list of ints -/
def rSetL (K : PySem.W.Frag) (w : World) : List V → Hp → VK → Prop := fun vs H Q => ∃ (l : Addr) (ns : List Int), vs = [.ref l] ∧ SqL K H l (ns.map V.int) ∧ ns.length ≤ 4000 ∧
  ∀ p c, H p = none → c ≤ ns.length → (∀ us : List Int, (∀ j ∈ ns, j ∈ us) → c ≤ us.length) → Q (.ref p) (upd H p (SetO w p (fun j => decide (j ∈ ns)) c))
theorem nodup_le0 : ∀ {ns us : List Int}, ns.Nodup → (∀ k ∈ ns, k ∈ us) → ns.length ≤ us.length
  | [], _, _, _ => Nat.zero_le _
  | n :: ns, us, h, s => by
    rw [List.nodup_cons] at h
    have m := s n List.mem_cons_self
    have q := nodup_le0 (ns := ns) (us := us.erase n) h.2 fun k hk => (List.mem_erase_of_ne fun e => h.1 (by rw [← e]; exact hk)).mpr (s k (List.mem_cons_of_mem _ hk))
    rw [List.length_erase_of_mem m] at q
    have := List.length_pos_of_mem m
    rw [List.length_cons]
    omega
theorem setR_card {w : World} {h : Heap} {a : Addr} {S : Int → Bool} {c : Nat} (R : SetR w h a S c) {us : List Int} (hs : ∀ k, S k = true → k ∈ us) : c ≤ us.length := by
  obtain ⟨o, es, ep, t, _, _, _, _, nd, iff, _, _, hsz, _⟩ := R
  have q := nodup_le0 nd fun k hk => hs k ((iff k).mpr hk)
  rw [List.length_map] at q
  have : es.toList.length = es.size := by simp
  omega
theorem cg_setL {X : Cx} (hc : X.calm = true) : CallR X (.type "set") (rSetL X.K X.w) := by
  rintro pins s σ H vs us Q I r ⟨l, ns, rfl, hS, hn, q⟩
  obtain ⟨its, rv, pl, hz⟩ := I.list hS
  have e1 := Vals.ref1 r
  subst e1
  have hv : PyProof.Rows.IntsAre its.toArray.toList ns := by simpa using rv.ints
  refine set_made (I.ok.hd hc) pl.isList hv hn ?_
  rintro h tk ⟨c, hR, hcn, keep⟩
  have free : H s.heap.objs.size = none := I.hok.fresh (Nat.le_refl _)
  exact ⟨.ref _, _, I.laid (t' := tk) keep (Nat.le_refl _) (setO_new hR), rfl, q _ c free hcn fun us hu => setR_card hR fun k hk => hu k (of_decide_eq_true hk)⟩

/-! ### sets of tuples of flat things (ints, texts, bools, None) -/
section
open PySem.Spec PyProof.Rows
variable {P : Program} {w : World} {κ : Type} [DecidableEq κ] {kn : KeyKind P w κ} {A : Around} {E : Value → Shared → Prop} {s : Shared}
theorem tv_cls (n : Nat) {v : Value} (h : carriedByValue v = true) : ofAClassStatement n v = pure false := by
  cases v with
  | ref a => simp [carriedByValue] at h
  | _ => cases n <;> rfl
theorem tv_hash (n : Nat) {v : Value} (h : carriedByValue v = true) : ∃ b, hashByValue n v = pure b := by
  cases v with
  | ref a => simp [carriedByValue] at h
  | _ => cases n <;> exact ⟨_, rfl⟩
/-- a tuple of flat things is of no class statement -/
theorem tt_cls {k : List κ} {b : Addr} {Q : Bool → Shared → Prop} (T : IsTupleKey kn s.heap k b) (q : Q false s) : wpAny (model P w) A (ofAClassStatement 8 (.ref b)) Q E s := by
  have ty := T.typeIs
  obtain ⟨o, its, n, at0, _, da, ia⟩ := T
  unfold ofAClassStatement
  refine wpAny_bind (wpAny_typeOf ty ?_)
  dsimp only
  have e0 : (("tuple" : String) == "tuple") = true := by decide
  simp only [e0, if_true, Bool.not_true, Bool.false_eq_true, if_false]
  try refine wpAny_bind (wpAny_pure ?_)
  try simp only [Bool.not_true, Bool.false_eq_true, if_false]
  show wpAny _ _ (seqItems? (.ref b) >>= _) _ _ s
  refine wpAny_bind (wpAny_seqItems at0 da ?_)
  dsimp only
  refine wpAny_bind ?_
  show wpAny _ _ (forIn its _ _) _ _ s
  rw [← Array.forIn_toList]
  refine wpAny_forIn_list _ (fun left st z => st.1 = none ∧ z = s ∧ ∀ v ∈ left, carriedByValue v = true) _ ?_ ?_ _ _ ⟨rfl, rfl, ia.byValue⟩
  · rintro v left st z ⟨e1, rfl, all⟩
    rw [tv_cls _ (all v List.mem_cons_self)]
    refine wpAny_bind (wpAny_pure ?_)
    simp only [Bool.false_eq_true, if_false]
    exact wpAny_pure ⟨rfl, rfl, fun u hu => all u (List.mem_cons_of_mem _ hu)⟩
  · rintro ⟨x, y⟩ z ⟨e1, rfl, _⟩
    simp only at e1
    subst e1
    exact wpAny_pure q
/-- whether its hash is by value: one of both -/
theorem tt_hash {k : List κ} {b : Addr} {Q : Bool → Shared → Prop} (T : IsTupleKey kn s.heap k b) (q : ∀ r, Q r s) : wpAny (model P w) A (hashByValue 8 (.ref b)) Q E s := by
  have ty := T.typeIs
  obtain ⟨o, its, n, at0, _, da, ia⟩ := T
  unfold hashByValue
  refine wpAny_bind (wpAny_specialOf ty F.slot_tuple_hash.lookup ?_)
  show wpAny _ _ (seqItems? (.ref b) >>= _) _ _ s
  refine wpAny_bind (wpAny_seqItems at0 da ?_)
  refine wpAny_bind ?_
  show wpAny _ _ (forIn its _ _) _ _ s
  rw [← Array.forIn_toList]
  refine wpAny_forIn_list _ (fun left st z => st.1 = none ∧ z = s ∧ ∀ v ∈ left, carriedByValue v = true) _ ?_ ?_ _ _ ⟨rfl, rfl, ia.byValue⟩
  · rintro v left st z ⟨e1, rfl, all⟩
    obtain ⟨r, e2⟩ := tv_hash 7 (all v List.mem_cons_self)
    rw [e2]
    refine wpAny_bind (wpAny_pure ?_)
    cases r
    · simp only [Bool.not_false, if_true]
      exact wpAny_pure (wpAny_pure (q false))
    · simp only [Bool.not_true, Bool.false_eq_true, if_false]
      exact wpAny_pure ⟨rfl, rfl, fun u hu => all u (List.mem_cons_of_mem _ hu)⟩
  · rintro ⟨x, y⟩ z ⟨e1, rfl, _⟩
    simp only at e1
    subst e1
    exact wpAny_pure (q true)
/-- a search among such tuples shows nothing -/
theorem tt_seen {k : List κ} {b : Addr} {Q : Bool → Shared → Prop} (T : IsTupleKey kn s.heap k b) {ys : List Value} (hy : ∀ y ∈ ys, ∃ k' c, y = Value.ref c ∧ IsTupleKey kn s.heap k' c) (q : Q false s) :
    wpAny (model P w) A (searchCouldBeSeen (.ref b) ys) Q E s := by
  unfold searchCouldBeSeen
  refine wpAny_bind ?_
  refine wpAny_forIn_list _ (fun left st z => st.1 = none ∧ z = s ∧ ∀ y ∈ left, ∃ k' c, y = Value.ref c ∧ IsTupleKey kn s.heap k' c) _ ?_ ?_ _ _ ⟨rfl, rfl, hy⟩
  · rintro v left st z ⟨e1, rfl, all⟩
    obtain ⟨k', c, rfl, T'⟩ := all v List.mem_cons_self
    have more : ∀ y ∈ left, ∃ k' c, y = Value.ref c ∧ IsTupleKey kn z.heap k' c := fun u hu => all u (List.mem_cons_of_mem _ hu)
    dsimp only
    by_cases hv : (b == c || (carriedByValue (.ref b) && carriedByValue (.ref c))) = true
    · refine wp_if_pos hv ?_
      exact wpAny_pure ⟨rfl, rfl, more⟩
    · refine wp_if_neg hv ?_
      refine wpAny_bind (wpAny_eqIsQuiet_tuple T ?_)
      simp only [Bool.not_true, Bool.false_eq_true, if_false]
      refine wpAny_bind (wpAny_eqIsQuiet_tuple T' ?_)
      simp only [Bool.not_true, Bool.false_eq_true, if_false]
      refine wpAny_bind (tt_cls T ?_)
      simp only [Bool.false_eq_true, if_false]
      refine wpAny_bind (tt_cls T' ?_)
      simp only [Bool.false_eq_true, if_false]
      exact wpAny_pure ⟨rfl, rfl, more⟩
  · rintro ⟨x, y⟩ z ⟨e1, rfl, _⟩
    simp only at e1
    subst e1
    exact wpAny_pure q

variable (kn)
/-- the entries that a list of tuples makes -/
def tEnt (p : Addr × List κ) : Int × Value := (tupleKeyHash kn p.2, .ref p.1)
/-- the set at a holds the tuples of L, in the order of the table -/
structure TSet (h : Heap) (a : Addr) (L : List (Addr × List κ)) (es : Array (Int × Value)) (ep : Nat) (t : SetTable) : Prop where
  ob : ∃ o, h.get? a = some o ∧ o.ExactSet ∧ o.data = .set es ep t
  rows : es.toList = L.map (tEnt kn)
  tab : TabOk t (L.map fun p => tupleKeyHash kn p.2)
  nd : (L.map (·.2)).Nodup
  tup : ∀ p ∈ L, IsTupleKey kn h p.2 p.1
  led : w.params.followText "set-order" = true ∨ t.led = true
  room : L.length * 5 < t.mask * 3
  few : L.length < 64
variable {kn}
variable {a : Addr} {L : List (Addr × List κ)} {es : Array (Int × Value)} {ep : Nat} {t : SetTable}
theorem TSet.size {h : Heap} (R : TSet kn h a L es ep t) : es.size = L.length := by
  have q := congrArg List.length R.rows
  simpa using q
theorem tfits (hp : t.place.size = es.size) (hd : t.dummies = #[]) (hl : es.size ≤ t.mask) : t.fits es.size = true := by
  unfold SetTable.fits SetTable.fill
  rw [hd, Bool.and_eq_true, beq_iff_eq, decide_eq_true_eq]
  show t.place.size = es.size ∧ t.place.size + 0 ≤ t.mask
  omega
theorem TSet.psz {h : Heap} (R : TSet kn h a L es ep t) : t.place.size = es.size := by
  have q := R.tab.sz
  rw [List.length_map] at q
  rw [q, R.size]
theorem TSet.fits {h : Heap} (R : TSet kn h a L es ep t) : t.fits es.size = true := by
  have h2 := R.size
  have h3 := R.room
  exact tfits R.psz R.tab.dm (by omega)
theorem TSet.entry {h : Heap} (R : TSet kn h a L es ep t) {i : Nat} {p : Addr × List κ} (e : L[i]? = some p) : es[i]? = some (tupleKeyHash kn p.2, Value.ref p.1) := by
  rw [← Array.getElem?_toList, R.rows, List.getElem?_map, e]
  rfl
theorem TSet.gw {h : Heap} (R : TSet kn h a L es ep t) : ¬ t.gaveWay = true := by
  unfold SetTable.gaveWay
  rw [mask_odd R.tab.mok]
  decide
theorem TSet.at {h h' : Heap} (R : TSet kn h a L es ep t) (ha : ∀ o, h.get? a = some o → h'.get? a = some o) (ht : ∀ p ∈ L, IsTupleKey kn h' p.2 p.1) : TSet kn h' a L es ep t := by
  obtain ⟨o, ho, r⟩ := R.ob
  exact ⟨⟨o, ha o ho, r⟩, R.rows, R.tab, R.nd, ht, R.led, R.room, R.few⟩
theorem tk_keep {h h' : Heap} {k : List κ} {b : Addr} (T : IsTupleKey kn h k b) (hk : ∀ c o, h.get? c = some o → h'.get? c = some o) : IsTupleKey kn h' k b := by
  obtain ⟨o, its, n, ho, r⟩ := T
  exact ⟨o, its, n, hk b o ho, r⟩
/-- a tuple isn't the set -/
theorem tk_other {h h' : Heap} {k : List κ} {b : Addr} {o : Obj} (T : IsTupleKey kn h k b) (ho : h.get? a = some o) (hd : o.data = .set es ep t) (hs : Heap.SameBut a h h') : IsTupleKey kn h' k b := by
  obtain ⟨o', its, n, ho', hc, hd', hi⟩ := T
  refine ⟨o', its, n, (hs.2 b fun e => ?_).trans ho', hc, hd', hi⟩
  rw [e, ho] at ho'
  rw [← Option.some.inj ho', hd] at hd'
  exact nomatch hd'
theorem nth_dummy (m : Nat) : ∀ (n : Nat) (p : SetTable.Probe), p.dummy = none → (nth m p n).dummy = none
  | 0, _, h => h
  | n + 1, p, h => nth_dummy m n (adv m p) (by unfold adv; split <;> exact h)
/-- the start of a search -/
abbrev ways (m : Nat) (h : Int) : SetTable.Probe := runAt m (SetTable.bits h % (m + 1)) (SetTable.bits h)
set_option maxHeartbeats 8000000 in
/-- the search, from the c-th step of the way on -/
theorem tset_from (R : TSet kn s.heap a L es ep t) {x : Addr} {k : List κ} (hx : IsTupleKey kn s.heap k x) (hu : A.units < cLine) {N : Nat} (N1 : N < 10 * SetTable.turns t.mask)
    (N2 : way t.mask (tupleKeyHash kn k) N ∉ t.place.toList) (N3 : ∀ c, c < N → way t.mask (tupleKeyHash kn k) c ∈ t.place.toList) {Q : SetFound → Shared → Prop}
    (yes : k ∈ L.map (·.2) → Q (.there none) s) (no : k ∉ L.map (·.2) → Q (.free (way t.mask (tupleKeyHash kn k) N) false) s) :
    ∀ (f c : Nat) (stand : Option SetTable.Probe), stand.getD (t.probeStart (tupleKeyHash kn k)) = nth t.mask (ways t.mask (tupleKeyHash kn k)) c → c ≤ N → N - c < f →
      (∀ (i : Nat) p, L[i]? = some p → p.2 = k → ∃ d, c ≤ d ∧ d < N ∧ t.place.toList[i]? = some (way t.mask (tupleKeyHash kn k) d)) →
      wpAny (model P w) A (setSearchFrom a (.ref x) (tupleKeyHash kn k) true f stand) Q E s
  | 0, _, _, _, _, hf, _ => absurd hf (Nat.not_lt_zero _)
  | f + 1, c, stand, hst, hc, hf, hre => by
    obtain ⟨o, ho, _, hd⟩ := R.ob
    generalize hh : tupleKeyHash kn k = hs at *
    rw [setSearchFrom_succ]
    refine wpAny_bind (wpAny_setState_of ho hd R.fits ?_)
    dsimp only
    refine wp_if_neg R.gw ?_
    try refine wpAny_bind (wpAny_pure ?_)
    have e1 : ∀ q, nth t.mask (nth t.mask (ways t.mask hs) c) q = nth t.mask (ways t.mask hs) (c + q) := fun q => (nth_add t.mask c _ q).symm
    have e2 : ∀ q, (nth t.mask (nth t.mask (ways t.mask hs) c) q).j = way t.mask hs (c + q) := fun q => congrArg SetTable.Probe.j (e1 q)
    have e3 : c + (N - c) = N := by omega
    have at_ : ∀ (i : Nat) p, L[i]? = some p → (es[i]?.map (·.1)).getD 0 = tupleKeyHash kn p.2 := fun i p hp => by
      rw [R.entry hp]
      rfl
    rcases go_spec t R.tab.ris R.tab.dm (fun i => (es[i]?.map (·.1)).getD 0) hs (10 * SetTable.turns t.mask) (N - c) _ (nth_dummy t.mask c (ways t.mask hs) rfl) (by omega)
      (fun q hq => by rw [e2]; exact N3 (c + q) (by omega)) (by rw [e2, e3]; exact N2) with ⟨q, i, hq, hi, hhi, none_before, pr⟩ | ⟨none_before, pr⟩
    · have pr2 : t.probe (fun i => (es[i]?.map (·.1)).getD 0) hs (stand.getD (t.probeStart hs)) = some (.candidate (way t.mask hs (c + q)) i (nth t.mask (ways t.mask hs) (c + (q + 1)))) := by
        rw [hst, ← e2, ← e1]
        exact pr
      rw [pr2]
      dsimp only
      rw [e2] at hi
      have lt : i < L.length := by
        have h1 : i < t.place.toList.length := (List.getElem?_eq_some_iff.mp hi).1
        rw [Array.length_toList, R.psz, R.size] at h1
        exact h1
      obtain ⟨p, hp⟩ : ∃ p, L[i]? = some p := ⟨_, List.getElem?_eq_getElem lt⟩
      have hm : p ∈ L := List.mem_of_getElem? hp
      have T := R.tup p hm
      have sl : t.slot (way t.mask hs (c + q)) = .live i := slot_live R.tab.ris hi
      have go : wpAny (model P w) A (searchRest a (.ref x) hs true f es t (way t.mask hs (c + q)) i (nth t.mask (ways t.mask hs) (c + (q + 1)))) Q E s := by
        unfold searchRest
        rw [R.entry hp]
        dsimp only
        refine wpAny_bind (wpAny_holding (wpAny_eqBool_tuple hu T hx ?_))
        refine wpAny_bind (wpAny_setState_of ho hd R.fits ?_)
        dsimp only
        by_cases same : p.2 = k
        · refine wp_if_pos (by simp [same]) ?_
          exact wpAny_pure (yes (List.mem_map.mpr ⟨p, hm, same⟩))
        · refine wp_if_neg (by simp [same]) ?_
          try refine wpAny_bind (wpAny_pure ?_)
          rw [sameMem]
          dsimp only
          simp only [if_true, sl, R.entry hp]
          refine wpAny_bind (wpAny_isSame_ref_self (wpAny_bind (wpAny_pure ?_)))
          simp only [if_true]
          refine wp_if_neg (by simp [same]) ?_
          subst hh
          refine tset_from R hx hu N1 N2 N3 yes no f (c + (q + 1)) _ rfl (by omega) (by omega) fun i0 p0 h0 k0 => ?_
          obtain ⟨d, d1, d2, d3⟩ := hre i0 p0 h0 k0
          refine ⟨d, ?_, d2, d3⟩
          rcases Nat.lt_trichotomy d (c + q) with z | z | z
          · refine absurd ((at_ i0 p0 h0).trans (congrArg (tupleKeyHash kn) k0)) (none_before (d - c) i0 (by omega) ?_)
            rw [e2, show c + (d - c) = d by omega]
            exact d3
          · rw [z] at d3
            have sl2 := slot_live R.tab.ris d3
            rw [sl] at sl2
            injection sl2 with sl2
            rw [← sl2, hp] at h0
            exact absurd ((congrArg Prod.snd (Option.some.inj h0)).trans k0) same
          · omega
      by_cases hl : t.led = true
      · refine wp_if_neg (by simp [hl]) ?_
        try refine wpAny_bind (wpAny_pure ?_)
        exact go
      · refine wp_if_pos (by simp [hl]) ?_
        refine wpAny_bind (tt_seen hx (fun y hy => ?_) ?_)
        · obtain ⟨e, he, ee⟩ := List.mem_map.mp hy
          have he1 : e ∈ es ∧ e.1 = hs := by simpa using he
          have he2 : e ∈ es.toList := by simpa using he1.1
          rw [R.rows] at he2
          obtain ⟨p2, hp2, e5⟩ := List.mem_map.mp he2
          exact ⟨p2.2, p2.1, by rw [← ee, ← e5]; rfl, R.tup p2 hp2⟩
        · refine wp_if_neg (by decide) ?_
          try refine wpAny_bind (wpAny_pure ?_)
          exact go
    · have pr2 : t.probe (fun i => (es[i]?.map (·.1)).getD 0) hs (stand.getD (t.probeStart hs)) = some (.empty (way t.mask hs N) none) := by
        have e4 : way t.mask hs N = (nth t.mask (nth t.mask (ways t.mask hs) c) (N - c)).j := by rw [e2, e3]
        rw [hst, e4]
        exact pr
      rw [pr2]
      dsimp only
      refine wpAny_pure (no fun hm => ?_)
      obtain ⟨p0, h0, k0⟩ := List.mem_map.mp hm
      obtain ⟨i0, hi0, e0⟩ := List.getElem_of_mem h0
      have h00 : L[i0]? = some p0 := by rw [List.getElem?_eq_getElem hi0, e0]
      obtain ⟨d, d1, d2, d3⟩ := hre i0 p0 h00 k0
      refine none_before (d - c) i0 (by omega) ?_ ((at_ i0 p0 h00).trans ((congrArg (tupleKeyHash kn) k0).trans hh))
      rw [e2, show c + (d - c) = d by omega]
      exact d3
/-- the search that adding asks for -/
theorem tset_search (R : TSet kn s.heap a L es ep t) {x : Addr} {k : List κ} (hx : IsTupleKey kn s.heap k x) (hu : A.units < cLine) {Q : SetFound → Shared → Prop} (yes : k ∈ L.map (·.2) → Q (.there none) s)
    (no : ∀ N, k ∉ L.map (·.2) → way t.mask (tupleKeyHash kn k) N ∉ t.place.toList → (∀ c, c < N → way t.mask (tupleKeyHash kn k) c ∈ t.place.toList) → Q (.free (way t.mask (tupleKeyHash kn k) N) false) s) :
    wpAny (model P w) A (setSearch a (.ref x) (tupleKeyHash kn k) true) Q E s := by
  have r := R.room
  obtain ⟨N, N1, N2, N3⟩ := R.tab.first (by rw [List.length_map]; omega) (tupleKeyHash kn k)
  have small : 10 * SetTable.turns t.mask ≤ 1420 := by
    unfold SetTable.turns
    rcases R.tab.mok with e | e | e <;> omega
  unfold setSearch
  refine tset_from R hx hu N1 N2 N3 yes (fun h => no N h N2 N3) 100000 0 none rfl (Nat.zero_le _) (by omega) fun i p hp e => ?_
  have hi : (L.map fun p => tupleKeyHash kn p.2)[i]? = some (tupleKeyHash kn k) := by
    rw [List.getElem?_map, hp, ← e]
    rfl
  have il : i < t.place.toList.length := by
    rw [Array.length_toList, R.psz, R.size]
    exact (List.getElem?_eq_some_iff.mp hp).1
  obtain ⟨d, hd, e2⟩ := R.tab.before N2 hi (List.getElem?_eq_getElem il)
  exact ⟨d, Nat.zero_le _, hd, by rw [List.getElem?_eq_getElem il, e2]⟩
end

/-! ### one more tuple, the table laid anew, the whole of set(tuple of tuples) -/
section
open PySem.Spec PyProof.Rows
variable {P : Program} {w : World} {κ : Type} [DecidableEq κ] {kn : KeyKind P w κ} {A : Around} {E : Value → Shared → Prop} {s : Shared} {a : Addr} {L : List (Addr × List κ)} {es : Array (Int × Value)} {ep : Nat} {t : SetTable}
theorem pick_all {α : Type} (L : List α) : ∀ n, n ≤ L.length → (List.range n).filterMap (fun i => L[i]?) = L.take n
  | 0, _ => rfl
  | n + 1, h => by
    rw [List.range_succ, List.filterMap_append, pick_all L n (Nat.le_of_lt h), List.take_add_one, List.getElem?_eq_getElem h]
    rw [List.filterMap_cons_some (List.getElem?_eq_getElem h)]
    rfl
/-- the entries in another order are those of the tuples in that order -/
theorem tset_order (L : List (Addr × List κ)) (es : Array (Int × Value)) (hr : es.toList = L.map (tEnt kn)) : ∀ l : List Nat, (∀ i ∈ l, i < L.length) →
    l.filterMap (fun i => es[i]?) = (l.filterMap fun i => L[i]?).map (tEnt kn) ∧ ((l.filterMap fun i => L[i]?).map fun p => tupleKeyHash kn p.2) = l.map fun i => (es.map (·.1)).getD i 0
  | [], _ => ⟨rfl, rfl⟩
  | i :: l, hl => by
    have hi := hl i List.mem_cons_self
    obtain ⟨e1, e2⟩ := tset_order L es hr l fun j hj => hl j (List.mem_cons_of_mem _ hj)
    have en : es[i]? = some (tEnt kn L[i]) := by
      rw [← Array.getElem?_toList, hr, List.getElem?_map, List.getElem?_eq_getElem hi]
      rfl
    refine ⟨?_, ?_⟩
    · rw [List.filterMap_cons_some en, List.filterMap_cons_some (List.getElem?_eq_getElem hi), e1]
      rfl
    · rw [List.filterMap_cons_some (List.getElem?_eq_getElem hi), List.map_cons, List.map_cons, e2]
      have e5 : (es.map (·.1))[i]? = some (tupleKeyHash kn (L[i]).2) := by
        rw [Array.getElem?_map, en]
        rfl
      rw [Array.getD_eq_getD_getElem?, e5]
      rfl
theorem put_other (L : List (Addr × List κ)) (p : Nat) (x : Addr × List κ) : (L.take p ++ x :: L.drop p).Perm (x :: L) := by
  have h : (L.take p ++ x :: L.drop p).Perm (x :: (L.take p ++ L.drop p)) := List.perm_middle
  rwa [List.take_append_drop] at h
set_option maxHeartbeats 8000000 in
/-- a larger table -/
theorem tset_relay {o : Obj} (ho : s.heap.get? a = some o) (ex : o.ExactSet) (hd : o.data = .set es ep t) (rows : es.toList = L.map (tEnt kn)) (psz : t.place.size = es.size) (dm : t.dummies = #[]) (fl : es.size ≤ t.mask)
    (nd : (L.map (·.2)).Nodup) (tup : ∀ p ∈ L, IsTupleKey kn s.heap p.2 p.1) (ld : w.params.followText "set-order" = true ∨ t.led = true) (few : L.length < 64) {wanted M : Nat}
    (hw : SetTable.sizeAbove wanted - 1 = M) (hM : MaskOk M) (hw2 : SetTable.sizeAbove wanted ≤ 128) (hn : L.length * 5 < M * 3) {Q : Unit → Shared → Prop}
    (q : ∀ h' L' es' ep' t', Heap.SameBut a s.heap h' → TSet kn h' a L' es' ep' t' → L'.Perm L → Q () { s with heap := h' }) : wpAny (model P w) A (setRelay a wanted) Q E s := by
  have sz : es.size = L.length := by simpa using congrArg List.length rows
  obtain ⟨t', order, e, hp, T, em, el, _, _⟩ := relaid_ok t (hs := es.map (·.1)) (wanted := wanted) hw hM (by rw [Array.size_map, sz]; omega)
  rw [Array.size_map, sz] at hp
  obtain ⟨r1, r3⟩ := tset_order L es rows order.toList fun i hi => List.mem_range.mp (hp.mem_iff.mp hi)
  have r2 : (order.toList.filterMap fun i => L[i]?).Perm L := by
    have h1 := hp.filterMap fun i => L[i]?
    rwa [pick_all L L.length (Nat.le_refl _), List.take_length] at h1
  generalize order.toList.filterMap (fun i => L[i]?) = L2 at r1 r2 r3
  rw [← r3] at T
  have r4 : (order.filterMap (es[·]?)).toList = L2.map (tEnt kn) := by
    first | (rw [Array.toList_filterMap]; exact r1) | simpa using r1
  have s2 : (order.filterMap (es[·]?)).size = es.size := by
    have h := congrArg List.length r4
    rw [Array.length_toList, List.length_map, r2.length_eq] at h
    rw [h, sz]
  rw [setRelay_eq]
  refine wpAny_bind (wpAny_setState_of ho hd (tfits psz dm fl) ?_)
  dsimp only
  refine wp_if_neg (by rw [sizeLine_eq]; omega) ?_
  try refine wpAny_bind (wpAny_pure ?_)
  rw [e]
  dsimp only
  refine wpAny_bind ?_
  refine wp_if_neg (by rw [s2]; simp) ?_
  try refine wpAny_bind (wpAny_pure ?_)
  refine wpAny_pure ?_
  dsimp only
  refine wpAny_storeSet_of ho hd ?_ (by rw [s2, sz, sizeLine_eq]; omega)
  have sb : Heap.SameBut a s.heap (s.heap.update a (Obj.putSet (order.filterMap (es[·]?)) t')) := Heap.SameBut.update ..
  refine q _ L2 (order.filterMap (es[·]?)) (ep + 1) t' sb ⟨⟨_, store_at ho hd, ⟨ex.1, ex.2.1, ex.2.2⟩, rfl⟩, r4, T, (r2.map (·.2)).nodup_iff.mpr nd, fun p hpm => tk_other (tup p (r2.mem_iff.mp hpm)) ho hd sb, by rw [el]; exact ld, ?_, by rw [r2.length_eq]; exact few⟩ r2
  rw [r2.length_eq, em]
  exact hn
/-- what holds behind one more: the old tuples and this one, once -/
def OneMore (L : List (Addr × List κ)) (x : Addr) (k : List κ) (L' : List (Addr × List κ)) : Prop := (k ∈ L.map (·.2) → L' = L) ∧ (k ∉ L.map (·.2) → L'.Perm ((x, k) :: L))
set_option maxHeartbeats 16000000 in
theorem tset_add (R : TSet kn s.heap a L es ep t) {x : Addr} {k : List κ} (hx : IsTupleKey kn s.heap k x) (hu : A.units < cLine) (hfew : L.length + 1 < 64) {Q : Bool → Shared → Prop}
    (q : ∀ b h' L' es' ep' t', Heap.SameBut a s.heap h' → TSet kn h' a L' es' ep' t' → OneMore L x k L' → Q b { s with heap := h' }) :
    wpAny (model P w) A (setAddHashed a (.ref x) (tupleKeyHash kn k)) Q E s := by
  obtain ⟨o, ho, hex, hd⟩ := R.ob
  have sz := R.size
  have room := R.room
  unfold setAddHashed
  refine wpAny_holding ?_
  rw [show (100000 : Nat) = 99999 + 1 from rfl, setAddHashedIn_succ]
  refine wpAny_bind (wpAny_setState_of ho hd R.fits ?_)
  dsimp only
  refine wp_if_neg (by simp [byScan, Value.scannable]) ?_
  try refine wpAny_bind (wpAny_pure ?_)
  refine wpAny_bind (tset_search R hx hu (fun hm => ?_) fun N hm N2 N3 => ?_)
  · dsimp only
    exact wpAny_pure (q false s.heap L es ep t (Heap.SameBut.refl a s.heap) R ⟨fun _ => rfl, fun z => absurd hm z⟩)
  · dsimp only
    refine wpAny_bind (wpAny_setState_of ho hd R.fits ?_)
    dsimp only
    obtain ⟨q1, q2, q3, q4, q5, _, _, _, q9⟩ := R.tab.put N2 N3
    generalize hpt : t.put (way t.mask (tupleKeyHash kn k) N) = pt at q1 q3 q4 q5 q9 ⊢
    obtain ⟨t1, p⟩ := pt
    dsimp only at q1 q3 q4 q5 q9 ⊢
    subst q1
    -- the table, whatever it says of plain
    have fin : ∀ t2 : SetTable, TabOk t2 (List.map (fun p => tupleKeyHash kn p.2) L |>.take (SetTable.below t.place (way t.mask (tupleKeyHash kn k) N)) |>.append (tupleKeyHash kn k :: (L.map fun p => tupleKeyHash kn p.2).drop (SetTable.below t.place (way t.mask (tupleKeyHash kn k) N)))) →
        t2.mask = t.mask → t2.led = t.led → t2.fill = L.length + 1 → wpAny (model P w) A (do
          storeSet a (SetTable.insertAt es (SetTable.below t.place (way t.mask (tupleKeyHash kn k) N)) (tupleKeyHash kn k, Value.ref x)) t2
          if !false && t2.tooFull then setRelay a (SetTable.grown (es.size + 1))
          return true) Q E s := fun t2 T2 m2 l2 f2 => by
      have hin : (SetTable.insertAt es (SetTable.below t.place (way t.mask (tupleKeyHash kn k) N)) (tupleKeyHash kn k, Value.ref x)).toList = (L.take (SetTable.below t.place (way t.mask (tupleKeyHash kn k) N)) ++ (x, k) :: L.drop (SetTable.below t.place (way t.mask (tupleKeyHash kn k) N))).map (tEnt kn) := by
        rw [SetTable.toList_insertAt, R.rows, List.map_append, List.map_cons, List.map_take, List.map_drop]
        rfl
      generalize SetTable.below t.place (way t.mask (tupleKeyHash kn k) N) = p at hin T2 q2 ⊢
      have pm := put_other L p (x, k)
      have hlen : (L.take p ++ (x, k) :: L.drop p).length = L.length + 1 := pm.length_eq
      have T3 : TabOk t2 ((L.take p ++ (x, k) :: L.drop p).map fun p => tupleKeyHash kn p.2) := by
        rw [List.map_append, List.map_cons, List.map_take, List.map_drop]
        exact T2
      have nd1 : ((L.take p ++ (x, k) :: L.drop p).map (·.2)).Nodup := by
        refine (pm.map (·.2)).nodup_iff.mpr ?_
        rw [List.map_cons]
        exact List.nodup_cons.mpr ⟨hm, R.nd⟩
      have es1 : (SetTable.insertAt es p (tupleKeyHash kn k, Value.ref x)).size = L.length + 1 := by
        have h := congrArg List.length hin
        rw [Array.length_toList, List.length_map, hlen] at h
        exact h
      generalize SetTable.insertAt es p (tupleKeyHash kn k, Value.ref x) = E1 at hin es1 ⊢
      generalize L.take p ++ (x, k) :: L.drop p = L1 at pm hlen T3 nd1 hin
      refine wpAny_bind (wpAny_storeSet_of ho hd ?_ (by rw [es1, sizeLine_eq]; omega))
      have sb : Heap.SameBut a s.heap (s.heap.update a (Obj.putSet E1 t2)) := Heap.SameBut.update ..
      have ho1 := store_at (es' := E1) (t' := t2) ho hd
      generalize s.heap.update a (Obj.putSet E1 t2) = h1 at sb ho1 ⊢
      have tup1 : ∀ p ∈ L1, IsTupleKey kn h1 p.2 p.1 := fun p hp => by
        rcases List.mem_cons.mp (pm.mem_iff.mp hp) with e | hp
        · rw [e]
          exact tk_other hx ho hd sb
        · exact tk_other (R.tup p hp) ho hd sb
      have ld1 : w.params.followText "set-order" = true ∨ t2.led = true := by rw [l2]; exact R.led
      have psz : t2.place.size = E1.size := by
        have h := T3.sz
        rw [List.length_map, hlen] at h
        rw [h, es1]
      by_cases hf : t2.tooFull = true
      · first
          | (refine wpAny_bind ?_; refine wp_if_pos (by simp [hf]) ?_)
          | (refine wp_if_pos (by simp [hf]) ?_; refine wpAny_bind ?_)
        have full : (L.length + 1) * 5 ≥ t2.mask * 3 := by
          have h := hf
          unfold SetTable.tooFull at h
          rw [decide_eq_true_eq, f2] at h
          exact h
        rw [sz]
        have two : (t2.mask = 7 ∧ L.length = 4) ∨ (t2.mask = 31 ∧ L.length = 18) := by
          rw [m2] at full ⊢
          rcases R.tab.mok with e | e | e
          · left; rw [e] at full room; exact ⟨e, by omega⟩
          · right; rw [e] at full room; exact ⟨e, by omega⟩
          · exfalso; rw [e] at full; omega
        have go : ∀ M, SetTable.sizeAbove (SetTable.grown (L.length + 1)) - 1 = M → MaskOk M → SetTable.sizeAbove (SetTable.grown (L.length + 1)) ≤ 128 → (L.length + 1) * 5 < M * 3 →
            wpAny (model P w) A (setRelay a (SetTable.grown (L.length + 1))) (fun _ s' => wpAny (model P w) A (pure true) Q E s') E { s with heap := h1 } := fun M c1 c2 c3 c4 => by
          refine tset_relay (s := { s with heap := h1 }) ho1 ⟨hex.1, hex.2.1, hex.2.2⟩ rfl hin psz T3.dm (by rw [es1]; rcases two with ⟨e, e2⟩ | ⟨e, e2⟩ <;> omega) nd1 tup1 ld1 (by rw [hlen]; exact hfew) c1 c2 c3 (by rw [hlen]; exact c4) ?_
          intro h2 L2 es2 ep2 t3 sb2 R2 pm2
          exact wpAny_pure (q true h2 L2 es2 ep2 t3 (sb.trans sb2) R2 ⟨fun z => absurd z hm, fun _ => pm2.trans pm⟩)
        rcases two with ⟨_, e2⟩ | ⟨_, e2⟩
        · exact go 31 (by rw [e2, size_20]) (.inr (.inl rfl)) (by rw [e2, size_20]; decide) (by omega)
        · exact go 127 (by rw [e2, size_76]) (.inr (.inr rfl)) (by rw [e2, size_76]; decide) (by omega)
      · first
          | refine wp_if_neg (by simp [hf]) ?_
          | (refine wpAny_bind ?_; refine wp_if_neg (by simp [hf]) ?_; refine wpAny_pure ?_)
        refine wpAny_pure (q true h1 L1 E1 (ep + 1) t2 sb ⟨⟨_, ho1, ⟨hex.1, hex.2.1, hex.2.2⟩, rfl⟩, hin, T3, nd1, tup1, ld1, ?_, by rw [hlen]; exact hfew⟩ ⟨fun z => absurd z hm, fun _ => pm⟩)
        have h := hf
        unfold SetTable.tooFull at h
        rw [decide_eq_true_eq, f2] at h
        rw [hlen]
        omega
    rw [List.length_map] at q9
    by_cases hp1 : t1.plain = true
    · first
        | (refine wpAny_bind ?_; refine wp_if_pos hp1 ?_; refine tt_hash hx fun r => ?_)
        | refine wp_if_pos hp1 (wpAny_bind (tt_hash hx fun r => ?_))
      cases r
      · simp only [Bool.false_eq_true, if_false]
        exact fin _ ⟨q3.ris, q3.dm, q3.sz, q3.mok, q3.bd, q3.reach⟩ q4 q5 q9
      · simp only [if_true]
        exact fin _ q3 q4 q5 q9
    · first
        | (refine wpAny_bind ?_; refine wp_if_neg hp1 ?_; refine wpAny_pure ?_)
        | refine wp_if_neg hp1 (wpAny_bind (wpAny_pure ?_))
        | refine wp_if_neg hp1 ?_
      simp only [if_true]
      exact fin _ q3 q4 q5 q9
/-- what the set has from the first i tuples -/
structure TGot (ks : List (Addr × List κ)) (i : Nat) (L : List (Addr × List κ)) : Prop where
  sub : ∀ p ∈ L, p ∈ ks.take i
  all : ∀ p ∈ ks.take i, p.2 ∈ L.map (·.2)
  len : L.length ≤ i
theorem TGot.step {ks L L' : List (Addr × List κ)} {i : Nat} {x : Addr × List κ} (g : TGot ks i L) (h : ks[i]? = some x) (m : OneMore L x.1 x.2 L') : TGot ks (i + 1) L' := by
  have e : ks.take (i + 1) = ks.take i ++ [x] := by
    rw [List.take_add_one, h]
    rfl
  by_cases c : x.2 ∈ L.map (·.2)
  · rw [m.1 c]
    refine ⟨fun p hp => ?_, fun p hp => ?_, Nat.le_succ_of_le g.len⟩
    · rw [e]
      exact List.mem_append_left _ (g.sub p hp)
    · rw [e] at hp
      rcases List.mem_append.mp hp with z | z
      · exact g.all p z
      · rw [List.mem_singleton.mp z]
        exact c
  · have pm := m.2 c
    refine ⟨fun p hp => ?_, fun p hp => ?_, ?_⟩
    · rw [e]
      rcases List.mem_cons.mp (pm.mem_iff.mp hp) with z | z
      · rw [z]
        exact List.mem_append_right _ (List.mem_singleton.mpr rfl)
      · exact List.mem_append_left _ (g.sub p z)
    · rw [(pm.map (·.2)).mem_iff, List.map_cons]
      rw [e] at hp
      rcases List.mem_append.mp hp with z | z
      · exact List.mem_cons_of_mem _ (g.all p z)
      · rw [List.mem_singleton.mp z]
        exact List.mem_cons_self
    · rw [pm.length_eq, List.length_cons]
      exact Nat.succ_le_succ g.len
set_option maxHeartbeats 8000000 in
/-- the loop of set.update -/
theorem tset_loop {I : Addr} {fp wr : List Addr} {G : Array GenState → Array GenState → Prop} {n : Nat} {Pv : Nat → Value → Prop} {St : Nat → Shared → Prop} {R : Result → Shared → Prop}
    (W : WalksS P w A.in1 I fp wr G n Pv St) (S : Addr) (hSf : S ∉ fp) (ks : List (Addr × List κ)) (hn : n = ks.length) (few : ks.length < 64) (val : ∀ i v, Pv i v → ∃ p, ks[i]? = some p ∧ v = .ref p.1)
    (h0 : Heap) (tup : ∀ p ∈ ks, IsTupleKey kn h0 p.2 p.1) (hS0 : h0.get? S = none) (hw0 : ∀ b ∈ wr, h0.get? b = none) (hu : A.in1.units < cLine) :
    ∀ (j i : Nat) (s : Shared), n - i = j → i ≤ n → St i s → (∀ b o, h0.get? b = some o → s.heap.get? b = some o) → (∃ L es ep t, TSet kn s.heap S L es ep t ∧ TGot ks i L) →
      (∀ s' L es ep t, Moved (S :: wr) G s s' → TSet kn s'.heap S L es ep t → TGot ks n L → (∀ b o, h0.get? b = some o → s'.heap.get? b = some o) → R (.ok (.ret .none)) s') →
      codeAny (model P w) A (.builtin "set.update.loop" ⟨[.ref S, .ref I], []⟩) R s := by
  have hSw : S ∉ wr := fun h => hSf (W.sub _ h)
  have up : ∀ b ∈ wr, b ∈ S :: wr := fun b hb => List.mem_cons_of_mem _ hb
  have keep : ∀ {s s' : Shared}, Moved wr G s s' → (∀ b o, h0.get? b = some o → s.heap.get? b = some o) → ∀ b o, h0.get? b = some o → s'.heap.get? b = some o := fun hm hk b o e =>
    hm.heap b o (fun hb => by rw [hw0 b hb] at e; cases e) (hk b o e)
  intro j
  induction j with
  | zero =>
    intro i s hj hi hst hk ⟨L, es, ep, t, hS, g⟩ done
    have e : i = n := by omega
    subst e
    refine codeAny_builtin F.entry_set_update_loop ?_
    rw [Around.under_plainId F.plain_set_update_loop _]
    show wpAny _ A.in1 (pyNext (.ref I) >>= _) _ _ s
    refine wpAny_bind (W.done s _ _ hst fun s' hm => ?_)
    show wpAny _ A.in1 (ret Value.none) _ _ s'
    have hk' := keep hm hk
    exact wpAny_pure (done s' L es ep t (hm.mono up) (hS.at (fun o e => hm.heap S o hSw e) fun p hp => tk_keep (tup p (List.mem_of_mem_take (g.sub p hp))) hk') g hk')
  | succ j ih =>
    intro i s hj hi hst hk ⟨L, es, ep, t, hS, g⟩ done
    have lt : i < n := by omega
    refine codeAny_builtin F.entry_set_update_loop ?_
    rw [Around.under_plainId F.plain_set_update_loop _]
    show wpAny _ A.in1 (pyNext (.ref I) >>= _) _ _ s
    refine wpAny_bind (W.item i s _ _ lt hst fun v s' hv hst' hm => ?_)
    obtain ⟨p, hp, rfl⟩ := val i v hv
    have hk' := keep hm hk
    have hS' : TSet kn s'.heap S L es ep t := hS.at (fun o e => hm.heap S o hSw e) fun q hq => tk_keep (tup q (List.mem_of_mem_take (g.sub q hq))) hk'
    have hx : IsTupleKey kn s'.heap p.2 p.1 := tk_keep (tup p (List.mem_of_getElem? hp)) hk'
    show wpAny _ A.in1 (holding [Value.ref p.1] (setAdd S (.ref p.1)) >>= _) _ _ s'
    refine wpAny_bind (wpAny_holding ?_)
    unfold setAdd
    refine wpAny_holding ?_
    refine wpAny_bind (wpAny_pyHash_tuple hu hx ?_)
    refine tset_add (s := { s' with toks := s'.toks + (p.2.length + 1) }) hS' hx hu (by have := g.len; omega) fun b h' L' es' ep' t' sb hS2 m => ?_
    have hk2 : ∀ b o, h0.get? b = some o → h'.get? b = some o := fun b o e => (sb.2 b (fun z => by rw [z, hS0] at e; cases e)).trans (hk' b o e)
    refine wpAny_pure ⟨plainId_quiet F.plain_set_update_loop _, ih (i + 1) _ (by omega) lt (W.frame _ s' _ _ hst' (Nat.le_add_right _ _) fun b hb o e => ?_) hk2 ⟨L', es', ep', t', hS2, g.step hp m⟩ fun s'' L2 es2 ep2 t2 hm2 hS3 g3 hk3 => ?_⟩
    · rw [sb.2 b (fun h : b = S => hSf (by rw [← h]; exact hb))]
      exact e
    · refine done s'' L2 es2 ep2 t2 (Moved.trans W.gtrans ((hm.mono up).then_heap (Nat.le_add_right _ _) fun b o hb e => ?_) hm2) hS3 g3 hk3
      rw [sb.2 b (fun h : b = S => hb (by rw [h]; exact List.mem_cons_self))]
      exact e
end

/-! ### set(xs), a tuple of tuples or of ints, and how many are in it -/
/-- each once -/
def dd {α : Type} [DecidableEq α] : List α → List α
  | [] => []
  | x :: xs => if x ∈ dd xs then dd xs else x :: dd xs
section
variable {α : Type} [DecidableEq α]
theorem dd_mem : ∀ {xs : List α} {x : α}, x ∈ dd xs ↔ x ∈ xs
  | [], x => Iff.rfl
  | y :: ys, x => by
    unfold dd
    by_cases h : y ∈ dd ys
    · rw [if_pos h, List.mem_cons, dd_mem]
      constructor
      · exact .inr
      · rintro (rfl | q)
        · exact dd_mem.mp h
        · exact q
    · rw [if_neg h, List.mem_cons, List.mem_cons, dd_mem]
theorem dd_nodup : ∀ xs : List α, (dd xs).Nodup
  | [] => List.nodup_nil
  | y :: ys => by
    unfold dd
    by_cases h : y ∈ dd ys
    · rw [if_pos h]
      exact dd_nodup ys
    · rw [if_neg h]
      exact List.nodup_cons.mpr ⟨h, dd_nodup ys⟩
theorem dd_le : ∀ xs : List α, (dd xs).length ≤ xs.length
  | [] => Nat.le_refl _
  | y :: ys => by
    unfold dd
    have q := dd_le ys
    by_cases h : y ∈ dd ys
    · rw [if_pos h, List.length_cons]
      omega
    · rw [if_neg h, List.length_cons, List.length_cons]
      omega
theorem dd_len : ∀ {xs : List α}, (dd xs).length = xs.length ↔ xs.Nodup
  | [] => by simp [dd]
  | y :: ys => by
    unfold dd
    have q := dd_le ys
    by_cases h : y ∈ dd ys
    · rw [if_pos h, List.length_cons, List.nodup_cons]
      exact ⟨fun e => by omega, fun e => absurd (dd_mem.mp h) e.1⟩
    · rw [if_neg h, List.length_cons, List.length_cons, List.nodup_cons, ← dd_len (xs := ys)]
      exact ⟨fun e => ⟨fun m => h (dd_mem.mpr m), by omega⟩, fun e => by omega⟩
theorem same_len {xs ys : List α} (h1 : xs.Nodup) (h2 : ys.Nodup) (h : ∀ k, k ∈ xs ↔ k ∈ ys) : xs.length = ys.length :=
  ((List.perm_ext_iff_of_nodup h1 h2).mpr h).length_eq
end
/-- a set of n things stands at a -/
def SetC (a : Addr) (n : Nat) : HO := .ext fun h => ∃ o es ep t, h.get? a = some o ∧ o.ExactSet ∧ o.data = .set es ep t ∧ t.fits es.size = true ∧ es.size = n ∧ n < 100000
theorem setC_new {P : Program} {w : World} {H : Hp} {h : Heap} {a : Addr} {n : Nat} (R : ∃ o es ep t, h.get? a = some o ∧ o.ExactSet ∧ o.data = .set es ep t ∧ t.fits es.size = true ∧ es.size = n ∧ n < 100000) : ObjOk P w H h a (SetC a n) := by
  have ⟨o, _, _, _, ho, _⟩ := R
  refine ⟨R, ⟨o, ho⟩, fun h1 h2 p k => ?_⟩
  obtain ⟨o', es, ep, t, e, r⟩ := p
  exact ⟨o', es, ep, t, k o' e, r⟩
/-- a flat value as a key -/
def lfV : V → Leaf
  | .int i => .num i
  | .bl b => .num (if b = true then 1 else 0)
  | .str x => .text x
  | _ => .none
section
open PySem.Spec PyProof.Rows
variable {P : Program} {w : World} {A : Around} {E : Value → Shared → Prop} {s : Shared}
set_option maxHeartbeats 8000000 in
theorem tset_made {κ : Type} [DecidableEq κ] {kn : KeyKind P w κ} {l : Addr} {vs : Array Value} {ks : List (Addr × List κ)} {Q : Value → Shared → Prop} (hc : A.handled = none) (hu : A.units + 3 < cLine) (hl : s.heap.IsTuple l vs)
    (hv : vs.toList = ks.map fun p => Value.ref p.1) (tup : ∀ p ∈ ks, IsTupleKey kn s.heap p.2 p.1) (few : ks.length < 64)
    (q : ∀ h tk L es ep t, TSet kn h s.heap.objs.size L es ep t → TGot ks ks.length L → (∀ b o, s.heap.get? b = some o → h.get? b = some o) → Q (.ref s.heap.objs.size) { s with heap := h, toks := tk }) : wpAny (model P w) A (call (.type "set") [.ref l]) Q E s := by
  have size : vs.size = ks.length := by simpa using congrArg List.length hv
  have atS : (s.heap.push (oSet w)).get? s.heap.objs.size = some (oSet w) := Heap.get?_push_size _ rfl
  have tyS : Shared.TypeIs { s with heap := s.heap.push (oSet w) } (.ref s.heap.objs.size) "set" := ⟨_, atS, rfl⟩
  have e1 := F.called_set.made
  have e2 := F.called_set.sub
  have e3 := F.called_set.notType
  have e4 := F.called_set.canCreate
  have e5 := F.typeCall_set_1 (.ref l)
  have e6 := F.called_set.init.lookup
  have e7 := F.called_set.init.bind (.ref s.heap.objs.size)
  obtain ⟨cc, tl, e0⟩ := F.called_set.mro
  apply wpAny_call
  apply codeAny_of_tree
  show wpAny _ _ (callAny (.type "set") _) _ _ _
  apply wpAny_pure
  refine ⟨Code.quiet_builtin _ (by decide +kernel), ?_⟩
  apply codeAny_builtin F.entry_type_call
  rw [Around.under_plain (weight_type_call_type "set" [.ref l] []) rfl]
  repeat any_goals first | wp_step | assumption
  refine codeAny_mono (code_set_led1 (E := E) (.ref l) (Q₁ := fun v z => v = .ref s.heap.objs.size ∧ z = { s with heap := s.heap.push (oSet w) }) ⟨rfl, rfl⟩) ?_
  rintro (e | f) z hz
  · exact hz
  · cases f
    case ret v =>
      obtain ⟨rfl, rfl⟩ := hz
      repeat any_goals first | wp_step | assumption
      refine codeAny_mono (codeAny_call_builtin F.called_set.init.plain F.entry_set_init (check_set_init_1 tyS ?go)
        (R := wants (fun r z => r = .none ∧ ∃ h tk L es ep t, z = { s with heap := h, toks := tk } ∧ TSet kn h s.heap.objs.size L es ep t ∧ TGot ks ks.length L ∧ ∀ b o, s.heap.get? b = some o → h.get? b = some o) E)) ?_
      case go =>
        obtain ⟨⟨c0, d0, t0, s0⟩, at0, cl0, n0, da0⟩ := hl
        dsimp only at cl0 da0
        subst cl0 da0
        have atL : (s.heap.push (oSet w)).get? l = some ⟨.type "tuple", d0, .seq vs n0, s0⟩ := Heap.get?_push_of_some _ at0
        have isL : (s.heap.push (oSet w)).IsTuple l vs := ⟨_, atL, rfl, n0, rfl⟩
        have f1 := F.sub_tuple_set
        have f2 := F.sub_tuple_frozenset
        have f3 : (Value.type "tuple" == Value.type "dict") = false := by decide
        unfold Builtin.«set.__init__» noKeywords Builtin.Frozenset.updateFrom
        generalize hw : pyIter = it0
        wp_walk
        subst hw
        apply wpAny_pyIter_tuple isL
        apply wpAny_bind
        apply wpAny_runValue
        have small : l < s.heap.objs.size := Heap.lt_size at0
        have big : (s.heap.push (oSet w)).objs.size = s.heap.objs.size + 1 := Heap.size_push ..
        have calm : A.in1.in1.in1.handled = none := by simpa using hc
        have n1 : l ≠ (s.heap.push (oSet w)).objs.size := by
          rw [big]
          exact Nat.ne_of_lt (Nat.lt_succ_of_lt small)
        have n2 : s.heap.objs.size ≠ (s.heap.push (oSet w)).objs.size := by
          rw [big]
          exact Nat.ne_of_lt (Nat.lt_succ_self _)
        have nothing : ∀ b, s.heap.objs.size ≤ b → s.heap.get? b = none := fun b hb => by
          cases q : s.heap.get? b with
          | none => rfl
          | some o => exact absurd (Nat.lt_of_lt_of_le (Heap.lt_size q) hb) (Nat.lt_irrefl _)
        refine tset_loop (Walks.tuple calm _ l n1 vs).toS s.heap.objs.size (fun hm => ?f1) ks size few (fun i v ev => ?f2) s.heap tup (nothing _ (Nat.le_refl _)) (fun b hb => nothing b ?f4) (by show A.units + 3 < cLine; omega) (vs.size - 0) 0 _ rfl (Nat.zero_le _)
          ⟨⟨_, Heap.get?_push_size _ rfl, rfl, rfl⟩, isL.push _⟩ (fun b o e => Heap.get?_push_of_some _ (Heap.get?_push_of_some _ e)) ?f5 ?f3
        case f1 =>
          rcases List.mem_cons.mp hm with e | hm
          · exact n2 e
          · exact Nat.ne_of_gt small (List.mem_singleton.mp hm)
        case f2 =>
          have q : vs.toList[i]? = some v := by rw [Array.getElem?_toList]; exact ev
          rw [hv, List.getElem?_map] at q
          cases hq : ks[i]? with
          | none =>
            rw [hq] at q
            cases q
          | some p =>
            rw [hq] at q
            exact ⟨p, rfl, (Option.some.inj q).symm⟩
        case f4 =>
          rw [List.mem_singleton.mp hb, big]
          exact Nat.le_succ _
        case f5 =>
          have at1 := Heap.get?_push_of_some (⟨.type "tuple_iterator", none, .fields #[.ref l, .int 0 0], #[]⟩ : Obj) atS
          refine ⟨[], #[], 0, _, ⟨⟨_, at1, ⟨rfl, rfl, rfl⟩, rfl⟩, rfl, ⟨List.Pairwise.nil, rfl, rfl, .inl rfl, fun x hx => (by cases hx), fun i h j hi => (by simp at hi)⟩, List.nodup_nil, fun p hp => (by cases hp), ?_, ?_, ?_⟩, ⟨fun p h => (by cases h), fun p h => (by simp at h), Nat.le_refl _⟩⟩
          · show _ ∨ (!w.params.followText "set-order") = true
            cases w.params.followText "set-order"
            · exact .inr rfl
            · exact .inl rfl
          · show 0 * 5 < 7 * 3
            decide
          · show 0 < 64
            decide
        case f3 =>
          rintro ⟨h, g, d, tk, os⟩ L es ep t moved hS hG hk
          obtain rfl : g = s.gens := moved.gens
          obtain rfl : d = s.drawn := moved.drawn
          obtain rfl : os = s.os := moved.os
          apply wpAny_pure
          show wpAny _ _ (ret Value.none) _ _ _
          apply wpAny_pure
          exact ⟨rfl, h, tk, L, es, ep, t, rfl, hS, by rw [← size]; exact hG, hk⟩
      rintro (e | f) z hz
      · exact hz
      · cases f
        case ret v =>
          obtain ⟨rfl, h, tk, L, es, ep, t, rfl, hS, hG, hk⟩ := hz
          repeat any_goals first | wp_step | assumption
          exact q h tk L es ep t hS hG hk
        all_goals exact hz.elim
    all_goals exact hz.elim
theorem lf_is {x : V} {u : Value} (f : flatV x = true) (r : RelV x u) : Leaf.isOf (lfV x) u = true := by
  cases x with
  | non =>
    obtain rfl : u = Value.none := r
    rfl
  | bl b =>
    obtain rfl : u = Value.bool b := r
    exact decide_eq_true rfl
  | int i =>
    obtain ⟨t, rfl⟩ := r
    exact decide_eq_true rfl
  | str z =>
    obtain ⟨t, rfl⟩ := r
    simp [lfV, Leaf.isOf, Value.isStrOf]
  | _ => cases f
theorem lf_all {P : Program} {w : World} : ∀ {xs : List V} {us : List Value}, xs.all flatV = true → Vals xs us → ItemsAre (leafKind P w) (xs.map lfV) us
  | [], _, _, .nil => .nil
  | x :: xs, _, f, .cons r t => by
    rw [List.all_cons, Bool.and_eq_true] at f
    exact .cons (lf_is f.1 r) (lf_all f.2 t)
theorem ref_vals : ∀ {ks : List (Addr × List V)} {us : List Value}, Vals (ks.map fun p => V.ref p.1) us → us = ks.map fun p => Value.ref p.1
  | [], _, .nil => rfl
  | p :: ks, _, .cons r t => by
    cases r
    rw [ref_vals t]
    rfl
end
section
variable {X : Cx}
/-- set(xs), xs a tuple of tuples of flat things -/
def rSetTT (K : PySem.W.Frag) : List V → Hp → VK → Prop := fun vs H Q => ∃ (l : Addr) (ks : List (Addr × List V)), vs = [.ref l] ∧ SqT K H l (ks.map fun p => V.ref p.1) ∧ (∀ p ∈ ks, SqT K H p.1 p.2 ∧ p.2.all flatV = true) ∧ ks.length < 64 ∧
  ∀ p, H p = none → Q (.ref p) (upd H p (SetC p (dd (ks.map fun p => p.2.map lfV)).length))
theorem cg_setTT {k : Nat} (hr : Room k X.A) (hc : X.calm = true) : CallR X (.type "set") (rSetTT X.K) := by
  rintro pins s σ H vs us Q I r ⟨l, ks, rfl, hS, hk, few, q⟩
  obtain ⟨its, rv, pl, hz⟩ := I.tuple hS
  have e1 := Vals.ref1 r
  subst e1
  have hu := hr.un
  let ks2 : List (Addr × List Leaf) := ks.map fun p => (p.1, p.2.map lfV)
  have hv : its.toArray.toList = ks2.map fun p => Value.ref p.1 := by
    rw [List.map_map]
    show its = _
    rw [ref_vals rv]
    rfl
  refine tset_made (kn := leafKind X.prog X.w) (ks := ks2) (I.ok.hd hc) (by omega) pl hv (fun p hp => ?_) (by rw [List.length_map]; exact few) ?_
  · obtain ⟨z, hz, rfl⟩ := List.mem_map.mp hp
    obtain ⟨its', rv', ⟨o, ho, hc', n, hd⟩, _⟩ := I.tuple (hk z hz).1
    exact ⟨o, its'.toArray, n, ho, hc', hd, by simpa using lf_all (hk z hz).2 rv'⟩
  · intro h tk L es ep t hT hG keep
    have free : H s.heap.objs.size = none := I.hok.fresh (Nat.le_refl _)
    have cnt : es.size = (dd (ks.map fun p => p.2.map lfV)).length := by
      rw [hT.size, ← List.length_map (f := fun p : Addr × List Leaf => p.2)]
      refine same_len hT.nd (dd_nodup _) fun k => ?_
      rw [dd_mem]
      have tk2 : ks2.take ks2.length = ks2 := List.take_length
      constructor
      · intro h
        obtain ⟨p, hp, rfl⟩ := List.mem_map.mp h
        have hp2 := hG.sub p hp
        rw [tk2] at hp2
        obtain ⟨z, hz, rfl⟩ := List.mem_map.mp hp2
        exact List.mem_map.mpr ⟨z, hz, rfl⟩
      · intro h
        obtain ⟨z, hz, rfl⟩ := List.mem_map.mp h
        exact hG.all (z.1, z.2.map lfV) (by rw [tk2]; exact List.mem_map.mpr ⟨z, hz, rfl⟩)
    have few2 : es.size < 100000 := by
      have := hT.few
      have := hT.size
      omega
    obtain ⟨o, ho, hex, hd⟩ := hT.ob
    exact ⟨.ref _, _, I.laid (t' := tk) keep (Nat.le_refl _) (setC_new ⟨o, es, ep, t, ho, hex, hd, hT.fits, cnt, by rw [← cnt]; exact few2⟩), rfl, q _ free⟩
/-- how many a set of ints holds -/
theorem setR_count {w : World} {h : Heap} {a : Addr} {ns : List Int} {c : Nat} (R : SetR w h a (fun j => decide (j ∈ ns)) c) : ∃ o es ep t, h.get? a = some o ∧ o.ExactSet ∧ o.data = .set es ep t ∧ t.fits es.size = true ∧ es.size = (dd ns).length ∧ (dd ns).length < 100000 := by
  obtain ⟨o, es, ep, t, ho, hex, hd, _, nd, mem, lt, hf, hn, _⟩ := R
  have e : es.size = (dd ns).length := by
    have e1 : es.size = (es.toList.map keyOf).length := by simp
    rw [e1]
    refine same_len nd (dd_nodup _) fun k => ?_
    rw [dd_mem, ← mem k, decide_eq_true_eq]
  have lt2 : es.size < 4096 := lt
  exact ⟨o, es, ep, t, ho, hex, hd, hf, e, by omega⟩
/-- set(xs) of a list of ints, counted -/
def rSetLn (K : PySem.W.Frag) : List V → Hp → VK → Prop := fun vs H Q => ∃ (l : Addr) (ns : List Int), vs = [.ref l] ∧ SqL K H l (ns.map V.int) ∧ ns.length ≤ 4000 ∧ ∀ p, H p = none → Q (.ref p) (upd H p (SetC p (dd ns).length))
theorem cg_setLn (hc : X.calm = true) : CallR X (.type "set") (rSetLn X.K) := by
  rintro pins s σ H vs us Q I r ⟨l, ns, rfl, hS, hn, q⟩
  obtain ⟨its, rv, pl, hz⟩ := I.list hS
  have e1 := Vals.ref1 r
  subst e1
  have hv : PyProof.Rows.IntsAre its.toArray.toList ns := by simpa using rv.ints
  refine set_made (I.ok.hd hc) pl.isList hv hn ?_
  rintro h tk ⟨c, hR, hcn, keep⟩
  have free : H s.heap.objs.size = none := I.hok.fresh (Nat.le_refl _)
  exact ⟨.ref _, _, I.laid (t' := tk) keep (Nat.le_refl _) (setC_new (setR_count hR)), rfl, q _ free⟩
/-- set(xs) of a tuple of ints, counted -/
def rSetTn (K : PySem.W.Frag) : List V → Hp → VK → Prop := fun vs H Q => ∃ (l : Addr) (ns : List Int), vs = [.ref l] ∧ SqT K H l (ns.map V.int) ∧ ns.length ≤ 4000 ∧ ∀ p, H p = none → Q (.ref p) (upd H p (SetC p (dd ns).length))
theorem cg_setTn (hc : X.calm = true) : CallR X (.type "set") (rSetTn X.K) := by
  rintro pins s σ H vs us Q I r ⟨l, ns, rfl, hS, hn, q⟩
  obtain ⟨its, rv, pl, hz⟩ := I.tuple hS
  have e1 := Vals.ref1 r
  subst e1
  have hv : PyProof.Rows.IntsAre its.toArray.toList ns := by simpa using rv.ints
  refine call_set_tupI ns (I.ok.hd hc) pl hv (by unfold scanBound; omega) ?_
  intro h tk c hR hcn keep
  have free : H s.heap.objs.size = none := I.hok.fresh (Nat.le_refl _)
  exact ⟨.ref _, _, I.laid (t' := tk) keep (Nat.le_refl _) (setC_new (setR_count hR)), rfl, q _ free⟩
/-- len of such a set -/
def rLenN : List V → Hp → VK → Prop := fun vs H Q => ∃ (p : Addr) (n : Nat), vs = [.ref p] ∧ H p = some (SetC p n) ∧ Q (.int (n : Nat)) H
theorem cg_lenN : CallR X (.builtin "len") rLenN := by
  rintro pins s σ H vs us Q I r ⟨p, n, rfl, hp, q⟩
  have e1 := Vals.ref1 r
  subst e1
  obtain ⟨o, es, ep, t, ho, hex, hd, hf, hn, hl⟩ := (I.hok p _ hp).1
  exact call_len_set ho hex hd hf (by rw [hn]; omega) ⟨.int n, H, I.tok _, ⟨_, by rw [hn]⟩, q⟩
end
section
variable {K : PySem.W.Frag} {H : Hp} {Q : VK} {l p : Addr} {ns : List Int} {n : Nat}
theorem r_setLn (h : H l = some (.lst (ns.map V.int))) (hn : ns.length ≤ 4000) (q : ∀ p H2, H p = none → H2 p = some (SetC p (dd ns).length) → Kp [] H H2 → Q (.ref p) H2) : rSetLn K [.ref l] H Q :=
  ⟨l, ns, rfl, SqL.of h, hn, fun p hp => q p _ hp upd_same (Kp.new hp)⟩
theorem r_setTn (h : SqT K H l (ns.map V.int)) (hn : ns.length ≤ 4000) (q : ∀ p H2, H p = none → H2 p = some (SetC p (dd ns).length) → Kp [] H H2 → Q (.ref p) H2) : rSetTn K [.ref l] H Q :=
  ⟨l, ns, rfl, h, hn, fun p hp => q p _ hp upd_same (Kp.new hp)⟩
theorem r_setTT {ks : List (Addr × List V)} (h : SqT K H l (ks.map fun p => V.ref p.1)) (h2 : ∀ p ∈ ks, SqT K H p.1 p.2 ∧ p.2.all flatV = true) (hn : ks.length < 64)
    (q : ∀ p H2, H p = none → H2 p = some (SetC p (dd (ks.map fun p => p.2.map lfV)).length) → Kp [] H H2 → Q (.ref p) H2) : rSetTT K [.ref l] H Q :=
  ⟨l, ks, rfl, h, h2, hn, fun p hp => q p _ hp upd_same (Kp.new hp)⟩
theorem r_lenN (h : H p = some (SetC p n)) (q : Q (.int (n : Nat)) H) : rLenN [.ref p] H Q := ⟨p, n, rfl, h, q⟩
end

/-! ### the tape and the draw -/
/-- a tape at t over the numbers at c -/
structure Tp (t c : Addr) (H : Hp) : Prop where
  ex : ∃ (ns : List Int) (k z : Int), H t = some (.lst [.ref c, .int k, .int z]) ∧ H c = some (.lst (ns.map V.int)) ∧ 0 ≤ k ∧ 0 ≤ z
theorem Tp.ne {t c : Addr} {H : Hp} (h : Tp t c H) : t ≠ c := by
  obtain ⟨ns, k, z, h1, h2, _⟩ := h.ex
  refine ne_of h1 h2 fun e => ?_
  cases ns with
  | nil => simp at e
  | cons n ns => simp at e
theorem Tp.mut {t c : Addr} {H : Hp} (h : Tp t c H) : Mut (H t) := by
  obtain ⟨ns, k, z, h1, h2, _⟩ := h.ex
  rw [h1]
  trivial
theorem Tp.it {t c : Addr} {H : Hp} (h : Tp t c H) : ∃ o, H t = some o := by
  obtain ⟨ns, k, z, h1, h2, _⟩ := h.ex
  exact ⟨_, h1⟩
theorem Tp.itc {t c : Addr} {H : Hp} (h : Tp t c H) : ∃ o, H c = some o := by
  obtain ⟨ns, k, z, h1, h2, _⟩ := h.ex
  exact ⟨_, h2⟩
theorem Tp.kp {t c : Addr} {S : List Addr} {H H' : Hp} (k : Kp S H H') (h : Tp t c H) (n1 : ¬ t ∈ S) (n2 : ¬ c ∈ S) : Tp t c H' := by
  obtain ⟨ns, j, z, h1, h2, h3⟩ := h.ex
  exact ⟨ns, j, z, k.get n1 h1, k.get n2 h2, h3⟩
theorem Tp.kp0 {t c : Addr} {H H' : Hp} (k : Kp [] H H') (h : Tp t c H) : Tp t c H' := h.kp k (fun z => nomatch z) (fun z => nomatch z)
/-- no draw is asked for more -/
def bigB : Int := 2 ^ 240
theorem bigB_ok {z m : Int} (h1 : 1 ≤ m) (h2 : m < bigB) : CDivW z m := by
  unfold bigB at h2
  exact wide_div (b := 240) (by omega) (by omega) (by decide) (by decide)
def spDraw : Sp := fun vs H Q _ => ∃ (t c : Addr) (m : Int), vs = [.ref t, .int m] ∧ Tp t c H ∧ 1 ≤ m ∧ m < bigB ∧ ∀ (d : Int) (H' : Hp), 0 ≤ d → d < m → Tp t c H' → Kp [t] H H' → Q (.int d) H'
theorem spDraw_i {t c : Addr} {m : Int} {H : Hp} {Q : VK} {E : XK} (h : Tp t c H) (h1 : 1 ≤ m) (h2 : m < bigB) (k : ∀ (d : Int) (H' : Hp), 0 ≤ d → d < m → Tp t c H' → Kp [t] H H' → Q (.int d) H') : spDraw [.ref t, .int m] H Q E :=
  ⟨t, c, m, rfl, h, h1, h2, k⟩
def spTape (K : PySem.W.Frag) : Sp := fun vs H Q _ => ∃ (a : Addr) (ns : List Int), vs = [.ref a] ∧ SqL K H a (ns.map V.int) ∧ ∀ (t c : Addr) (H' : Hp), H t = none → H c = none → Tp t c H' → Kp [] H H' → Q (.ref t) H'
theorem Tp.kp1 {t c p : Addr} {H H' : Hp} (k : Kp [p] H H') (h : Tp t c H) (n1 : t ≠ p) (n2 : c ≠ p) : Tp t c H' := h.kp k (fun z => n1 (by simpa using z)) (fun z => n2 (by simpa using z))
local macro_rules | `(tactic| walk_at "cg h") => `(tactic| (first
  | ((with_reducible show Tp _ _ _); exact Tp.kp0 (by assumption) (by walk_at "cg h"))
  | fail))
local macro_rules | `(tactic| walk_at "cg h") => `(tactic| (first
  | ((with_reducible show Tp _ _ _); exact Tp.kp1 (by assumption) (by walk_at "cg h") (by walk_at "cg ne") (by walk_at "cg ne"))
  | fail))
local macro_rules | `(tactic| walk_at "cg h") => `(tactic| assumption)
theorem Tp.nef {t c p : Addr} {H : Hp} (hp : H p = none) (h : Tp t c H) : p ≠ t := by
  obtain ⟨o, e⟩ := h.it
  exact (ne_of_none e hp).symm
theorem Tp.nefc {t c p : Addr} {H : Hp} (hp : H p = none) (h : Tp t c H) : p ≠ c := by
  obtain ⟨o, e⟩ := h.itc
  exact (ne_of_none e hp).symm
local macro_rules | `(tactic| walk_at "cg ne") => `(tactic| (first
  | exact Tp.nef (by assumption) (by walk_at "cg h") | exact (Tp.nef (by assumption) (by walk_at "cg h")).symm | exact Tp.nefc (by assumption) (by walk_at "cg h") | exact (Tp.nefc (by assumption) (by walk_at "cg h")).symm
  | fail))
theorem Tp.base {t c : Addr} {H : Hp} (T : Tp t c H) : Kp [t] H H := .base fun b hb => by
  rw [List.mem_singleton] at hb
  subst hb
  exact T.mut
local macro_rules | `(tactic| walk_at "cg kp") => `(tactic| (first
  | ((with_reducible show Kp [_] _ _); exact Tp.base (by assumption))
  | fail))
theorem Tp.free {t c p : Addr} {H0 H1 : Hp} (hp : H1 p = none) (k : Kp [t] H0 H1) (T : Tp t c H1) : H0 p = none := k.free hp fun b hb => by
  rw [List.mem_singleton] at hb
  subst hb
  exact T.it
local macro_rules | `(tactic| walk_at "cg fr") => `(tactic| (first
  | assumption
  | exact Tp.free (by assumption) (by walk_at "cg kp") (by walk_at "cg h")
  | fail))
local macro_rules | `(tactic| walk_at "cg dr") => `(tactic| ((with_reducible refine spDraw_i (c := ?c) ?h ?h1 ?h2 ?_); (case h => walk_at "cg h"); (case h1 => first | omega | decide); (case h2 => first | (with_reducible assumption) | decide)))
local macro_rules | `(tactic| walk_at "cg s") => `(tactic| (walk_at "cg dr"; intro _ _ _ _ _ _))

/-! ### relations and literals -/
inductive Rel where
  | le | ge | eq | ne
  deriving DecidableEq
def Rel.s : Rel → Str
  | .le => "<="
  | .ge => ">="
  | .eq => "="
  | .ne => "!="
def Rel.h : Rel → Int → Int → Bool
  | .le, a, b => decide (a ≤ b)
  | .ge, a, b => decide (b ≤ a)
  | .eq, a, b => decide (a = b)
  | .ne, a, b => decide (a ≠ b)
def Rel.neg : Rel → Rel
  | .le => .ge
  | .ge => .le
  | .eq => .ne
  | .ne => .eq
def Rel.nnum : Rel → Int → Int
  | .le, a => a + 1
  | .ge, a => a - 1
  | _, a => a
theorem Rel.neg_neg (r : Rel) : r.neg.neg = r := by cases r <;> rfl
theorem Rel.nnum_nnum (r : Rel) (a : Int) : r.neg.nnum (r.nnum a) = a := by
  cases r <;> simp [Rel.neg, Rel.nnum] <;> omega
theorem Rel.neg_h (r : Rel) (x a : Int) : r.neg.h x (r.nnum a) = !r.h x a := by
  cases r
  · simp only [Rel.neg, Rel.nnum, Rel.h]
    rw [Bool.eq_iff_iff]; simp; omega
  · simp only [Rel.neg, Rel.nnum, Rel.h]
    rw [Bool.eq_iff_iff]; simp; omega
  · simp [Rel.neg, Rel.nnum, Rel.h]
  · simp [Rel.neg, Rel.nnum, Rel.h]
theorem ix_rel3 {K : PySem.W.Frag} {p : Addr} {H : Hp} {Q : VK} {d : Int} (h : H p = some (.lst [.str (Str.ofString "<="), .str (Str.ofString ">="), .str (Str.ofString "=")])) (h0 : 0 ≤ d) (h1 : d < 3) (q : ∀ r : Rel, r ≠ .ne → Q (.str r.s) H) : rIxL K (.ref p) (.int d) H Q := by
  have e : d = 0 ∨ d = 1 ∨ d = 2 := by omega
  rcases e with rfl | rfl | rfl
  · exact r_ixL h rfl (q .le (by decide))
  · exact r_ixL h rfl (q .ge (by decide))
  · exact r_ixL h rfl (q .eq (by decide))
def spRel : Sp := fun vs H Q _ => ∃ (r : Rel) (a b : Int), vs = [.str r.s, .int a, .int b] ∧ Q (.bl (r.h a b)) H
theorem spRel_i (r : Rel) {a b : Int} {H : Hp} {Q : VK} {E : XK} (q : Q (.bl (r.h a b)) H) : spRel [.str r.s, .int a, .int b] H Q E := ⟨r, a, b, rfl, q⟩
/-- a literal stands at p -/
abbrev LitAt (K : PySem.W.Frag) (H : Hp) (p : Addr) (v : Int) (r : Rel) (a : Int) : Prop := SqT K H p [.int v, .str r.s, .int a]
def spLit (K : PySem.W.Frag) : Sp := fun vs H Q _ => ∃ (p : Addr) (v : Int) (r : Rel) (a x : Int), vs = [.ref p, .int x] ∧ LitAt K H p v r a ∧ Q (.bl (r.h x a)) H
def spNeg (K : PySem.W.Frag) : Sp := fun vs H Q _ => ∃ (p : Addr) (v : Int) (r : Rel) (a : Int), vs = [.ref p] ∧ LitAt K H p v r a ∧ ∀ (p' : Addr) (H' : Hp), LitAt K H' p' v r.neg (r.nnum a) → Kp [] H H' → Q (.ref p') H'
def spSame : Sp := fun vs H Q _ => ∃ (a b : Bool), vs = [.bl a, .bl b] ∧ Q (.bl (decide (a = b))) H
theorem ix_rel4 {K : PySem.W.Frag} {p : Addr} {H : Hp} {Q : VK} {d : Int} (h : H p = some (.lst [.str (Str.ofString "<="), .str (Str.ofString ">="), .str (Str.ofString "="), .str (Str.ofString "!=")])) (h0 : 0 ≤ d) (h1 : d < 4) (q : ∀ r : Rel, Q (.str r.s) H) : rIxL K (.ref p) (.int d) H Q := by
  have e : d = 0 ∨ d = 1 ∨ d = 2 ∨ d = 3 := by omega
  rcases e with rfl | rfl | rfl | rfl
  · exact r_ixL h rfl (q .le)
  · exact r_ixL h rfl (q .ge)
  · exact r_ixL h rfl (q .eq)
  · exact r_ixL h rfl (q .ne)
def litD (v : Int) (r : Rel) (a : Int) : PyData := .tuple [.int v, .str r.s, .int a]
theorem Rel.ok (r : Rel) : PyData.strOk r.s = true := by cases r <;> decide +kernel
theorem litD_shaped (v : Int) (r : Rel) (a : Int) : SeqAt.shaped (litD v r a) = true := by
  simp [litD, Rel.ok, SeqAt.shaped, PyData.canLay0, PyData.canLayAll0, PyData.depth, PyData.depthAll]
theorem litD_self (v : Int) (r : Rel) (a : Int) : PyData.eqv (litD v r a) (litD v r a) = true := by
  simp [litD, PyData.eqv, PyData.eqvAll]
theorem LitAt.dp {K : PySem.W.Frag} {H : Hp} {p : Addr} {v : Int} {r : Rel} {a : Int} (h : LitAt K H p v r a) : Dp K H (.ref p) (litD v r a) :=
  .tup h (.cons (.int _) (.cons (.str _) (.cons (.int _) .nil)))
local macro_rules | `(tactic| walk_at "cg s") => `(tactic| (with_reducible refine spRel_i _ ?_))
theorem spSame_i {a b : Bool} {H : Hp} {Q : VK} {E : XK} (q : Q (.bl (decide (a = b))) H) : spSame [.bl a, .bl b] H Q E := ⟨a, b, rfl, q⟩
local macro_rules | `(tactic| walk_at "cg s") => `(tactic| (with_reducible refine spSame_i ?_))
theorem spLit_i {K : PySem.W.Frag} {H : Hp} {Q : VK} {E : XK} {p : Addr} {v : Int} {r : Rel} {a x : Int} (h : LitAt K H p v r a) (q : Q (.bl (r.h x a)) H) : spLit K [.ref p, .int x] H Q E := ⟨p, v, r, a, x, rfl, h, q⟩
local macro_rules | `(tactic| walk_at "cg s") => `(tactic| ((with_reducible show spLit _ _ _ _ _); refine spLit_i (by walk_at "cg h") ?_))

/-! ### comprehensions and loops over data -/
theorem piTup {X : Cx} (K : PySem.W.Frag) {tg l : Expr} {tl : TE} (hl : PE X l tl) (h : X.K = K := by rfl) : PI X tg l (iTup K tl) := h ▸ pi_tup hl
theorem piLst {X : Cx} (K : PySem.W.Frag) {tg l : Expr} {tl : TE} (hl : PE X l tl) (h : X.K = K := by rfl) : PI X tg l (iList K tl) := h ▸ pi_list hl
theorem flat_ints (us : List Int) : (us.map V.int).all flatV = true := by
  rw [List.all_map]
  exact List.all_eq_true.mpr fun x _ => rfl
theorem inV_ints (v : Int) (us : List Int) : inV (.int v) (us.map V.int) = decide (v ∈ us) := by
  unfold inV
  rw [List.any_map]
  induction us with
  | nil => rfl
  | cons u us ih =>
    have e : ((fun y => eqV y (.int v)) ∘ V.int) u = decide (v = u) := by
      show (u == v) = decide (v = u)
      rw [Bool.eq_iff_iff, beq_iff_eq, decide_eq_true_eq]
      exact eq_comm
    rw [List.any_cons, ih, e, Bool.eq_iff_iff]
    simp only [Bool.or_eq_true, decide_eq_true_eq, List.mem_cons]
theorem blkOk_nf {N : List Str} {sc scope : Scope} {own : List (Str × Nat)} (h : blkC N { kind := .function, names := [], isGenerator := false, isCoroutine := false } scope own = true) : BlkOk N sc scope own := by
  have q := blkOk_by h
  exact ⟨q.1, q.2, q.3, fun y hy e => (by rcases q.4 y hy e with k | k <;> exact nomatch k), q.5⟩
theorem small1e4 {n : Nat} (h : n ≤ 10000) : n < sizeLine := by
  rw [sizeLine_eq]
  omega
theorem atI_nat {α : Type} {xs : List α} {i : Int} (h0 : 0 ≤ i) (h1 : i < xs.length) : atI xs i = xs[i.toNat]? := by
  simp [atI, ixN, h0, h1]
theorem atI_ints {ns : List Int} {i : Int} (h0 : 0 ≤ i) (h1 : i < ns.length) : atI (ns.map V.int) i = some (.int (ns.getD i.toNat 0)) := by
  have e : i.toNat < ns.length := by omega
  rw [atI_nat h0 (by rw [List.length_map]; exact h1)]
  simp [e]
theorem mapGetP {K : PySem.W.Frag} {H : Hp} {x : V} {α : Type} {f : α → PyData} {xs : List V} {as : List α} {i : Nat} (h : ImAll K H xs (as.map f)) (e : xs[i]? = some x) : ∃ a, as[i]? = some a ∧ Im K H x (f a) := by
  obtain ⟨d, h1, h2⟩ := h.get e
  rw [List.getElem?_map] at h1
  cases q : as[i]? with
  | none =>
    rw [q] at h1
    cases h1
  | some a =>
    rw [q] at h1
    cases h1
    exact ⟨a, rfl, h2⟩
theorem mapLenP {K : PySem.W.Frag} {H : Hp} {α : Type} {f : α → PyData} {xs : List V} {as : List α} (h : ImAll K H xs (as.map f)) : xs.length = as.length := by
  rw [h.length, List.length_map]
theorem atI_0 {α : Type} {x : α} {xs : List α} : atI (x :: xs) 0 = some x := by
  rw [atI_nat (by decide) (by simp <;> omega)]
  rfl
theorem atI_1 {α : Type} {x y : α} {xs : List α} : atI (x :: y :: xs) 1 = some y := by
  rw [atI_nat (by decide) (by simp <;> omega)]
  rfl
theorem fm_take {α β : Type} {as : List α} {f : α → Option β} {i : Nat} {a : α} (h : as[i]? = some a) : (as.take (i + 1)).filterMap f = (as.take i).filterMap f ++ (f a).toList := by
  rw [List.take_add_one, h, List.filterMap_append]
  congr 1
  all_goals (cases q : f a <;> simp [q])
theorem fm_some {α β : Type} (as : List α) (h : α → β) : as.filterMap (fun a => some (h a)) = as.map h := by
  induction as with
  | nil => rfl
  | cons a as ih =>
    show h a :: as.filterMap (fun a => some (h a)) = _
    rw [ih, List.map_cons]
theorem ImAll.bls {K : PySem.W.Frag} {H : Hp} : ∀ {xs : List V} {bs : List Bool}, ImAll K H xs (bs.map PyData.bool) → xs = bs.map V.bl
  | _, [], .nil => rfl
  | _, b :: bs, .cons h a => by rw [ImAll.bls a, h.flat rfl]; rfl
theorem ImAll.ints {K : PySem.W.Frag} {H : Hp} : ∀ {xs : List V} {bs : List Int}, ImAll K H xs (bs.map PyData.int) → xs = bs.map V.int
  | _, [], .nil => rfl
  | _, b :: bs, .cons h a => by rw [ImAll.ints a, h.flat rfl]; rfl
theorem imInts {K : PySem.W.Frag} {H : Hp} : ∀ (ns : List Int), ImAll K H (ns.map V.int) (ns.map PyData.int)
  | [] => .nil
  | n :: ns => .cons (.int n) (imInts ns)
def intsD (ns : List Int) : PyData := .tuple (ns.map PyData.int)
theorem Im.intsT {K : PySem.W.Frag} {H : Hp} {p : Addr} {ns : List Int} (h : Im K H (.ref p) (intsD ns)) : SqT K H p (ns.map V.int) := h.sq (flatDs_ints ns)
theorem intsT_im {K : PySem.W.Frag} {H : Hp} {p : Addr} {ns : List Int} (h : SqT K H p (ns.map V.int)) : Im K H (.ref p) (intsD ns) := Im.ints h
section
variable {σ σ0 : St} {H : Hp} {K : PySem.W.Frag} {p : Addr} {xs : List V} {g : TG} {tt : TT} {te : TE} {vs : List Nat} {Q : VK} {n : Nat} {lo : Int} {α : Type} {as : List α} {d : α → PyData} {t c : Addr}
/-- a turn of a comprehension, its answer free -/
abbrev lcTurn (g : TG) (tt : TT) (te : TE) (vs : List Nat) (σ σ0 : St) (x : V) (H' : Hp) (R : V → Hp → Prop) (R' : Hp → Prop) : Prop :=
  g x σ0 H' fun σ2 H2 => wpS σ2 σ vs (tt σ2 H2 fun b H3 => iteP b (te σ2 H3 R) (R' H3))
/-- over a tuple of data, with a test -/
theorem lcT_f [hw : Wip σ vs σ0] (s : SqT K H p xs) (ia : ImAll K H xs (as.map d)) (f : α → Option PyData) (small : as.length ≤ 10000)
    (hs : ∀ (i : Nat) (a : α) (x : V) (H' : Hp) (R : V → Hp → Prop) (R' : Hp → Prop), as[i]? = some a → Kp [] H H' → Im K H' x (d a) → (∀ y H4 e, f a = some e → Im K H4 y e → Kp [] H' H4 → R y H4) → (∀ H4, f a = none → Kp [] H' H4 → R' H4) →
      lcTurn g tt te vs σ σ0 x H' R R')
    (hd : ∀ D H' acc, H D = none → H' D = some (.lst acc) → ImAll K H' acc (as.filterMap f) → Kp [] H H' → Q (.ref D) H') : lcS (Itt K p) g tt te vs σ H Q := by
  have hxl := mapLenP ia
  refine r_lcT xs (fun D i H' => Kp [] H H' ∧ H D = none ∧ ∃ acc, H' D = some (.lst acc) ∧ ImAll K H' acc ((as.take i).filterMap f)) (fun D H2 hD e2 k2 => ⟨k2, hD, [], e2, .nil⟩) (fun D i H' h => h.1.tup s) ?_ ?_
  · rintro D i x H' hx ⟨k2, hD, acc, eD, hA⟩
    obtain ⟨a, ha, hxd⟩ := mapGetP (k2.imAll ia) hx
    have hi : i < as.length := (List.getElem?_eq_some_iff.mp ha).1
    have hal : acc.length ≤ i := by
      rw [hA.length]
      refine Nat.le_trans (List.length_filterMap_le _ _) ?_
      rw [List.length_take]
      omega
    refine hs i a x H' _ _ ha k2 hxd (fun y H4 e hf hy k4 => ?_) (fun H4 hf k4 => ?_)
    · refine r_ap (k4.get0 eD) (small1e4 (by omega)) fun H5 e5 k5 => ⟨Kp.trN k5 (Kp.tr0 k4 k2) hD, hD, _, e5, ?_⟩
      rw [fm_take ha, hf]
      exact (k5.imAll (k4.imAll hA)).snoc (k5.im hy)
    · refine ⟨Kp.tr0 k4 k2, hD, acc, k4.get0 eD, ?_⟩
      rw [fm_take ha, hf]
      simpa using k4.imAll hA
  · rintro D H' ⟨k2, hD, acc, eD, hA⟩
    rw [hxl, List.take_length] at hA
    exact hd D H' acc hD eD hA k2
/-- over a list of data, with a test -/
theorem lcL_f [hw : Wip σ vs σ0] (s : H p = some (.lst xs)) (ia : ImAll K H xs (as.map d)) (f : α → Option PyData) (small : as.length ≤ 10000)
    (hs : ∀ (i : Nat) (a : α) (x : V) (H' : Hp) (R : V → Hp → Prop) (R' : Hp → Prop), as[i]? = some a → Kp [] H H' → Im K H' x (d a) → (∀ y H4 e, f a = some e → Im K H4 y e → Kp [] H' H4 → R y H4) → (∀ H4, f a = none → Kp [] H' H4 → R' H4) →
      lcTurn g tt te vs σ σ0 x H' R R')
    (hd : ∀ D H' acc, H D = none → H' D = some (.lst acc) → ImAll K H' acc (as.filterMap f) → Kp [] H H' → Q (.ref D) H') : lcS (Itl K p) g tt te vs σ H Q := by
  have hxl := mapLenP ia
  refine r_lcL xs (fun D i H' => Kp [] H H' ∧ H D = none ∧ ∃ acc, H' D = some (.lst acc) ∧ ImAll K H' acc ((as.take i).filterMap f)) (fun D H2 hD e2 k2 => ⟨k2, hD, [], e2, .nil⟩) (fun D i H' h => h.1.get0 s) ?_ ?_
  · rintro D i x H' hx ⟨k2, hD, acc, eD, hA⟩
    obtain ⟨a, ha, hxd⟩ := mapGetP (k2.imAll ia) hx
    have hi : i < as.length := (List.getElem?_eq_some_iff.mp ha).1
    have hal : acc.length ≤ i := by
      rw [hA.length]
      refine Nat.le_trans (List.length_filterMap_le _ _) ?_
      rw [List.length_take]
      omega
    refine hs i a x H' _ _ ha k2 hxd (fun y H4 e hf hy k4 => ?_) (fun H4 hf k4 => ?_)
    · refine r_ap (k4.get0 eD) (small1e4 (by omega)) fun H5 e5 k5 => ⟨Kp.trN k5 (Kp.tr0 k4 k2) hD, hD, _, e5, ?_⟩
      rw [fm_take ha, hf]
      exact (k5.imAll (k4.imAll hA)).snoc (k5.im hy)
    · refine ⟨Kp.tr0 k4 k2, hD, acc, k4.get0 eD, ?_⟩
      rw [fm_take ha, hf]
      simpa using k4.imAll hA
  · rintro D H' ⟨k2, hD, acc, eD, hA⟩
    rw [hxl, List.take_length] at hA
    exact hd D H' acc hD eD hA k2
/-- over a range, with a test -/
theorem lcR_f [hw : Wip σ vs σ0] (f : Nat → Option PyData) (small : n ≤ 10000)
    (hs : ∀ (i : Nat) (H' : Hp) (R : V → Hp → Prop) (R' : Hp → Prop), i < n → Kp [] H H' → (∀ y H4 e, f i = some e → Im K H4 y e → Kp [] H' H4 → R y H4) → (∀ H4, f i = none → Kp [] H' H4 → R' H4) →
      lcTurn g tt te vs σ σ0 (.int (lo + (i : Int))) H' R R')
    (hd : ∀ D H' acc, H D = none → H' D = some (.lst acc) → ImAll K H' acc ((List.range n).filterMap f) → Kp [] H H' → Q (.ref D) H') : lcS (Itr lo n) g tt te vs σ H Q := by
  refine r_lcR (fun D i H' => Kp [] H H' ∧ H D = none ∧ ∃ acc, H' D = some (.lst acc) ∧ ImAll K H' acc ((List.range i).filterMap f)) (fun D H2 hD e2 k2 => ⟨k2, hD, [], e2, .nil⟩) ?_ ?_
  · rintro D i H' hi ⟨k2, hD, acc, eD, hA⟩
    have hal : acc.length ≤ i := by
      rw [hA.length]
      refine Nat.le_trans (List.length_filterMap_le _ _) ?_
      rw [List.length_range]
      exact Nat.le_refl _
    have e0 : (List.range (i + 1)).filterMap f = (List.range i).filterMap f ++ (f i).toList := by
      rw [List.range_succ, List.filterMap_append]
      congr 1
      all_goals (cases q : f i <;> simp [q])
    refine hs i H' _ _ hi k2 (fun y H4 e hf hy k4 => ?_) (fun H4 hf k4 => ?_)
    · refine r_ap (k4.get0 eD) (small1e4 (by omega)) fun H5 e5 k5 => ⟨Kp.trN k5 (Kp.tr0 k4 k2) hD, hD, _, e5, ?_⟩
      rw [e0, hf]
      exact (k5.imAll (k4.imAll hA)).snoc (k5.im hy)
    · refine ⟨Kp.tr0 k4 k2, hD, acc, k4.get0 eD, ?_⟩
      rw [e0, hf]
      simpa using k4.imAll hA
  · rintro D H' ⟨k2, hD, acc, eD, hA⟩
    exact hd D H' acc hD eD hA k2
/-- over a tuple of data: each item's answer -/
theorem lcT_m [hw : Wip σ vs σ0] (s : SqT K H p xs) (ia : ImAll K H xs (as.map d)) (f : α → PyData) (small : as.length ≤ 10000)
    (hs : ∀ (i : Nat) (a : α) (x : V) (H' : Hp) (R : V → Hp → Prop) (R' : Hp → Prop), as[i]? = some a → Kp [] H H' → Im K H' x (d a) → (∀ y H4, Im K H4 y (f a) → Kp [] H' H4 → R y H4) → lcTurn g tt te vs σ σ0 x H' R R')
    (hd : ∀ D H' acc, H D = none → H' D = some (.lst acc) → ImAll K H' acc (as.map f) → Kp [] H H' → Q (.ref D) H') : lcS (Itt K p) g tt te vs σ H Q :=
  lcT_f s ia (fun a => some (f a)) small (fun i a x H' R R' ha k hx h1 _ => hs i a x H' R R' ha k hx fun y H4 hy k4 => h1 y H4 _ rfl hy k4) fun D H' acc hD eD hA k => hd D H' acc hD eD (by rw [fm_some] at hA; exact hA) k
theorem lcL_m [hw : Wip σ vs σ0] (s : H p = some (.lst xs)) (ia : ImAll K H xs (as.map d)) (f : α → PyData) (small : as.length ≤ 10000)
    (hs : ∀ (i : Nat) (a : α) (x : V) (H' : Hp) (R : V → Hp → Prop) (R' : Hp → Prop), as[i]? = some a → Kp [] H H' → Im K H' x (d a) → (∀ y H4, Im K H4 y (f a) → Kp [] H' H4 → R y H4) → lcTurn g tt te vs σ σ0 x H' R R')
    (hd : ∀ D H' acc, H D = none → H' D = some (.lst acc) → ImAll K H' acc (as.map f) → Kp [] H H' → Q (.ref D) H') : lcS (Itl K p) g tt te vs σ H Q :=
  lcL_f s ia (fun a => some (f a)) small (fun i a x H' R R' ha k hx h1 _ => hs i a x H' R R' ha k hx fun y H4 hy k4 => h1 y H4 _ rfl hy k4) fun D H' acc hD eD hA k => hd D H' acc hD eD (by rw [fm_some] at hA; exact hA) k
theorem lcR_m [hw : Wip σ vs σ0] (f : Nat → PyData) (small : n ≤ 10000)
    (hs : ∀ (i : Nat) (H' : Hp) (R : V → Hp → Prop) (R' : Hp → Prop), i < n → Kp [] H H' → (∀ y H4, Im K H4 y (f i) → Kp [] H' H4 → R y H4) → lcTurn g tt te vs σ σ0 (.int (lo + (i : Int))) H' R R')
    (hd : ∀ D H' acc, H D = none → H' D = some (.lst acc) → ImAll K H' acc ((List.range n).map f) → Kp [] H H' → Q (.ref D) H') : lcS (Itr lo n) g tt te vs σ H Q :=
  lcR_f (fun i => some (f i)) small (fun i H' R R' hi k h1 _ => hs i H' R R' hi k fun y H4 hy k4 => h1 y H4 _ rfl hy k4) fun D H' acc hD eD hA k => hd D H' acc hD eD (by rw [fm_some] at hA; exact hA) k
/-- .. a truth value for each -/
theorem lcT_b [hw : Wip σ vs σ0] (s : SqT K H p xs) (ia : ImAll K H xs (as.map d)) (f : α → Bool) (small : as.length ≤ 10000)
    (hs : ∀ (i : Nat) (a : α) (x : V) (H' : Hp) (R : V → Hp → Prop) (R' : Hp → Prop), as[i]? = some a → Kp [] H H' → Im K H' x (d a) → (∀ H4, Kp [] H' H4 → R (.bl (f a)) H4) → lcTurn g tt te vs σ σ0 x H' R R')
    (hd : ∀ D H', H D = none → H' D = some (.lst ((as.map f).map V.bl)) → Kp [] H H' → Q (.ref D) H') : lcS (Itt K p) g tt te vs σ H Q :=
  lcT_m s ia (fun a => .bool (f a)) small (fun i a x H' R R' ha k hx h1 => hs i a x H' R R' ha k hx fun H4 k4 => h1 _ H4 (.bl _) k4) fun D H' acc hD eD hA k => hd D H' hD (by
    rw [eD]
    have q : as.map (fun a => PyData.bool (f a)) = (as.map f).map PyData.bool := by simp
    rw [q] at hA
    rw [hA.bls]) k
theorem lcL_b [hw : Wip σ vs σ0] (s : H p = some (.lst xs)) (ia : ImAll K H xs (as.map d)) (f : α → Bool) (small : as.length ≤ 10000)
    (hs : ∀ (i : Nat) (a : α) (x : V) (H' : Hp) (R : V → Hp → Prop) (R' : Hp → Prop), as[i]? = some a → Kp [] H H' → Im K H' x (d a) → (∀ H4, Kp [] H' H4 → R (.bl (f a)) H4) → lcTurn g tt te vs σ σ0 x H' R R')
    (hd : ∀ D H', H D = none → H' D = some (.lst ((as.map f).map V.bl)) → Kp [] H H' → Q (.ref D) H') : lcS (Itl K p) g tt te vs σ H Q :=
  lcL_m s ia (fun a => .bool (f a)) small (fun i a x H' R R' ha k hx h1 => hs i a x H' R R' ha k hx fun H4 k4 => h1 _ H4 (.bl _) k4) fun D H' acc hD eD hA k => hd D H' hD (by
    rw [eD]
    have q : as.map (fun a => PyData.bool (f a)) = (as.map f).map PyData.bool := by simp
    rw [q] at hA
    rw [hA.bls]) k
/-- .. an int for each -/
theorem lcT_i [hw : Wip σ vs σ0] (s : SqT K H p xs) (ia : ImAll K H xs (as.map d)) (f : α → Int) (small : as.length ≤ 10000)
    (hs : ∀ (i : Nat) (a : α) (x : V) (H' : Hp) (R : V → Hp → Prop) (R' : Hp → Prop), as[i]? = some a → Kp [] H H' → Im K H' x (d a) → (∀ H4, Kp [] H' H4 → R (.int (f a)) H4) → lcTurn g tt te vs σ σ0 x H' R R')
    (hd : ∀ D H', H D = none → H' D = some (.lst ((as.map f).map V.int)) → Kp [] H H' → Q (.ref D) H') : lcS (Itt K p) g tt te vs σ H Q :=
  lcT_m s ia (fun a => .int (f a)) small (fun i a x H' R R' ha k hx h1 => hs i a x H' R R' ha k hx fun H4 k4 => h1 _ H4 (.int _) k4) fun D H' acc hD eD hA k => hd D H' hD (by
    rw [eD]
    have q : as.map (fun a => PyData.int (f a)) = (as.map f).map PyData.int := by simp
    rw [q] at hA
    rw [hA.ints]) k
theorem lcL_i [hw : Wip σ vs σ0] (s : H p = some (.lst xs)) (ia : ImAll K H xs (as.map d)) (f : α → Int) (small : as.length ≤ 10000)
    (hs : ∀ (i : Nat) (a : α) (x : V) (H' : Hp) (R : V → Hp → Prop) (R' : Hp → Prop), as[i]? = some a → Kp [] H H' → Im K H' x (d a) → (∀ H4, Kp [] H' H4 → R (.int (f a)) H4) → lcTurn g tt te vs σ σ0 x H' R R')
    (hd : ∀ D H', H D = none → H' D = some (.lst ((as.map f).map V.int)) → Kp [] H H' → Q (.ref D) H') : lcS (Itl K p) g tt te vs σ H Q :=
  lcL_m s ia (fun a => .int (f a)) small (fun i a x H' R R' ha k hx h1 => hs i a x H' R R' ha k hx fun H4 k4 => h1 _ H4 (.int _) k4) fun D H' acc hD eD hA k => hd D H' hD (by
    rw [eD]
    have q : as.map (fun a => PyData.int (f a)) = (as.map f).map PyData.int := by simp
    rw [q] at hA
    rw [hA.ints]) k
/-- draws, one for each number of a range: what they have in common -/
theorem lcR_d [hw : Wip σ vs σ0] (d : α → PyData) (Pr : Nat → α → Prop) (T : Tp t c H) (small : n ≤ 10000)
    (hs : ∀ (i : Nat) (H' : Hp) (R : V → Hp → Prop) (R' : Hp → Prop), i < n → Tp t c H' → Kp [t] H H' → (∀ y H4 a, Pr i a → Im K H4 y (d a) → Tp t c H4 → Kp [t] H' H4 → R y H4) → lcTurn g tt te vs σ σ0 (.int (lo + (i : Int))) H' R R')
    (hd : ∀ D H' acc (as : List α), H D = none → H' D = some (.lst acc) → as.length = n → (∀ (i : Nat) a, as[i]? = some a → Pr i a) → ImAll K H' acc (as.map d) → Tp t c H' → Kp [t] H H' → Q (.ref D) H') : lcS (Itr lo n) g tt te vs σ H Q := by
  refine r_lcR (fun D i H' => Kp [t] H H' ∧ H D = none ∧ Tp t c H' ∧ ∃ (acc : List V) (as : List α), H' D = some (.lst acc) ∧ as.length = i ∧ (∀ (i : Nat) a, as[i]? = some a → Pr i a) ∧ ImAll K H' acc (as.map d))
    (fun D H2 hD e2 k2 => ⟨Kp.tr0 k2 (Tp.base T), hD, Tp.kp0 k2 T, [], [], e2, rfl, (fun i a h => by simp at h), .nil⟩) ?_ ?_
  · rintro D i H' hi ⟨k2, hD, T2, acc, as, eD, hl, hP, hA⟩
    have nt : D ≠ t := Tp.nef hD T
    have nc : D ≠ c := Tp.nefc hD T
    have hal : acc.length = i := by rw [hA.length, List.length_map, hl]
    refine hs i H' _ _ hi T2 k2 fun y H4 a ha hy T4 k4 => ?_
    refine r_ap (k4.get1 nt eD) (small1e4 (by omega)) fun H5 e5 k5 => ⟨Kp.trN k5 (Kp.tr1 k4 k2) hD, hD, Tp.kp1 k5 T4 nt.symm nc.symm, _, as ++ [a], e5, by simp [hl], fun j b hb => ?_, ?_⟩
    · rcases Nat.lt_or_ge j as.length with h | h
      · rw [List.getElem?_append_left h] at hb
        exact hP j b hb
      · rw [List.getElem?_append_right h] at hb
        have e0 : j - as.length = 0 := by
          have := (List.getElem?_eq_some_iff.mp hb).1
          simp at this
          omega
        rw [e0] at hb
        simp at hb
        subst hb
        rw [show j = i by omega]
        exact ha
    · rw [List.map_append]
      exact (k5.imAll (k4.imAll hA)).snoc (k5.im hy)
  · rintro D H' ⟨k2, hD, T2, acc, as, eD, hl, hP, hA⟩
    exact hd D H' acc as hD eD hl hP hA T2 k2
/-- .. one for each item of a tuple -/
theorem lcT_d {β : Type} {bs : List β} {e : β → PyData} [hw : Wip σ vs σ0] (s : SqT K H p xs) (ib : ImAll K H xs (bs.map e)) (d : α → PyData) (Pr : β → α → Prop) (T : Tp t c H) (small : bs.length ≤ 10000)
    (hs : ∀ (i : Nat) (b : β) (x : V) (H' : Hp) (R : V → Hp → Prop) (R' : Hp → Prop), bs[i]? = some b → Im K H' x (e b) → Tp t c H' → Kp [t] H H' → (∀ y H4 a, Pr b a → Im K H4 y (d a) → Tp t c H4 → Kp [t] H' H4 → R y H4) → lcTurn g tt te vs σ σ0 x H' R R')
    (hd : ∀ D H' acc (as : List α), H D = none → H' D = some (.lst acc) → as.length = bs.length → (∀ (i : Nat) a, as[i]? = some a → ∃ b, bs[i]? = some b ∧ Pr b a) → ImAll K H' acc (as.map d) → Tp t c H' → Kp [t] H H' → Q (.ref D) H') : lcS (Itt K p) g tt te vs σ H Q := by
  have hxl := mapLenP ib
  refine r_lcT xs (fun D i H' => Kp [t] H H' ∧ H D = none ∧ Tp t c H' ∧ ∃ (acc : List V) (as : List α), H' D = some (.lst acc) ∧ as.length = i ∧ (∀ (i : Nat) a, as[i]? = some a → ∃ b, bs[i]? = some b ∧ Pr b a) ∧ ImAll K H' acc (as.map d))
    (fun D H2 hD e2 k2 => ⟨Kp.tr0 k2 (Tp.base T), hD, Tp.kp0 k2 T, [], [], e2, rfl, (fun i a h => by simp at h), .nil⟩) (fun D i H' h => h.1.tup s) ?_ ?_
  · rintro D i x H' hx ⟨k2, hD, T2, acc, as, eD, hl, hP, hA⟩
    obtain ⟨b, hb, hxd⟩ := mapGetP (k2.imAll ib) hx
    have hi : i < bs.length := (List.getElem?_eq_some_iff.mp hb).1
    have nt : D ≠ t := Tp.nef hD T
    have nc : D ≠ c := Tp.nefc hD T
    have hal : acc.length = i := by rw [hA.length, List.length_map, hl]
    refine hs i b x H' _ _ hb hxd T2 k2 fun y H4 a ha hy T4 k4 => ?_
    refine r_ap (k4.get1 nt eD) (small1e4 (by omega)) fun H5 e5 k5 => ⟨Kp.trN k5 (Kp.tr1 k4 k2) hD, hD, Tp.kp1 k5 T4 nt.symm nc.symm, _, as ++ [a], e5, by simp [hl], fun j b' hb' => ?_, ?_⟩
    · rcases Nat.lt_or_ge j as.length with h | h
      · rw [List.getElem?_append_left h] at hb'
        exact hP j b' hb'
      · rw [List.getElem?_append_right h] at hb'
        have e0 : j - as.length = 0 := by
          have := (List.getElem?_eq_some_iff.mp hb').1
          simp at this
          omega
        rw [e0] at hb'
        simp at hb'
        subst hb'
        rw [show j = i by omega]
        exact ⟨b, hb, ha⟩
    · rw [List.map_append]
      exact (k5.imAll (k4.imAll hA)).snoc (k5.im hy)
  · rintro D H' ⟨k2, hD, T2, acc, as, eD, hl, hP, hA⟩
    exact hd D H' acc as hD eD (by rw [hl, hxl]) hP hA T2 k2
end
section
variable {σ : St} {H : Hp} {K : PySem.W.Frag} {p : Addr} {xs : List V} {g : TG} {tb : TS} {nx bk ct : St → Hp → Prop} {rt : VK} {α : Type} {as : List α} {d : α → PyData}
/-- a for over a tuple of data -/
theorem r_forTI (S : List Addr) (s : SqT K H p xs) (ia : ImAll K H xs (as.map d)) (Pv : Nat → St → Hp → Prop) (h0 : Pv 0 σ H) (hk : ∀ i σ' H', Pv i σ' H' → Kp S H H')
    (hs : ∀ (i : Nat) (a : α) (x : V) σ' H', as[i]? = some a → Im K H' x (d a) → Kp S H H' → Pv i σ' H' → g x σ' H' fun σ2 H2 => tb ⟨Pv (i + 1), rt, nx, Pv (i + 1)⟩ σ2 H2) (hd : ∀ σ' H', Kp S H H' → Pv as.length σ' H' → nx σ' H') : forS (Itt K p) g tb ⟨nx, rt, bk, ct⟩ σ H := by
  refine r_forT xs Pv h0 (fun i σ' H' h => (hk i σ' H' h).tup s) (fun i x σ' H' hx h => ?_) (fun σ' H' h => ?_)
  · obtain ⟨a, ha, hxd⟩ := mapGetP ((hk i σ' H' h).imAll ia) hx
    exact hs i a x σ' H' ha hxd (hk i σ' H' h) h
  · rw [mapLenP ia] at h
    exact hd σ' H' (hk _ σ' H' h) h
/-- a for over a list of data that stands -/
theorem r_forLD (S : List Addr) (s : H p = some (.lst xs)) (np : ¬ p ∈ S) (ia : ImAll K H xs (as.map d)) (Pv : Nat → St → Hp → Prop) (h0 : Pv 0 σ H) (hk : ∀ i σ' H', Pv i σ' H' → Kp S H H')
    (hs : ∀ (i : Nat) (a : α) (x : V) σ' H', as[i]? = some a → Im K H' x (d a) → Kp S H H' → Pv i σ' H' → g x σ' H' fun σ2 H2 => tb ⟨Pv (i + 1), rt, nx, Pv (i + 1)⟩ σ2 H2) (hd : ∀ σ' H', Kp S H H' → Pv as.length σ' H' → nx σ' H') : forS (Itl K p) g tb ⟨nx, rt, bk, ct⟩ σ H := by
  refine r_forL xs Pv h0 (fun i σ' H' h => (hk i σ' H' h).get np s) (fun i x σ' H' hx h => ?_) (fun σ' H' h => ?_)
  · obtain ⟨a, ha, hxd⟩ := mapGetP ((hk i σ' H' h).imAll ia) hx
    exact hs i a x σ' H' ha hxd (hk i σ' H' h) h
  · rw [mapLenP ia] at h
    exact hd σ' H' (hk _ σ' H' h) h
end
/-! ### sets of ints, sorted -/
section
variable {K : PySem.W.Frag} {w : World} {H : Hp} {Q : VK} {l S : Addr} {ns : List Int} {f : Int → Bool} {c : Nat}
theorem r_setS (h : H l = some (.lst (ns.map V.int))) (hn : ns.length ≤ 4000) (q : ∀ S H2 c, H S = none → H2 S = some (SetO w S (fun j => decide (j ∈ ns)) c) → c ≤ ns.length → Kp [] H H2 → Q (.ref S) H2) : rSetL K w [.ref l] H Q :=
  ⟨l, ns, rfl, SqL.of h, hn, fun p c hp hc _ => q p _ c hp upd_same hc (Kp.new hp)⟩
theorem r_setS2 (h : H l = some (.lst (ns.map V.int))) (hn : ns.length ≤ 4000) (q : ∀ S H2 c, H S = none → H2 S = some (SetO w S (fun j => decide (j ∈ ns)) c) → (∀ us : List Int, (∀ j ∈ ns, j ∈ us) → c ≤ us.length) → Kp [] H H2 → Q (.ref S) H2) : rSetL K w [.ref l] H Q :=
  ⟨l, ns, rfl, SqL.of h, hn, fun p c hp _ hc => q p _ c hp upd_same hc (Kp.new hp)⟩
theorem r_sortS (h : H S = some (SetO w S f c)) (hc : c < 64) (q : ∀ l (ns : List Int) H2, H l = none → H2 l = some (.lst (ns.map V.int)) → ns.Pairwise (· < ·) → (∀ j, j ∈ ns ↔ f j = true) → Kp [] H H2 → Q (.ref l) H2) : rSortedSet w [.ref S] H Q :=
  ⟨S, f, c, rfl, h, hc, fun ns l hp hm hn hl => q l ns _ hl upd_same hp (fun j => by rw [hm j]) (Kp.new hl)⟩
end
/-! ### more rows of tactics -/
theorem Kp.free1 {H0 H1 : Hp} {p : Addr} (h : H1 p = none) (f : Kp [] H0 H1) : H0 p = none := f.free0 h
local macro_rules | `(tactic| walk_at "cg fr") => `(tactic| (first
  | assumption
  | exact Kp.free1 (by assumption) (by walk_at "cg kp")
  | fail))
section
variable {K : PySem.W.Frag} {H : Hp} {Q : VK} {p : Addr} {xs : List V} {x : V} {neg : Bool}
theorem r_inTt (h : SqT K H p xs) (fx : flatV x = true) (fs : xs.all flatV = true) (e : (if neg then !inV x xs else inV x xs) = true) (q : Q (.bl true) H) : rIn K neg x (.ref p) H Q := r_inT h fx fs e q
theorem r_inTf (h : SqT K H p xs) (fx : flatV x = true) (fs : xs.all flatV = true) (e : (if neg then !inV x xs else inV x xs) = false) (q : Q (.bl false) H) : rIn K neg x (.ref p) H Q := r_inT h fx fs e q
theorem r_inLt (h : H p = some (.lst xs)) (fx : flatV x = true) (fs : xs.all flatV = true) (e : (if neg then !inV x xs else inV x xs) = true) (q : Q (.bl true) H) : rIn K neg x (.ref p) H Q := r_inL h fx fs e q
theorem r_inLf (h : H p = some (.lst xs)) (fx : flatV x = true) (fs : xs.all flatV = true) (e : (if neg then !inV x xs else inV x xs) = false) (q : Q (.bl false) H) : rIn K neg x (.ref p) H Q := r_inL h fx fs e q
end
local macro_rules | `(tactic| walk_at "cg s") => `(tactic| (first
  | ((with_reducible apply r_inTt); (focus (walk_at "cg h")); exact rfl; exact rfl; (focus (decide +kernel)))
  | ((with_reducible apply r_inTf); (focus (walk_at "cg h")); exact rfl; exact rfl; (focus (decide +kernel)))
  | ((with_reducible apply r_inLt); (focus (walk_at "cg h")); exact rfl; exact rfl; (focus (decide +kernel)))
  | ((with_reducible apply r_inLf); (focus (walk_at "cg h")); exact rfl; exact rfl; (focus (decide +kernel)))
  | fail))

/-! ### terms and rows -/
structure Shp (n : Nat) (d : PyData) : Prop where
  lay : d.canLay0 = true
  dep : d.depth ≤ n
theorem Shp.int {n : Nat} (i : Int) : Shp n (.int i) := ⟨rfl, Nat.zero_le _⟩
theorem Shp.bool {n : Nat} (b : Bool) : Shp n (.bool b) := ⟨rfl, Nat.zero_le _⟩
theorem Shp.none {n : Nat} : Shp n .none := ⟨rfl, Nat.zero_le _⟩
theorem Shp.str {n : Nat} {x : Str} (h : PyData.strOk x = true) : Shp n (.str x) := ⟨by simp only [PyData.canLay0]; exact h, Nat.zero_le _⟩
theorem shpAll {n : Nat} : ∀ {ds : List PyData}, (∀ d ∈ ds, Shp n d) → PyData.canLayAll0 ds = true ∧ PyData.depthAll ds ≤ n
  | [], _ => ⟨rfl, Nat.zero_le _⟩
  | d :: ds, h => by
    have h1 := h d List.mem_cons_self
    have h2 := shpAll (ds := ds) fun e he => h e (List.mem_cons_of_mem _ he)
    refine ⟨?_, ?_⟩
    · simp only [PyData.canLayAll0, h1.lay, h2.1, Bool.and_self]
    · simp only [PyData.depthAll]
      exact Nat.max_le.mpr ⟨h1.dep, h2.2⟩
theorem Shp.tup {n : Nat} {ds : List PyData} (h : ∀ d ∈ ds, Shp n d) : Shp (n + 1) (.tuple ds) := by
  have q := shpAll h
  exact ⟨by simp only [PyData.canLay0]; exact q.1, by simp only [PyData.depth]; omega⟩
theorem Shp.list {n : Nat} {ds : List PyData} (h : ∀ d ∈ ds, Shp n d) : Shp (n + 1) (.list ds) := by
  have q := shpAll h
  exact ⟨by simp only [PyData.canLay0]; exact q.1, by simp only [PyData.depth]; omega⟩
theorem Shp.mono {n m : Nat} {d : PyData} (h : Shp n d) (l : n ≤ m) : Shp m d := ⟨h.lay, Nat.le_trans h.dep l⟩
theorem Shp.ok {n : Nat} {d : PyData} (h : Shp n d) (l : n ≤ 64 := by decide) : SeqAt.shaped d = true := by
  unfold SeqAt.shaped
  rw [h.lay, decide_eq_true (Nat.le_trans h.dep l)]
  rfl
theorem Shp.self {n : Nat} {d : PyData} (h : Shp n d) : PyData.eqv d d = true := PySem.SeqAt.eqv_refl d h.lay
theorem shp_nil {n : Nat} : ∀ d ∈ ([] : List PyData), Shp n d := fun _ h => by cases h
theorem shp_cons {n : Nat} {d : PyData} {ds : List PyData} (h : Shp n d) (h' : ∀ e ∈ ds, Shp n e) : ∀ e ∈ d :: ds, Shp n e := fun e he => by
  rcases List.mem_cons.mp he with rfl | he
  · exact h
  · exact h' e he
abbrev Tms := List (Int × Int)
def tD (z : Int × Int) : PyData := .tuple [.int z.1, .int z.2]
def tmD (ts : Tms) : PyData := .tuple (ts.map tD)
def negT (ts : Tms) : Tms := ts.map fun z => (z.1, -z.2)
/-- a point: what each unknown is worth -/
abbrev Pt := Int → Int
def sumF (ts : Tms) (f : Pt) : Int := (ts.map fun z => z.2 * f z.1).sum
theorem tD_shp (z : Int × Int) : Shp 1 (tD z) := .tup (shp_cons (.int _) (shp_cons (.int _) shp_nil))
theorem tmD_shp (ts : Tms) : Shp 2 (tmD ts) := .tup fun d hd => by
  obtain ⟨z, _, rfl⟩ := List.mem_map.mp hd
  exact tD_shp z
theorem sumF_neg (ts : Tms) (f : Pt) : sumF (negT ts) f = -sumF ts f := by
  induction ts with
  | nil => rfl
  | cons z ts ih =>
    have e1 : sumF (negT (z :: ts)) f = (-z.2) * f z.1 + sumF (negT ts) f := by simp [sumF, negT]
    have e2 : sumF (z :: ts) f = z.2 * f z.1 + sumF ts f := by simp [sumF]
    rw [e1, e2, ih, Int.neg_mul]
    omega
theorem sumF_snoc (ts : Tms) (z : Int × Int) (f : Pt) : sumF (ts ++ [z]) f = sumF ts f + z.2 * f z.1 := by
  simp [sumF]
theorem sumF_take {ts : Tms} {z : Int × Int} {i : Nat} (f : Pt) (h : ts[i]? = some z) : sumF (ts.take (i + 1)) f = sumF (ts.take i) f + z.2 * f z.1 := by
  rw [List.take_add_one, h]
  exact sumF_snoc _ _ _
theorem sumF_congr {ts : Tms} {f g : Pt} (h : ∀ z ∈ ts, f z.1 = g z.1) : sumF ts f = sumF ts g := by
  unfold sumF
  congr 1
  exact List.map_congr_left fun z hz => by rw [h z hz]
theorem map_take_snoc {α β : Type} {l : List α} {f : α → β} {i : Nat} {x : α} (h : l[i]? = some x) : (l.take (i + 1)).map f = (l.take i).map f ++ [f x] := by
  rw [List.take_add_one, h]
  simp
theorem term_at {K : PySem.W.Frag} {H : Hp} {x : V} {z : Int × Int} (h : Im K H x (tD z)) : ∃ q, x = .ref q ∧ SqT K H q [.int z.1, .int z.2] := by
  obtain ⟨q, rfl⟩ := Im.isRef h
  exact ⟨q, rfl, Im.sq h rfl⟩
/-! ### points -/
/-- at q a point is to be read: f v at each v of dom -/
def PtAt (K : PySem.W.Frag) (H : Hp) (q : Addr) (f : Pt) (dom : Int → Prop) : Prop := ∀ v, dom v → (∃ xs, SqT K H q xs ∧ atI xs v = some (.int (f v))) ∨ (∃ xs, H q = some (.lst xs) ∧ atI xs v = some (.int (f v))) ∨ ∃ kvs, H q = some (.dK kvs) ∧ valV kvs (Sum.inl v) = some (.int (f v))
/-- a dict with numbers as keys, read by [..] -/
def rIxDK : R2 := fun x y H Q => ∃ a kvs k v, x = .ref a ∧ y = .int k ∧ H a = some (.dK kvs) ∧ valV kvs (Sum.inl k) = some v ∧ Q v H
open PySem.Spec PyProof.Rows in
theorem ix_dK {X : Cx} : IxR X rIxDK := by
  intro value slice pins s σ H x y v u Q I rx ry h hs
  obtain ⟨a, kvs, k, z, rfl, rfl, hq, he, q⟩ := h
  obtain rfl : v = Value.ref a := rx
  obtain ⟨z1, hd, vs, rel, dd⟩ := dk_of I.hok hq
  obtain ⟨w', hw, rw'⟩ := RelO.some_of (v := z) (o := valueAt vs (Sum.inl k)) (by rw [← he]; exact rel.val _)
  exact tail_any dd.typeIs PySem.F.slot_dict_getitem.lookup (wpAny_getItem_of (kV_is (k := Sum.inl k) ry) dd.mapOf hw ⟨z, H, I.tok _, rw', q⟩) hs
def rPt (K : PySem.W.Frag) : R2 := fun x y H Q => rIxT K x y H Q ∨ (rIxL K x y H Q ∨ rIxDK x y H Q)
theorem ixP {X : Cx} (K : PySem.W.Frag) (h : X.K = K := by rfl) : IxR X (rPt K) := h ▸ ix_tup.or (ix_list.or ix_dK)
def at_ (pt : List Int) : Pt := fun v => pt.getD v.toNat 0
section
variable {K : PySem.W.Frag} {H H' : Hp} {q : Addr} {f : Pt} {dom dom' : Int → Prop} {v : Int} {Q : VK} {pt : List Int} {S : List Addr}
theorem r_pt (h : PtAt K H q f dom) (hv : dom v) (k : Q (.int (f v)) H) : rPt K (.ref q) (.int v) H Q := by
  rcases h v hv with ⟨xs, h1, h2⟩ | ⟨xs, h1, h2⟩ | ⟨kvs, h1, h2⟩
  · exact .inl ⟨q, xs, v, _, rfl, rfl, h1, h2, k⟩
  · exact .inr (.inl ⟨q, xs, v, _, rfl, rfl, SqL.of h1, h2, k⟩)
  · exact .inr (.inr ⟨q, kvs, v, _, rfl, rfl, h1, h2, k⟩)
theorem PtAt.kp (k : Kp S H H') (h : PtAt K H q f dom) (n : ¬ q ∈ S) : PtAt K H' q f dom := fun v hv => by
  rcases h v hv with ⟨xs, h1, h2⟩ | ⟨xs, h1, h2⟩ | ⟨kvs, h1, h2⟩
  · exact .inl ⟨xs, k.tup h1, h2⟩
  · exact .inr (.inl ⟨xs, k.get n h1, h2⟩)
  · exact .inr (.inr ⟨kvs, k.get n h1, h2⟩)
theorem PtAt.kp0 (k : Kp [] H H') (h : PtAt K H q f dom) : PtAt K H' q f dom := h.kp k fun z => nomatch z
theorem PtAt.ofT (h : SqT K H q (pt.map V.int)) : PtAt K H q (at_ pt) fun v => 0 ≤ v ∧ v < pt.length := fun v hv => .inl ⟨_, h, atI_ints hv.1 hv.2⟩
theorem PtAt.ofL (h : H q = some (.lst (pt.map V.int))) : PtAt K H q (at_ pt) fun v => 0 ≤ v ∧ v < pt.length := fun v hv => .inr (.inl ⟨_, h, atI_ints hv.1 hv.2⟩)
theorem PtAt.mono (h : PtAt K H q f dom) (l : ∀ v, dom' v → dom v) : PtAt K H q f dom' := fun v hv => h v (l v hv)
end
def tmBd (ts : Tms) : Prop := ∀ z ∈ ts, -2000000000000000000 < z.2 ∧ z.2 < 2000000000000000000
def spSumF (K : PySem.W.Frag) : Sp := fun vs H Q _ => ∃ (p q : Addr) (ts : Tms) (f : Pt) (dom : Int → Prop), vs = [.ref p, .ref q] ∧ Im K H (.ref p) (tmD ts) ∧ PtAt K H q f dom ∧ (∀ z ∈ ts, dom z.1) ∧ tmBd ts ∧ Q (.int (sumF ts f)) H
theorem spSumF_i {K : PySem.W.Frag} {H : Hp} {Q : VK} {E : XK} {p q : Addr} {ts : Tms} {f : Pt} {dom : Int → Prop} (h1 : Im K H (.ref p) (tmD ts)) (h2 : PtAt K H q f dom) (h3 : ∀ z ∈ ts, dom z.1) (h4 : tmBd ts) (k : Q (.int (sumF ts f)) H) : spSumF K [.ref p, .ref q] H Q E :=
  ⟨p, q, ts, f, dom, rfl, h1, h2, h3, h4, k⟩
def spNegT (K : PySem.W.Frag) : Sp := fun vs H Q _ => ∃ (p : Addr) (ts : Tms), vs = [.ref p] ∧ Im K H (.ref p) (tmD ts) ∧ ts.length ≤ 1000 ∧ ∀ (p' : Addr) (H' : Hp), Im K H' (.ref p') (tmD (negT ts)) → Kp [] H H' → Q (.ref p') H'
local macro_rules | `(tactic| walk_at "cg h") => `(tactic| (first
  | ((with_reducible show PtAt _ _ _ _ _); exact PtAt.kp0 (by assumption) (by walk_at "cg h"))
  | fail))
local macro_rules | `(tactic| walk_at "cg h") => `(tactic| assumption)

/-! ### data: when equal -/
mutual
/-- no bool, no dict, no list within -/
def nb : PyData → Bool
  | .none => true
  | .int _ => true
  | .str _ => true
  | .tuple xs => nbAll xs
  | _ => false
def nbAll : List PyData → Bool
  | [] => true
  | x :: xs => nb x && nbAll xs
end
mutual
theorem eqv_nb : ∀ (d e : PyData), nb d = true → nb e = true → PyData.eqv d e = true → d = e
  | .none, .none, _, _, _ => rfl
  | .int i, .int j, _, _, h => by
    have h' : (i == j) = true := by simpa only [PyData.eqv] using h
    rw [beq_iff_eq.mp h']
  | .str i, .str j, _, _, h => by
    have h' : (i == j) = true := by simpa only [PyData.eqv] using h
    rw [beq_iff_eq.mp h']
  | .tuple xs, .tuple ys, h1, h2, h => by
    rw [eqvAll_nb xs ys (by simpa only [nb] using h1) (by simpa only [nb] using h2) (by simpa only [PyData.eqv] using h)]
  | .none, .int _, _, _, h => by simp [PyData.eqv] at h
  | .none, .str _, _, _, h => by simp [PyData.eqv] at h
  | .none, .tuple _, _, _, h => by simp [PyData.eqv] at h
  | .int _, .none, _, _, h => by simp [PyData.eqv] at h
  | .int _, .str _, _, _, h => by simp [PyData.eqv] at h
  | .int _, .tuple _, _, _, h => by simp [PyData.eqv] at h
  | .str _, .none, _, _, h => by simp [PyData.eqv] at h
  | .str _, .int _, _, _, h => by simp [PyData.eqv] at h
  | .str _, .tuple _, _, _, h => by simp [PyData.eqv] at h
  | .tuple _, .none, _, _, h => by simp [PyData.eqv] at h
  | .tuple _, .int _, _, _, h => by simp [PyData.eqv] at h
  | .tuple _, .str _, _, _, h => by simp [PyData.eqv] at h
  | .bool _, _, h, _, _ => by simp [nb] at h
  | .list _, _, h, _, _ => by simp [nb] at h
  | .dict _, _, h, _, _ => by simp [nb] at h
  | _, .bool _, _, h, _ => by simp [nb] at h
  | _, .list _, _, h, _ => by simp [nb] at h
  | _, .dict _, _, h, _ => by simp [nb] at h
theorem eqvAll_nb : ∀ (ds es : List PyData), nbAll ds = true → nbAll es = true → PyData.eqvAll ds es = true → ds = es
  | [], [], _, _, _ => rfl
  | [], _ :: _, _, _, h => by simp [PyData.eqvAll] at h
  | _ :: _, [], _, _, h => by simp [PyData.eqvAll] at h
  | d :: ds, e :: es, h1, h2, h => by
    simp only [nbAll, Bool.and_eq_true] at h1 h2
    simp only [PyData.eqvAll, Bool.and_eq_true] at h
    rw [eqv_nb d e h1.1 h2.1 h.1, eqvAll_nb ds es h1.2 h2.2 h.2]
end
theorem nbAll_of {ds : List PyData} (h : ∀ d ∈ ds, nb d = true) : nbAll ds = true := by
  induction ds with
  | nil => rfl
  | cons d ds ih => simp only [nbAll, h d List.mem_cons_self, ih fun e he => h e (List.mem_cons_of_mem _ he), Bool.and_self]
/-- an encoding whose values are equal exactly if the data are -/
theorem eqv_dec {α : Type} [DecidableEq α] {f : α → PyData} (hf : ∀ a b, f a = f b → a = b) (hn : ∀ a, nb (f a) = true) (hs : ∀ a, (f a).canLay0 = true) (a b : α) : PyData.eqv (f a) (f b) = decide (a = b) := by
  by_cases h : a = b
  · subst h
    rw [PySem.SeqAt.eqv_refl _ (hs a), decide_eq_true rfl]
  · rw [decide_eq_false h]
    cases q : PyData.eqv (f a) (f b) with
    | false => rfl
    | true => exact absurd (hf a b (eqv_nb _ _ (hn a) (hn b) q)) h
theorem map_inj {α β : Type} {f : α → β} (hf : ∀ a b, f a = f b → a = b) : ∀ {xs ys : List α}, xs.map f = ys.map f → xs = ys
  | [], [], _ => rfl
  | [], _ :: _, h => by simp at h
  | _ :: _, [], h => by simp at h
  | x :: xs, y :: ys, h => by
    simp only [List.map_cons, List.cons.injEq] at h
    rw [hf x y h.1, map_inj hf h.2]
theorem tD_inj (a b : Int × Int) (h : tD a = tD b) : a = b := by
  simp only [tD, PyData.tuple.injEq, List.cons.injEq, PyData.int.injEq, and_true] at h
  exact Prod.ext h.1 h.2
theorem tmD_inj (a b : Tms) (h : tmD a = tmD b) : a = b := by
  simp only [tmD, PyData.tuple.injEq] at h
  exact map_inj tD_inj h
theorem tmD_nb (a : Tms) : nb (tmD a) = true := by
  simp only [tmD, nb]
  exact nbAll_of fun d hd => by
    obtain ⟨z, _, rfl⟩ := List.mem_map.mp hd
    rfl
theorem tmD_eqv (a b : Tms) : PyData.eqv (tmD a) (tmD b) = decide (a = b) := eqv_dec tmD_inj tmD_nb (fun a => (tmD_shp a).lay) a b
/-! ### literals and facts -/
structure Lit where
  v : Int
  r : Rel
  a : Int
  deriving DecidableEq
def Lit.d (l : Lit) : PyData := litD l.v l.r l.a
theorem Rel.s_inj (a b : Rel) (h : a.s = b.s) : a = b := by
  have e : (decide (a = b) || !decide (a.s = b.s)) = true := by
    cases a <;> cases b <;> decide +kernel
  rw [h, decide_eq_true rfl, Bool.not_true, Bool.or_false] at e
  exact of_decide_eq_true e
theorem Lit.d_inj (a b : Lit) (h : a.d = b.d) : a = b := by
  simp only [Lit.d, litD, PyData.tuple.injEq, List.cons.injEq, PyData.int.injEq, PyData.str.injEq, and_true] at h
  obtain ⟨h1, h2, h3⟩ := h
  cases a
  cases b
  simp only at h1 h2 h3
  rw [h1, Rel.s_inj _ _ h2, h3]
theorem Lit.shp (l : Lit) : Shp 1 l.d := .tup (shp_cons (.int _) (shp_cons (.str (Rel.ok _)) (shp_cons (.int _) shp_nil)))
theorem Lit.d_nb (l : Lit) : nb l.d = true := rfl
theorem Lit.eqv (a b : Lit) : PyData.eqv a.d b.d = decide (a = b) := eqv_dec Lit.d_inj Lit.d_nb (fun a => (Lit.shp a).lay) a b
def litsD (ls : List Lit) : PyData := .tuple (ls.map Lit.d)
theorem litsD_shp (ls : List Lit) : Shp 2 (litsD ls) := .tup fun d hd => by
  obtain ⟨z, _, rfl⟩ := List.mem_map.mp hd
  exact Lit.shp z
def Lit.h (l : Lit) (f : Pt) : Bool := l.r.h (f l.v) l.a
theorem lit_mk {K : PySem.W.Frag} {H : Hp} {p : Addr} {v a : Int} {r : Rel} (h : LitAt K H p v r a) : Im K H (.ref p) (Lit.d ⟨v, r, a⟩) := .tup h (.cons (.int _) (.cons (.str _) (.cons (.int _) .nil)))
theorem lit_at {K : PySem.W.Frag} {H : Hp} {x : V} {l : Lit} (h : Im K H x l.d) : ∃ q, x = .ref q ∧ LitAt K H q l.v l.r l.a := by
  obtain ⟨q, rfl⟩ := Im.isRef h
  exact ⟨q, rfl, Im.sq h rfl⟩
theorem room65 {k : Nat} {A : Around} (r : Room k A) : A.units + 65 < cLine := by have := r.un; omega
/-! ### x in a tuple of data -/
section
variable {X : Cx}
def rInDT (K : PySem.W.Frag) : R2 := fun x y H Q => ∃ d ds, Dp K H x d ∧ Dp K H y (.tuple ds) ∧ SeqAt.shaped d = true ∧ SeqAt.shaped (.tuple ds) = true ∧ Q (.bl (ds.any fun z => PyData.eqv z d)) H
theorem cg_inDT (hu : X.A.units + 65 < cLine) : OpR X (compareOp .In) (rInDT X.K) := by
  intro pins s σ H x y v u Q I rx ry h
  obtain ⟨d, ds, hd, he, sd, se, q⟩ := h
  obtain ⟨as, r1⟩ := Dp.reads I d x v hd rx
  obtain ⟨bs, r2⟩ := Dp.reads I (.tuple ds) y u he ry
  exact SeqAt.in_tuple_reads r2 r1 (by have q := SeqAt.canLay_of_shaped se; simpa only [PyData.canLay0] using q) (SeqAt.canLay_of_shaped sd) (PyProof.Rows.room_in_shaped sd hu) ⟨.bl _, H, I, rfl, q⟩
theorem inDT (K : PySem.W.Frag) {k : Nat} {A : Around} (r : Room k A) (h : X.K = K := by rfl) (ha : X.A = A := by rfl) : OpR X (compareOp .In) (rInDT K) := h ▸ cg_inDT (by rw [ha]; exact room65 r)
end
theorem intsD_inj (a b : List Int) (h : intsD a = intsD b) : a = b := by
  simp only [intsD, PyData.tuple.injEq] at h
  exact map_inj (fun x y e => by simpa using e) h
theorem intsD_nb (a : List Int) : nb (intsD a) = true := by
  simp only [intsD, nb]
  exact nbAll_of fun d hd => by
    obtain ⟨z, _, rfl⟩ := List.mem_map.mp hd
    rfl
theorem intsD_shp (a : List Int) : Shp 1 (intsD a) := .tup fun d hd => by
  obtain ⟨z, _, rfl⟩ := List.mem_map.mp hd
  exact .int z
theorem intsD_eqv (a b : List Int) : PyData.eqv (intsD a) (intsD b) = decide (a = b) := eqv_dec intsD_inj intsD_nb (fun a => (intsD_shp a).lay) a b
theorem any_in {α : Type} [DecidableEq α] {d : α → PyData} (hd : ∀ a b, PyData.eqv (d a) (d b) = decide (a = b)) (as : List α) (a : α) : ((as.map d).any fun z => PyData.eqv z (d a)) = decide (a ∈ as) := by
  rw [List.any_map]
  have e : ((fun z => PyData.eqv z (d a)) ∘ d) = fun b => decide (b = a) := by
    funext b
    exact hd b a
  rw [e, Bool.eq_iff_iff]
  simp


/-! ### bodies -/
inductive Body where
  | row (ts : Tms) (r : Rel) (n : Int)
  | any (ls : List Lit)
  | when (l : Lit) (ts : Tms) (r : Rel) (n : Int)
  | diff (us : List Int)
  | table (us : List Int) (rows : List (List Int))
  | elem (x : Int) (es : List Int) (y : Int)
  | times (x y z : Int)
  deriving DecidableEq
def rowsD (rows : List (List Int)) : PyData := .tuple (rows.map intsD)
def Body.d : Body → PyData
  | .row ts r n => .tuple [.str (Str.ofString "row"), tmD ts, .str r.s, .int n]
  | .any ls => .tuple [.str (Str.ofString "any"), litsD ls]
  | .when l ts r n => .tuple [.str (Str.ofString "when"), l.d, tmD ts, .str r.s, .int n]
  | .diff us => .tuple [.str (Str.ofString "different"), intsD us]
  | .table us rows => .tuple [.str (Str.ofString "table"), intsD us, rowsD rows]
  | .elem x es y => .tuple [.str (Str.ofString "element"), .int x, intsD es, .int y]
  | .times x y z => .tuple [.str (Str.ofString "times"), .int x, .int y, .int z]
def Body.vars : Body → List Int
  | .row ts _ _ => ts.map (·.1)
  | .any ls => ls.map (·.v)
  | .when l ts _ _ => l.v :: ts.map (·.1)
  | .diff us => us
  | .table us _ => us
  | .elem x _ y => [x, y]
  | .times x y z => [x, y, z]
def Body.h (f : Pt) : Body → Bool
  | .row ts r n => r.h (sumF ts f) n
  | .any ls => ls.any fun l => l.h f
  | .when l ts r n => !l.h f || r.h (sumF ts f) n
  | .diff us => decide (us.map f).Nodup
  | .table us rows => decide (us.map f ∈ rows)
  | .elem x es y => decide (0 ≤ f x) && (decide (f x < es.length) && decide (es.getD (f x).toNat 0 = f y))
  | .times x y z => decide (f x * f y = f z)
/-- sizes for the walk -/
def Body.bd : Body → Prop
  | .row ts _ _ => tmBd ts ∧ ts.length ≤ 62
  | .any ls => ls.length ≤ 62
  | .when _ ts _ _ => tmBd ts ∧ ts.length ≤ 62
  | .diff us => us.length ≤ 62
  | .table us rows => us.length ≤ 62 ∧ rows.length ≤ 1000
  | .elem _ es _ => es.length ≤ 1000
  | .times _ _ _ => True
theorem any_congr' {α : Type} {as : List α} {f g : α → Bool} (h : ∀ a ∈ as, f a = g a) : as.any f = as.any g := by
  induction as with
  | nil => rfl
  | cons a as ih => rw [List.any_cons, List.any_cons, h a List.mem_cons_self, ih fun b hb => h b (List.mem_cons_of_mem _ hb)]
theorem Body.bd_vars {b : Body} (h : b.bd) : b.vars.length ≤ 63 := by
  cases b <;> simp only [Body.bd, Body.vars, List.length_map, List.length_cons, List.length_nil] at h ⊢ <;> omega
theorem Body.h_congr {b : Body} {f g : Pt} (h : ∀ v ∈ b.vars, f v = g v) : b.h f = b.h g := by
  have m : ∀ us : List Int, (∀ v ∈ us, f v = g v) → us.map f = us.map g := fun us h => List.map_congr_left h
  have s : ∀ ts : Tms, (∀ v ∈ ts.map (·.1), f v = g v) → sumF ts f = sumF ts g := fun ts h => sumF_congr fun z hz => h _ (List.mem_map.mpr ⟨z, hz, rfl⟩)
  cases b with
  | row ts r n => simp only [Body.h, s ts h]
  | any ls =>
    simp only [Body.h]
    refine any_congr' fun l hl => ?_
    simp only [Lit.h, h l.v (List.mem_map.mpr ⟨l, hl, rfl⟩)]
  | when l ts r n =>
    simp only [Body.h, Lit.h, h l.v List.mem_cons_self, s ts fun v hv => h v (List.mem_cons_of_mem _ hv)]
  | diff us => simp only [Body.h, m us h]
  | table us rows => simp only [Body.h, m us h]
  | elem x es y => simp only [Body.h, h x (by simp [Body.vars]), h y (by simp [Body.vars])]
  | times x y z => simp only [Body.h, h x (by simp [Body.vars]), h y (by simp [Body.vars]), h z (by simp [Body.vars])]
theorem rowsD_shp (rows : List (List Int)) : Shp 2 (rowsD rows) := .tup fun d hd => by
  obtain ⟨z, _, rfl⟩ := List.mem_map.mp hd
  exact intsD_shp z
theorem Body.shp (b : Body) : Shp 3 b.d := by
  have t1 : ∀ ts, Shp 2 (tmD ts) := tmD_shp
  cases b with
  | row ts r n => exact .tup (shp_cons (.str (by decide +kernel)) (shp_cons (tmD_shp ts) (shp_cons (.str (Rel.ok r)) (shp_cons (.int _) shp_nil))))
  | any ls => exact .tup (shp_cons (.str (by decide +kernel)) (shp_cons (litsD_shp ls) shp_nil))
  | when l ts r n => exact .tup (shp_cons (.str (by decide +kernel)) (shp_cons ((Lit.shp l).mono (by decide)) (shp_cons (tmD_shp ts) (shp_cons (.str (Rel.ok r)) (shp_cons (.int _) shp_nil)))))
  | diff us => exact .tup (shp_cons (.str (by decide +kernel)) (shp_cons ((intsD_shp us).mono (by decide)) shp_nil))
  | table us rows => exact .tup (shp_cons (.str (by decide +kernel)) (shp_cons ((intsD_shp us).mono (by decide)) (shp_cons (rowsD_shp rows) shp_nil)))
  | elem x es y => exact .tup (shp_cons (.str (by decide +kernel)) (shp_cons (.int _) (shp_cons ((intsD_shp es).mono (by decide)) (shp_cons (.int _) shp_nil))))
  | times x y z => exact .tup (shp_cons (.str (by decide +kernel)) (shp_cons (.int _) (shp_cons (.int _) (shp_cons (.int _) shp_nil))))
abbrev BodyAt (K : PySem.W.Frag) (H : Hp) (p : Addr) (b : Body) : Prop := Im K H (.ref p) b.d
theorem ImAll.c {K : PySem.W.Frag} {H : Hp} {xs : List V} {d : PyData} {ds : List PyData} (h : ImAll K H xs (d :: ds)) : ∃ x ys, xs = x :: ys ∧ Im K H x d ∧ ImAll K H ys ds := by
  cases h with
  | cons h a => exact ⟨_, _, rfl, h, a⟩
theorem ImAll.n {K : PySem.W.Frag} {H : Hp} {xs : List V} (h : ImAll K H xs []) : xs = [] := by
  cases h
  rfl
section
variable {K : PySem.W.Frag} {H : Hp} {p : Addr} {ts : Tms} {n x y z : Int} {ls : List Lit} {l : Lit} {r : Rel} {us es : List Int} {rows : List (List Int)}
theorem b_row (h : BodyAt K H p (.row ts r n)) : ∃ q, SqT K H p [.str (Str.ofString "row"), .ref q, .str r.s, .int n] ∧ Im K H (.ref q) (tmD ts) := by
  obtain ⟨_, h1, h2⟩ := Im.open h
  obtain ⟨_, _, rfl, a1, h2⟩ := h2.c
  obtain ⟨_, _, rfl, a2, h2⟩ := h2.c
  obtain ⟨_, _, rfl, a3, h2⟩ := h2.c
  obtain ⟨_, _, rfl, a4, h2⟩ := h2.c
  obtain rfl := h2.n
  obtain ⟨q, rfl⟩ := a2.isRef
  cases a1; cases a3; cases a4
  exact ⟨q, h1, a2⟩
theorem b_any (h : BodyAt K H p (.any ls)) : ∃ q, SqT K H p [.str (Str.ofString "any"), .ref q] ∧ Im K H (.ref q) (litsD ls) := by
  obtain ⟨_, h1, h2⟩ := Im.open h
  obtain ⟨_, _, rfl, a1, h2⟩ := h2.c
  obtain ⟨_, _, rfl, a2, h2⟩ := h2.c
  obtain rfl := h2.n
  obtain ⟨q, rfl⟩ := a2.isRef
  cases a1
  exact ⟨q, h1, a2⟩
theorem b_when (h : BodyAt K H p (.when l ts r n)) : ∃ q1 q, SqT K H p [.str (Str.ofString "when"), .ref q1, .ref q, .str r.s, .int n] ∧ LitAt K H q1 l.v l.r l.a ∧ Im K H (.ref q) (tmD ts) := by
  obtain ⟨_, h1, h2⟩ := Im.open h
  obtain ⟨_, _, rfl, a1, h2⟩ := h2.c
  obtain ⟨_, _, rfl, a0, h2⟩ := h2.c
  obtain ⟨_, _, rfl, a2, h2⟩ := h2.c
  obtain ⟨_, _, rfl, a3, h2⟩ := h2.c
  obtain ⟨_, _, rfl, a4, h2⟩ := h2.c
  obtain rfl := h2.n
  obtain ⟨q, rfl⟩ := a2.isRef
  obtain ⟨q1, rfl, L⟩ := lit_at a0
  cases a1; cases a3; cases a4
  exact ⟨q1, q, h1, L, a2⟩
theorem b_diff (h : BodyAt K H p (.diff us)) : ∃ q, SqT K H p [.str (Str.ofString "different"), .ref q] ∧ SqT K H q (us.map V.int) := by
  obtain ⟨_, h1, h2⟩ := Im.open h
  obtain ⟨_, _, rfl, a1, h2⟩ := h2.c
  obtain ⟨_, _, rfl, a2, h2⟩ := h2.c
  obtain rfl := h2.n
  obtain ⟨q, rfl⟩ := a2.isRef
  cases a1
  exact ⟨q, h1, a2.intsT⟩
theorem b_table (h : BodyAt K H p (.table us rows)) : ∃ q q2, SqT K H p [.str (Str.ofString "table"), .ref q, .ref q2] ∧ SqT K H q (us.map V.int) ∧ Im K H (.ref q2) (rowsD rows) := by
  obtain ⟨_, h1, h2⟩ := Im.open h
  obtain ⟨_, _, rfl, a1, h2⟩ := h2.c
  obtain ⟨_, _, rfl, a2, h2⟩ := h2.c
  obtain ⟨_, _, rfl, a3, h2⟩ := h2.c
  obtain rfl := h2.n
  obtain ⟨q, rfl⟩ := a2.isRef
  obtain ⟨q2, rfl⟩ := a3.isRef
  cases a1
  exact ⟨q, q2, h1, a2.intsT, a3⟩
theorem b_elem (h : BodyAt K H p (.elem x es y)) : ∃ q, SqT K H p [.str (Str.ofString "element"), .int x, .ref q, .int y] ∧ SqT K H q (es.map V.int) := by
  obtain ⟨_, h1, h2⟩ := Im.open h
  obtain ⟨_, _, rfl, a1, h2⟩ := h2.c
  obtain ⟨_, _, rfl, a3, h2⟩ := h2.c
  obtain ⟨_, _, rfl, a2, h2⟩ := h2.c
  obtain ⟨_, _, rfl, a4, h2⟩ := h2.c
  obtain rfl := h2.n
  obtain ⟨q, rfl⟩ := a2.isRef
  cases a1; cases a3; cases a4
  exact ⟨q, h1, a2.intsT⟩
theorem b_times (h : BodyAt K H p (.times x y z)) : SqT K H p [.str (Str.ofString "times"), .int x, .int y, .int z] := Im.sq h rfl
end
/-- a list of ints built by hand at l -/
def spUnkn (K : PySem.W.Frag) : Sp := fun vs H Q _ => ∃ (p : Addr) (b : Body), vs = [.ref p] ∧ BodyAt K H p b ∧ b.bd ∧ ∀ (l : Addr) (ns : List Int) (H' : Hp), H l = none → H' l = some (.lst (ns.map V.int)) → ns.Pairwise (· < ·) → (∀ k, k ∈ ns ↔ k ∈ b.vars) → Kp [] H H' → Q (.ref l) H'
def ptBd (f : Pt) (dom : Int → Prop) : Prop := ∀ v, dom v → -1000000000000 < f v ∧ f v < 1000000000000
def spHolds (K : PySem.W.Frag) : Sp := fun vs H Q _ => ∃ (p q : Addr) (b : Body) (f : Pt) (dom : Int → Prop), vs = [.ref p, .ref q] ∧ BodyAt K H p b ∧ b.bd ∧ PtAt K H q f dom ∧ ptBd f dom ∧ (∀ v ∈ b.vars, dom v) ∧ ∀ H', Kp [] H H' → Q (.bl (b.h f)) H'
def rCatL (K : PySem.W.Frag) : R2 := fun x y H Q => ∃ l b xs zs, x = .ref l ∧ y = .ref b ∧ H l = some (.lst xs) ∧ H b = some (.lst zs) ∧ xs.length + zs.length ≤ 10000 ∧ ∀ p H2, H p = none → H2 p = some (.lst (xs ++ zs)) → Kp [] H H2 → Q (.ref p) H2
theorem op_catL {X : Cx} (K : PySem.W.Frag) : OpR X (binaryOp .Add) (rCatL K) := fun pins s σ H x y v u Q I rx ry ⟨l, b, xs, zs, e1, e2, h1, h2, hz, q⟩ =>
  op_cat pins s σ H x y v u Q I rx ry ⟨l, b, xs, zs, e1, e2, h1, h2, by rw [sizeLine_eq]; omega, fun p hp => q p _ hp upd_same (Kp.new hp)⟩
theorem r_cat {K : PySem.W.Frag} {H : Hp} {Q : VK} {l b : Addr} {xs zs : List V} (h1 : H l = some (.lst xs)) (h2 : H b = some (.lst zs)) (hz : xs.length + zs.length ≤ 10000) (q : ∀ p H2, H p = none → H2 p = some (.lst (xs ++ zs)) → Kp [] H H2 → Q (.ref p) H2) : rCatL K (.ref l) (.ref b) H Q :=
  ⟨l, b, xs, zs, rfl, rfl, h1, h2, hz, q⟩

/-! ### the numbers of a range that are in a list -/
theorem sorted_ext : ∀ {xs ys : List Int}, xs.Pairwise (· < ·) → ys.Pairwise (· < ·) → (∀ k, k ∈ xs ↔ k ∈ ys) → xs = ys
  | [], [], _, _, _ => rfl
  | [], y :: ys, _, _, h => by simpa using (h y).2 List.mem_cons_self
  | x :: xs, [], _, _, h => by simpa using (h x).1 List.mem_cons_self
  | x :: xs, y :: ys, h1, h2, h => by
    rw [List.pairwise_cons] at h1 h2
    have e : x = y := by
      rcases List.mem_cons.mp ((h x).1 List.mem_cons_self) with q | q
      · exact q
      · rcases List.mem_cons.mp ((h y).2 List.mem_cons_self) with q2 | q2
        · exact q2.symm
        · have a := h1.1 _ q2
          have b := h2.1 _ q
          omega
    subst e
    rw [sorted_ext h1.2 h2.2 fun k => ?_]
    constructor
    · intro hk
      rcases List.mem_cons.mp ((h k).1 (List.mem_cons_of_mem _ hk)) with q | q
      · subst q
        exact absurd (h1.1 _ hk) (Int.lt_irrefl _)
      · exact q
    · intro hk
      rcases List.mem_cons.mp ((h k).2 (List.mem_cons_of_mem _ hk)) with q | q
      · subst q
        exact absurd (h2.1 _ hk) (Int.lt_irrefl _)
      · exact q
def numsOf (us : List Int) (i : Nat) : List Int := ((List.range i).map Int.ofNat).filter fun v => decide (v ∈ us)
theorem numsOf_succ (us : List Int) (i : Nat) : numsOf us (i + 1) = numsOf us i ++ (if decide (((i : Nat) : Int) ∈ us) = true then [((i : Nat) : Int)] else []) := by
  unfold numsOf
  rw [List.range_succ, List.map_append, List.filter_append]
  congr 1
  simp only [List.map_cons, List.map_nil, List.filter_cons, List.filter_nil]
  rfl
theorem numsOf_le (us : List Int) (i : Nat) : (numsOf us i).length ≤ i := by
  have q := List.length_filter_le (fun v => decide (v ∈ us)) ((List.range i).map Int.ofNat)
  rw [List.length_map, List.length_range] at q
  exact q
theorem numsOf_mem {us : List Int} {i : Nat} {k : Int} : k ∈ numsOf us i ↔ (0 ≤ k ∧ k < i) ∧ k ∈ us := by
  unfold numsOf
  rw [List.mem_filter, List.mem_map]
  simp only [decide_eq_true_eq, List.mem_range]
  constructor
  · rintro ⟨⟨j, hj, rfl⟩, h⟩
    exact ⟨⟨Int.natCast_nonneg j, by show (j : Int) < i; omega⟩, h⟩
  · rintro ⟨⟨h0, h1⟩, h⟩
    exact ⟨⟨k.toNat, by omega, by show ((k.toNat : Nat) : Int) = k; omega⟩, h⟩
theorem numsOf_asc (us : List Int) (i : Nat) : (numsOf us i).Pairwise (· < ·) := by
  refine List.Pairwise.filter _ ?_
  rw [List.pairwise_map]
  exact List.pairwise_lt_range.imp fun {a b} h => by show (a : Int) < b; omega
theorem intsL_dp {K : PySem.W.Frag} {H : Hp} {l : Addr} {ns : List Int} (h : H l = some (.lst (ns.map V.int))) : Dp K H (.ref l) (.list (ns.map PyData.int)) := .lst (SqL.of h) (imInts ns).dp
theorem intsL_shp (ns : List Int) : Shp 1 (.list (ns.map PyData.int)) := .list fun d hd => by
  obtain ⟨z, _, rfl⟩ := List.mem_map.mp hd
  exact .int z

/-! ### bodies that fit; the law's own -/
def litFit (m : Int) (l : Lit) : Prop := 0 ≤ l.v ∧ l.v < m ∧ -1001 ≤ l.a ∧ l.a ≤ 1001
def tmFit (m : Int) (ts : Tms) : Prop := ts.length ≤ 60 ∧ (ts.map (·.1)).Pairwise (· < ·) ∧ ∀ z ∈ ts, 0 ≤ z.1 ∧ z.1 < m ∧ z.2 ≠ 0 ∧ -1000000 ≤ z.2 ∧ z.2 ≤ 1000000
def numFit (m : Int) (us : List Int) : Prop := us.Nodup ∧ ∀ u ∈ us, 0 ≤ u ∧ u < m
def entFit (es : List Int) : Prop := ∀ e ∈ es, -1000 ≤ e ∧ e ≤ 1000
def linFit (m : Int) (ts : Tms) (r : Rel) (n : Int) : Prop := tmFit m ts ∧ r ≠ .ne ∧ -1000000000 ≤ n ∧ n ≤ 1000000000
def Body.fit (m : Int) : Body → Prop
  | .row ts r n => linFit m ts r n
  | .any ls => (1 ≤ ls.length ∧ ls.length ≤ 40) ∧ ls.Nodup ∧ ∀ l ∈ ls, litFit m l
  | .when l ts r n => litFit m l ∧ linFit m ts r n
  | .diff us => (2 ≤ us.length ∧ us.length ≤ 20) ∧ numFit m us
  | .table us rows => ((1 ≤ us.length ∧ us.length ≤ 6) ∧ numFit m us) ∧ (1 ≤ rows.length ∧ rows.length ≤ 200) ∧ ∀ r ∈ rows, r.length = us.length ∧ entFit r
  | .elem x es y => ((0 ≤ x ∧ x < m) ∧ (0 ≤ y ∧ y < m)) ∧ (1 ≤ es.length ∧ es.length ≤ 60) ∧ entFit es
  | .times x y z => (0 ≤ x ∧ x < m) ∧ (0 ≤ y ∧ y < m) ∧ (0 ≤ z ∧ z < m)
theorem tmFit.bd {m : Int} {ts : Tms} (h : tmFit m ts) : tmBd ts := fun z hz => by
  have q := h.2.2 z hz
  omega
theorem Body.fit_bd {m : Int} {b : Body} (h : b.fit m) : b.bd := by
  cases b with
  | row ts r n => exact ⟨h.1.bd, by have := h.1.1; omega⟩
  | any ls => exact (show ls.length ≤ 62 by have := h.1.2; omega)
  | when l ts r n => exact ⟨h.2.1.bd, by have := h.2.1.1; omega⟩
  | diff us => exact (show us.length ≤ 62 by have := h.1.2; omega)
  | table us rows => exact ⟨by have := h.1.1.2; omega, by have := h.2.1.2; omega⟩
  | elem x es y => exact (show es.length ≤ 1000 by have := h.2.1.2; omega)
  | times x y z => trivial
theorem Body.fit_vars {m : Int} {b : Body} (h : b.fit m) : ∀ v ∈ b.vars, 0 ≤ v ∧ v < m := by
  have t : ∀ ts, tmFit m ts → ∀ v ∈ ts.map (fun z : Int × Int => z.1), 0 ≤ v ∧ v < m := fun ts h v hv => by
    obtain ⟨z, hz, rfl⟩ := List.mem_map.mp hv
    have q := h.2.2 z hz
    exact ⟨q.1, q.2.1⟩
  cases b with
  | row ts r n => exact t ts h.1
  | any ls =>
    intro v hv
    obtain ⟨l, hl, rfl⟩ := List.mem_map.mp hv
    have q := h.2.2 l hl
    exact ⟨q.1, q.2.1⟩
  | when l ts r n =>
    intro v hv
    rcases List.mem_cons.mp hv with rfl | hv
    · exact ⟨h.1.1, h.1.2.1⟩
    · exact t ts h.2.1 v hv
  | diff us => exact h.2.2
  | table us rows => exact h.1.2.2
  | elem x es y =>
    intro v hv
    simp only [Body.vars, List.mem_cons, List.not_mem_nil, or_false] at hv
    rcases hv with rfl | rfl
    · exact h.1.1
    · exact h.1.2
  | times x y z =>
    intro v hv
    simp only [Body.vars, List.mem_cons, List.not_mem_nil, or_false] at hv
    rcases hv with rfl | rfl | rfl
    · exact h.1
    · exact h.2.1
    · exact h.2.2
/-- the law's terms: small -/
def tmLaw (m : Int) (ts : Tms) : Prop := (∀ z ∈ ts, 0 ≤ z.1 ∧ z.1 < m ∧ z.2 ≠ 0 ∧ -3 ≤ z.2 ∧ z.2 ≤ 3) ∧ (ts.map (·.1)).Pairwise (· < ·) ∧ (ts.length : Int) ≤ m
theorem tmLaw.fit {m : Int} {ts : Tms} (h : tmLaw m ts) (hm : m ≤ 60) : tmFit m ts := ⟨by have := h.2.2; omega, h.2.1, fun z hz => by have q := h.1 z hz; omega⟩
def spLawTerms (K : PySem.W.Frag) : Sp := fun vs H Q _ => ∃ (t c : Addr) (m : Int), vs = [.ref t, .int m] ∧ Tp t c H ∧ 0 ≤ m ∧ m ≤ 60 ∧ ∀ (p : Addr) (ts : Tms) (H' : Hp), Im K H' (.ref p) (tmD ts) → tmLaw m ts → Tp t c H' → Kp [t] H H' → Q (.ref p) H'
def spLawLiteral (K : PySem.W.Frag) : Sp := fun vs H Q _ => ∃ (t c : Addr) (m : Int), vs = [.ref t, .int m] ∧ Tp t c H ∧ 1 ≤ m ∧ m ≤ 60 ∧ ∀ (p : Addr) (l : Lit) (H' : Hp), LitAt K H' p l.v l.r l.a → litFit m l → Tp t c H' → Kp [t] H H' → Q (.ref p) H'
def spLawSome (K : PySem.W.Frag) : Sp := fun vs H Q _ => ∃ (t c : Addr) (m k : Int), vs = [.ref t, .int m, .int k] ∧ Tp t c H ∧ 0 ≤ k ∧ k ≤ m ∧ m ≤ 60 ∧ ∀ (p : Addr) (us : List Int) (H' : Hp), SqT K H' p (us.map V.int) → numFit m us → k ≤ us.length → (us.length : Int) ≤ m → Tp t c H' → Kp [t] H H' → Q (.ref p) H'
def spLawBody (K : PySem.W.Frag) : Sp := fun vs H Q _ => ∃ (t c : Addr) (m : Int), vs = [.ref t, .int m] ∧ Tp t c H ∧ 1 ≤ m ∧ m ≤ 20 ∧ ∀ (p : Addr) (b : Body) (H' : Hp), BodyAt K H' p b → b.fit m → Tp t c H' → Kp [t] H H' → Q (.ref p) H'
theorem notInDL {X : Cx} (K : PySem.W.Frag) {k : Nat} {A : Around} (r : Room k A) (h : X.K = K := by rfl) (ha : X.A = A := by rfl) : OpR X (compareOp .NotIn) (rNotInD K) := h ▸ op_notInD (by rw [ha]; exact room65 r)
theorem inDL {X : Cx} (K : PySem.W.Frag) {k : Nat} {A : Around} (r : Room k A) (h : X.K = K := by rfl) (ha : X.A = A := by rfl) : OpR X (compareOp .In) (rInD K) := h ▸ op_inD (by rw [ha]; exact room65 r)
theorem slA {X : Cx} (K : PySem.W.Frag) (h : X.K = K := by rfl) : SlR X (rSlA K) := h ▸ sl_tupA
theorem cut_to {xs : List V} {n : Nat} : cutV xs none (some (n : Int)) = xs.take n := by
  unfold cutV
  rw [HT.sIx_nat, HT.sIx_none, List.drop_zero, Nat.sub_zero]
  by_cases h : n ≤ xs.length
  · rw [Nat.min_eq_left h]
  · rw [Nat.min_eq_right (by omega), List.take_of_length_le (Nat.le_refl _), List.take_of_length_le (by omega)]
/-- t[:n] -/
theorem r_slA {K : PySem.W.Frag} {H : Hp} {Q : VK} {p : Addr} {xs : List V} {n : Nat} (h : SqT K H p xs) (q : ∀ l H2, SqT K H2 l (xs.take n) → Kp [] H H2 → Q (.ref l) H2) : rSlA K (.ref p) none (some (n : Int)) H Q := by
  refine ⟨p, xs, rfl, h, fun e => ?_, fun _ l hl => ?_⟩
  · have e2 := e.2
    rw [HT.sIx_nat] at e2
    refine q p H ?_ .refl
    rw [List.take_of_length_le (by omega)]
    exact h
  · rw [cut_to]
    exact q l _ (SqT.of upd_same) (Kp.new hl)
/-- the ints of a range -/
def rgI (a b : Int) : List Int := (List.range (b - a).toNat).map fun i => a + ((i : Nat) : Int)
theorem rgV_eq (a b : Int) : rgV a b = (rgI a b).map V.int := by
  unfold rgV rgI
  rw [List.map_map]
  rfl
theorem rgI_mem {a b k : Int} : k ∈ rgI a b ↔ a ≤ k ∧ k < b := by
  unfold rgI
  rw [List.mem_map]
  constructor
  · rintro ⟨i, hi, rfl⟩
    rw [List.mem_range] at hi
    omega
  · intro h
    exact ⟨(k - a).toNat, by rw [List.mem_range]; omega, by omega⟩
theorem rgI_asc (a b : Int) : (rgI a b).Pairwise (· < ·) := by
  unfold rgI
  rw [List.pairwise_map]
  exact List.pairwise_lt_range.imp fun {a b} h => by omega
theorem rgI_len (a b : Int) : (rgI a b).length = (b - a).toNat := by
  unfold rgI
  rw [List.length_map, List.length_range]
def lstRg (a b : Int) (H : Hp) (Q : VK) : Prop := RgOk a b ∧ ∀ q, H q = none → Q (.ref q) (upd H q (.lst (rgV a b)))
instance s_lstRg {te : St → Hp → (Int → Int → Hp → Prop) → Prop} {σ : St} {H : Hp} {Q : VK} : Stp (tLstRg te σ H Q) (te σ H fun a b H1 => lstRg a b H1 Q) := ⟨id⟩
instance s_rg1 {ta : TE} {σ : St} {H : Hp} {R : Int → Int → Hp → Prop} : Stp (tRg1 ta σ H R) (ta σ H fun x H1 => asI x fun n => R 0 n H1) := ⟨id⟩
def asI2 (x y : V) (R : Int → Int → Prop) : Prop := ∃ i j, x = .int i ∧ y = .int j ∧ R i j
instance s_asI2 {i j : Int} {R : Int → Int → Prop} : Stp (asI2 (.int i) (.int j) R) (R i j) := ⟨fun h => ⟨i, j, rfl, rfl, h⟩⟩
instance s_rg2 {ta tb : TE} {σ : St} {H : Hp} {R : Int → Int → Hp → Prop} : Stp (tRg2 ta tb σ H R) (ta σ H fun x H1 => tb σ H1 fun y H2 => asI2 x y fun i j => R i j H2) := ⟨id⟩
theorem r_lstRg {a b : Int} {H : Hp} {Q : VK} (h0 : -1000000 ≤ a ∧ a ≤ 1000000) (h1 : -1000000 ≤ b ∧ b ≤ 1000000) (q : ∀ l H2, H l = none → H2 l = some (.lst ((rgI a b).map V.int)) → Kp [] H H2 → Q (.ref l) H2) : lstRg a b H Q :=
  ⟨⟨by omega, by omega, by omega, by omega, by omega⟩, fun l hl => q l _ hl (by rw [← rgV_eq]; exact upd_same) (Kp.new hl)⟩
theorem erase_map {α β : Type} (f : α → β) : ∀ (xs : List α) (k : Nat), (xs.map f).eraseIdx k = (xs.eraseIdx k).map f
  | [], _ => rfl
  | _ :: _, 0 => rfl
  | x :: xs, k + 1 => by
    show f x :: (xs.map f).eraseIdx k = f x :: (xs.eraseIdx k).map f
    rw [erase_map f xs k]
theorem erase_perm {α : Type} : ∀ (xs : List α) (k : Nat) (y : α), xs[k]? = some y → (y :: xs.eraseIdx k).Perm xs
  | [], _, _, h => by simp at h
  | x :: xs, 0, y, h => by
    simp at h
    subst h
    exact .refl _
  | x :: xs, k + 1, y, h => by
    rw [List.getElem?_cons_succ] at h
    exact (List.Perm.swap x y (xs.eraseIdx k)).trans ((erase_perm xs k y h).cons x)
theorem some_step {base fs rs : List Int} {k : Nat} {y : Int} (h : (fs ++ rs).Perm base) (e : rs[k]? = some y) : ((fs ++ [y]) ++ rs.eraseIdx k).Perm base := by
  refine List.Perm.trans ?_ h
  rw [List.append_assoc]
  exact (erase_perm rs k y e).append_left fs

/-! ### whether a body fits -/
instance {m : Int} {l : Lit} : Decidable (litFit m l) := by unfold litFit; infer_instance
instance {es : List Int} : Decidable (entFit es) := by unfold entFit; infer_instance

def fitQ (P : Prop) (H : Hp) (Q : VK) : Prop := ∀ (r : Bool) (H' : Hp), (r = true ↔ P) → Kp [] H H' → Q (.bl r) H'
def spTmFit (K : PySem.W.Frag) : Sp := fun vs H Q _ => ∃ (p : Addr) (m : Int) (ts : Tms), vs = [.ref p, .int m] ∧ Im K H (.ref p) (tmD ts) ∧ fitQ (tmFit m ts) H Q
def spLitFit (K : PySem.W.Frag) : Sp := fun vs H Q _ => ∃ (p : Addr) (m : Int) (l : Lit), vs = [.ref p, .int m] ∧ LitAt K H p l.v l.r l.a ∧ fitQ (litFit m l) H Q
def spLinFit (K : PySem.W.Frag) : Sp := fun vs H Q _ => ∃ (p : Addr) (m n : Int) (ts : Tms) (r : Rel), vs = [.ref p, .str r.s, .int n, .int m] ∧ Im K H (.ref p) (tmD ts) ∧ fitQ (linFit m ts r n) H Q
def spDistinct (K : PySem.W.Frag) : Sp := fun vs H Q _ => ∃ (p : Addr) (m lo hi : Int) (us : List Int), vs = [.ref p, .int lo, .int hi, .int m] ∧ SqT K H p (us.map V.int) ∧ hi ≤ 60 ∧ us.length ≤ 4000 ∧ fitQ ((lo ≤ us.length ∧ us.length ≤ hi) ∧ numFit m us) H Q
def spEntries (K : PySem.W.Frag) : Sp := fun vs H Q _ => ∃ (p : Addr) (es : List Int), vs = [.ref p] ∧ SqT K H p (es.map V.int) ∧ es.length ≤ 4000 ∧ fitQ (entFit es) H Q
def spAnyFits (K : PySem.W.Frag) : Sp := fun vs H Q _ => ∃ (p : Addr) (m : Int) (ls : List Lit), vs = [.ref p, .int m] ∧ Im K H (.ref p) (litsD ls) ∧ fitQ ((Body.any ls).fit m) H Q
def spTableFits (K : PySem.W.Frag) : Sp := fun vs H Q _ => ∃ (p q : Addr) (m : Int) (us : List Int) (rows : List (List Int)), vs = [.ref p, .ref q, .int m] ∧ SqT K H p (us.map V.int) ∧ Im K H (.ref q) (rowsD rows) ∧ us.length ≤ 4000 ∧ (∀ r ∈ rows, r.length ≤ 4000) ∧ fitQ ((Body.table us rows).fit m) H Q
/-- lists short enough to be walked -/
def Body.walk : Body → Prop
  | .diff us => us.length ≤ 4000
  | .table us rows => us.length ≤ 4000 ∧ ∀ r ∈ rows, r.length ≤ 4000
  | .elem _ es _ => es.length ≤ 4000
  | _ => True
def spBodyFits (K : PySem.W.Frag) : Sp := fun vs H Q _ => ∃ (p : Addr) (m : Int) (b : Body), vs = [.ref p, .int m] ∧ BodyAt K H p b ∧ b.walk ∧ fitQ (b.fit m) H Q
theorem Body.fit_walk {m : Int} {b : Body} (h : b.fit m) : b.walk := by
  cases b with
  | diff us => exact (show us.length ≤ 4000 by have := h.1.2; omega)
  | table us rows => exact ⟨by have := h.1.1.2; omega, fun r hr => by have := (h.2.2 r hr).1; have := h.1.1.2; omega⟩
  | elem x es y => exact (show es.length ≤ 4000 by have := h.2.1.2; omega)
  | _ => trivial
theorem fst_before {m : Int} {ts : Tms} {i : Nat} {z : Int × Int} (h : tmFit m ts) (e : ts[i]? = some z) : ∀ a ∈ (ts.take i).map (fun z : Int × Int => z.1), a < z.1 := fun a ha => by
  have e2 : ts = ts.take i ++ z :: ts.drop (i + 1) := by
    obtain ⟨hi, rfl⟩ := List.getElem?_eq_some_iff.mp e
    rw [List.getElem_cons_drop, List.take_append_drop]
  have q := h.2.1
  rw [e2, List.map_append, List.pairwise_append] at q
  exact q.2.2 a ha z.1 (by simp)
/-- the literal as a key -/
def litK (l : Lit) : List Leaf := [.num l.v, .text l.r.s, .num l.a]
theorem litK_inj {a b : Lit} (h : litK a = litK b) : a = b := by
  simp only [litK, List.cons.injEq, Leaf.num.injEq, Leaf.text.injEq, and_true] at h
  obtain ⟨h1, h2, h3⟩ := h
  cases a
  cases b
  simp only at h1 h2 h3
  rw [h1, Rel.s_inj _ _ h2, h3]
theorem nodup_inj {α β : Type} {f : α → β} (hf : ∀ {a b}, f a = f b → a = b) {xs : List α} : (xs.map f).Nodup ↔ xs.Nodup := by
  unfold List.Nodup
  rw [List.pairwise_map]
  exact ⟨fun h => h.imp fun {a b} h e => h (congrArg f e), fun h => h.imp fun {a b} h e => h (hf e)⟩
/-- the places of literals -/
theorem lits_at {K : PySem.W.Frag} {H : Hp} : ∀ {xs : List V} {ls : List Lit}, ImAll K H xs (ls.map Lit.d) → ∃ ks : List (Addr × List V), xs = ks.map (fun p => V.ref p.1) ∧ (∀ p ∈ ks, SqT K H p.1 p.2 ∧ p.2.all flatV = true) ∧ ks.map (fun p => p.2.map lfV) = ls.map litK
  | _, [], .nil => ⟨[], rfl, (fun p hp => by cases hp), rfl⟩
  | _, l :: ls, .cons h a => by
    obtain ⟨ks, rfl, h2, h3⟩ := lits_at a
    obtain ⟨q, rfl, L⟩ := lit_at h
    refine ⟨(q, [.int l.v, .str l.r.s, .int l.a]) :: ks, rfl, fun p hp => ?_, by rw [List.map_cons, h3]; rfl⟩
    rcases List.mem_cons.mp hp with rfl | hp
    · exact ⟨L, rfl⟩
    · exact h2 p hp
theorem r_slT1 {K : PySem.W.Frag} {H : Hp} {Q : VK} {p : Addr} {x : V} {xs : List V} (h : SqT K H p (x :: xs)) (q : ∀ l H2, H l = none → SqT K H2 l xs → Kp [] H H2 → Q (.ref l) H2) : rSlT K (.ref p) (some 1) none H Q := by
  refine ⟨p, _, rfl, h, fun e => ?_, fun l hl => ?_⟩
  · have e1 := e.1
    have e0 : HT.sIx (x :: xs).length 0 (some ((1 : Nat) : Int)) = 0 := e1
    rw [HT.sIx_nat] at e0
    simp at e0
  · have e : cutV (x :: xs) (some 1) none = xs := by rw [cut_from (by decide)]; rfl
    rw [e]
    exact q l _ hl (SqT.of upd_same) (Kp.new hl)
theorem all_iff {α : Type} {as : List α} {f : α → Bool} {P : α → Prop} (h : ∀ a ∈ as, (f a = true ↔ P a)) : (as.map f).all id = true ↔ ∀ a ∈ as, P a := by
  rw [List.all_map, List.all_eq_true]
  exact ⟨fun g a ha => (h a ha).mp (g a ha), fun g a ha => (h a ha).mpr (g a ha)⟩
local macro_rules | `(tactic| walk_at "cg all") => `(tactic| (repeat' (first | walk_at "cg s" | ((with_reducible refine if_S ?_ ?_) <;> intro _) | ((with_reducible refine if_NS ?_ ?_) <;> intro _))))

/-! ### the law's own reading of a body -/
def spLawLit (K : PySem.W.Frag) : Sp := fun vs H Q _ => ∃ (p q : Addr) (l : Lit) (f : Pt) (dom : Int → Prop), vs = [.ref p, .ref q] ∧ LitAt K H p l.v l.r l.a ∧ PtAt K H q f dom ∧ dom l.v ∧ Q (.bl (l.h f)) H
theorem inV_ints_t (v : Int) (us : List Int) : (if false = true then !inV (.int v) (us.map V.int) else inV (.int v) (us.map V.int)) = decide (v ∈ us) := by
  rw [if_neg (by decide), inV_ints]

/-! ### a <= b <= c <= d -/
def tChain3 (r r' r2 : R2) (ta tb tc td : TE) : TE := fun σ H Q => ta σ H fun x H1 => tb σ H1 fun y H2 => r x y H2 fun z H3 => asB z fun k => iteP k (tc σ H3 fun u H4 => r' y u H4 fun z2 H5 => asB z2 fun k2 => iteP k2 (td σ H5 fun v H6 => r2 u v H6 Q) (Q (.bl false) H5)) (Q (.bl false) H3)
open PySem.Spec PyProof.Rows in
theorem pe_chain3 {X : Cx} {a b c d : Expr} {ta tb tc td : TE} {pos : Pos} {op op' op2 : CmpOp} {r r' r2 : R2} (ho : OpR X (compareOp op) r) (ho' : OpR X (compareOp op') r') (ho2 : OpR X (compareOp op2) r2) (ha : PE X a ta) (hb : PE X b tb) (hc : PE X c tc) (hd : PE X d td)
    (hm : lastMarks [op, op', op2] [b, c, d] = false := by with_unfolding_all rfl) : PE X (.Compare a [op, op', op2] [b, c, d] pos) (tChain3 r r' r2 ta tb tc td) := by
  refine ⟨fun pins s σ H Q I h => ?_⟩
  refine Compare_chain (thn (ha.run pins s σ H _ I h) fun v s1 ⟨x, H1, I1, r1, q1⟩ => chain_link (thn (hb.run pins s1 σ H1 _ I1 q1) fun u s2 ⟨y, H2, I2, w2, q2⟩ =>
    thn (ho pins s2 σ H2 x y v u _ I2 r1 w2 q2) fun z0 s3 ⟨z, H3, I3, r3, k, e, q3⟩ => ?_)) hm
  subst e
  cases r3
  refine wpAny_truthy_bool ?_
  cases k with
  | false => exact ite_ff ⟨.bl false, H3, I3, rfl, q3⟩
  | true =>
    refine ite_tt (chain_link (thn (hc.run pins s3 σ H3 _ I3 q3) fun v4 s4 ⟨y4, H4, I4, r4, q4⟩ => thn (ho' pins s4 σ H4 y y4 u v4 _ I4 w2 r4 q4) fun z5 s5 ⟨z6, H5, I5, r5, k2, e2, q5⟩ => ?_))
    subst e2
    cases r5
    refine wpAny_truthy_bool ?_
    cases k2 with
    | false => exact ite_ff ⟨.bl false, H5, I5, rfl, q5⟩
    | true => exact ite_tt (chain_last (thn (hd.run pins s5 σ H5 _ I5 q5) fun v7 s7 ⟨y7, H7, I7, r7, q7⟩ => ho2 pins s7 σ H7 y4 y7 v4 v7 Q I7 r4 r7 q7))
instance s_chain3 {r r' r2 : R2} {ta tb tc td : TE} {σ : St} {H : Hp} {Q : VK} : Stp (tChain3 r r' r2 ta tb tc td σ H Q) (ta σ H fun x H1 => tb σ H1 fun y H2 => r x y H2 fun z H3 => asB z fun k => iteP k (tc σ H3 fun u H4 => r' y u H4 fun z2 H5 => asB z2 fun k2 => iteP k2 (td σ H5 fun v H6 => r2 u v H6 Q) (Q (.bl false) H5)) (Q (.bl false) H3)) := ⟨id⟩
/-! ### own classes -/
structure IsM (P : Program) (w : World) (K : PySem.W.Frag) (mg : Str → Option Value) (base : Heap) (CX : CXT) (k : Nat) (C : Addr) (m : Str) (ps : List Str) (sp : Sp) : Prop where
  ex : ∃ (f : Addr) (fd : FuncData), FnOk P w K mg base CX k f fd ps sp ∧ Meth K C m f ∧ Binds K fd ps []
  cl : Cls K C
structure IsI (P : Program) (w : World) (K : PySem.W.Frag) (mg : Str → Option Value) (base : Heap) (CX : CXT) (k : Nat) (C : Addr) (x : Str) (ps : List Str) (sp : Sp) : Prop where
  ex : ∃ (f : Addr) (fd : FuncData), FnOk P w K mg base CX k f fd ps sp ∧ Mk K C f ∧ Binds K fd ps [] ∧ mg x = some (.ref C)
def mtS (C : Addr) (m : Str) (x : V) (H : Hp) (R : Prop) : Prop := ∃ a dx fs, x = .ref a ∧ H a = some (.ins C dx fs) ∧ fs.lookup m = none ∧ R
def mkS (C : Addr) (sp : Sp) (E : XK) (vs : List V) (H1 : Hp) (Q : VK) : Prop := ∀ x dx, H1 x = none → H1 dx = none → dx ≠ x → sp (.ref x :: (vs ++ [])) (upd (upd H1 dx (.own x)) x (.ins C dx [])) (fun v H2 => v = .non ∧ Q (.ref x) H2) E
def fldS (K : PySem.W.Frag) (f : Str) (x : V) (H : Hp) (Q : VK) : Prop := ∃ a C dx fs v, x = .ref a ∧ H a = some (.ins C dx fs) ∧ Cls K C ∧ NoAttr K C f ∧ fs.lookup f = some v ∧ Q v H
def setF (K : PySem.W.Frag) (f : Str) (x y : V) (H2 : Hp) (R : Hp → Prop) : Prop := ∃ a C dx fs, x = .ref a ∧ H2 a = some (.ins C dx fs) ∧ Cls K C ∧ NoAttr K C f ∧ fs.length < 1000 ∧ R (upd H2 a (.ins C dx (putF f y fs)))
def newD (H : Hp) (Q : VK) : Prop := ∀ p, H p = none → Q (.ref p) (upd H p (.dK []))
def inDk (x y : V) (H : Hp) (Q : VK) : Prop := ∃ a o, x = .ref a ∧ DGet H a y o ∧ Q (.bl o.isSome) H
def putD (x y v : V) (H3 : Hp) (R : Hp → Prop) : Prop := ∃ a H4, x = .ref a ∧ DPut H3 a y v H4 ∧ R H4
section
variable {K : PySem.W.Frag} {C : Addr} {m f : Str} {sp : Sp} {E : XK} {ta tv td ty : TE} {t : TA} {σ : St} {H : Hp} {Q : VK} {a dx : Addr} {fs : List (Str × V)} {v x y : V} {nx bk ct : St → Hp → Prop} {rt : VK} {R : Hp → Prop}
instance s_meth : Stp (tMeth C m sp [] E ta t σ H Q) (ta σ H fun x H1 => mtS C m x H1 (t σ H1 fun vs H2 => sp (x :: vs) H2 Q E)) := ⟨fun h => by
  unfold tMeth
  simp only [List.append_nil]
  exact h⟩
theorem r_mt {R : Prop} (h : H a = some (.ins C dx fs)) (l : fs.lookup m = none) (q : R) : mtS C m (.ref a) H R := ⟨a, dx, fs, rfl, h, l, q⟩
instance s_make : Stp (tMake C sp [] E t σ H Q) (t σ H fun vs H1 => mkS C sp E vs H1 Q) := ⟨id⟩
theorem r_make {vs : List V} (q : ∀ x dx H2, H x = none → H2 x = some (.ins C dx []) → Kp [] H H2 → sp (.ref x :: vs) H2 (fun v H3 => v = .non ∧ Q (.ref x) H3) E) : mkS C sp E vs H Q := fun x dx nx ndx ne => by
  rw [List.append_nil]
  exact q x dx _ nx upd_same ⟨fun b o _ h => by rw [upd_ne (ne_of_none h nx), upd_ne (ne_of_none h ndx)]; exact h, fun _ h => nomatch h⟩
instance s_fld : Stp (tFld K ta f σ H Q) (ta σ H fun x H1 => fldS K f x H1 Q) := ⟨id⟩
theorem r_fld (h : H a = some (.ins C dx fs)) (c : Cls K C) (n : NoAttr K C f) (l : fs.lookup f = some v) (q : Q v H) : fldS K f (.ref a) H Q := ⟨a, C, dx, fs, v, rfl, h, c, n, l, q⟩
instance s_sfld : Stp (sFld K ta tv f ⟨nx, rt, bk, ct⟩ σ H) (tv σ H fun y H1 => ta σ H1 fun x H2 => setF K f x y H2 fun H3 => nx σ H3) := ⟨id⟩
theorem r_setF (h : H a = some (.ins C dx fs)) (c : Cls K C) (n : NoAttr K C f) (few : fs.length < 1000) (q : ∀ H2, H2 a = some (.ins C dx (putF f y fs)) → Kp [a] H H2 → R H2) : setF K f (.ref a) y H R :=
  ⟨a, C, dx, fs, rfl, h, c, n, few, q _ upd_same (Kp.put h trivial)⟩
instance s_dnew : Stp (tDNewK σ H Q) (newD H Q) := ⟨id⟩
theorem r_newD (q : ∀ p H2, H p = none → H2 p = some (.dK []) → Kp [] H H2 → Q (.ref p) H2) : newD H Q := fun p hp => q p _ hp upd_same (Kp.new hp)
instance s_dIn : Stp (tDIn ty td σ H Q) (ty σ H fun y H1 => td σ H1 fun x H2 => inDk x y H2 Q) := ⟨id⟩
theorem r_inDk {kvs : List (Key × V)} {k : Key} {o : Option V} (h : H a = some (.dK kvs)) (e : valV kvs k = o) (q : Q (.bl o.isSome) H) : inDk (.ref a) (kV k) H Q := ⟨a, o, rfl, e ▸ DGet.k h, q⟩
theorem r_inDk0 {kvs : List (Key × V)} {k : Key} (h : H a = some (.dK kvs)) (e : valV kvs k = none) (q : Q (.bl false) H) : inDk (.ref a) (kV k) H Q := r_inDk h e q
theorem r_inDk1 {kvs : List (Key × V)} {k : Key} {w : V} (h : H a = some (.dK kvs)) (e : valV kvs k = some w) (q : Q (.bl true) H) : inDk (.ref a) (kV k) H Q := r_inDk h e q
instance s_dPut : Stp (sDPut td ty tv ⟨nx, rt, bk, ct⟩ σ H) (tv σ H fun v H1 => td σ H1 fun x H2 => ty σ H2 fun y H3 => putD x y v H3 fun H4 => nx σ H4) := ⟨id⟩
theorem r_putD {kvs : List (Key × V)} {k : Key} (h : H a = some (.dK kvs)) (few : kvs.length ≤ 10000) (q : ∀ H2, H2 a = some (.dK (putK kvs k v)) → Kp [a] H H2 → R H2) : putD (.ref a) (kV k) v H R :=
  ⟨a, _, rfl, DPut.k h (small1e4 few), q _ upd_same (Kp.put h trivial)⟩
theorem not_valV {κ : Type} [DecidableEq κ] {kvs : List (κ × V)} {k : κ} (h : ¬ k ∈ kvs.map (·.1)) : valV kvs k = none := by
  cases e : valV kvs k with
  | none => rfl
  | some v => exact absurd (valV_in e) h
end
/-! ### texts -/
section
variable {s : Str} {σ : St} {H : Hp} {g : TG} {tb : TS} {nx bk ct : St → Hp → Prop} {rt : VK} {te : TE} {R : It → Hp → Prop} {Q : VK}
def isS (x : V) (H : Hp) (R : It → Hp → Prop) : Prop := ∃ z, x = .str z ∧ R (Its z) H
instance s_iStr : Stp (iStr te σ H R) (te σ H fun x H1 => isS x H1 R) := ⟨id⟩
instance s_isS : Stp (isS (.str s) H R) (R (Its s) H) := ⟨fun h => ⟨s, rfl, h⟩⟩
theorem r_forS (Pv : Nat → St → Hp → Prop) (h0 : Pv 0 σ H) (hs : ∀ (i c : Nat) σ' H', s.cps[i]? = some c → Pv i σ' H' → g (.str ⟨#[c]⟩) σ' H' fun σ2 H2 => tb ⟨Pv (i + 1), rt, nx, Pv (i + 1)⟩ σ2 H2)
    (hd : ∀ σ' H', Pv s.cps.size σ' H' → nx σ' H') : forS (Its s) g tb ⟨nx, rt, bk, ct⟩ σ H :=
  for_it walk_str Pv h0 (fun _ _ _ _ _ => trivial) (fun i x σ' H1 H2 hi h y => by obtain ⟨rfl, c, hc, rfl⟩ := y; exact hs i c σ' _ hc h) hd
def rLenS : List V → Hp → VK → Prop := fun xs H Q => ∃ z, xs = [.str z] ∧ z.length ≤ sizeLine ∧ Q (.int z.length) H
theorem cg_lenS {X : Cx} : CallR X (.builtin "len") rLenS := call_len_str
theorem r_lenS (h : s.length ≤ 10000) (q : Q (.int s.length) H) : rLenS [.str s] H Q := ⟨s, rfl, by rw [sizeLine_eq]; omega, q⟩
def rSgnNot : R2 := fun x y H Q => ∃ (c : Nat) (z : Str), x = .str ⟨#[c]⟩ ∧ y = .str z ∧ Q (.bl (!decide (c ∈ z.cps.toList))) H
theorem op_sgnNot {X : Cx} : OpR X (compareOp .NotIn) rSgnNot := op_notIn_sign
instance s_sgnNot {c : Nat} {z : Str} : Stp (rSgnNot (.str ⟨#[c]⟩) (.str z) H Q) (Q (.bl (!decide (c ∈ z.cps.toList))) H) := ⟨fun h => ⟨c, z, rfl, rfl, h⟩⟩
theorem r_ixS {i : Int} {c : Nat} (h : s.length ≤ 10000) (e : atI s.cps.toList i = some c) (q : Q (.str ⟨#[c]⟩) H) : rIxS (.str s) (.int i) H Q := ⟨s, i, c, rfl, rfl, by rw [sizeLine_eq]; omega, e, q⟩
end
/-! ### labels -/
def lettersS : Str := Str.ofString "abcdefghijklmnopqrstuvwxyz"
def digitsS : Str := Str.ofString "0123456789"
def sgnOk (c : Nat) : Bool := decide (c ∈ lettersS.cps.toList) || decide (c ∈ digitsS.cps.toList)
def labelB (s : Str) : Bool := decide (1 ≤ s.length) && decide (s.length ≤ 20) && (match s.cps.toList with | [] => false | c :: _ => decide (c ∈ lettersS.cps.toList)) && s.cps.toList.all sgnOk
def spLabel : Sp := fun vs H Q _ => ∃ s : Str, vs = [.str s] ∧ s.length ≤ 10000 ∧ Q (.bl (labelB s)) H

/-! ### models -/
structure Goal where
  mx : Bool
  ts : Tms
  c : Int
def senseS (b : Bool) : Str := if b then Str.ofString "max" else Str.ofString "min"
def Goal.d (g : Goal) : PyData := .tuple [.str (senseS g.mx), tmD g.ts, .int g.c]
structure Mdl where
  us : List (Str × Int × Int)
  bs : List (Str × Body)
  g : Goal
def unD (u : Str × Int × Int) : PyData := .tuple [.str u.1, .int u.2.1, .int u.2.2]
structure MA where
  p : Addr
  n : Addr
  l : Addr
  h : Addr
  b : Addr
def MA.all (a : MA) : List Addr := [a.p, a.n, a.l, a.h, a.b]
structure MFs (fs : List (Str × V)) (a : MA) (g : V) : Prop where
  nm : fs.lookup (Str.ofString "_names") = some (.ref a.n)
  lo : fs.lookup (Str.ofString "_lows") = some (.ref a.l)
  hi : fs.lookup (Str.ofString "_highs") = some (.ref a.h)
  bo : fs.lookup (Str.ofString "_bodies") = some (.ref a.b)
  go : fs.lookup (Str.ofString "_goal") = some g
  le : fs.length ≤ 10
  no : ∀ m : Str, ¬ m = "_names" → ¬ m = "_lows" → ¬ m = "_highs" → ¬ m = "_bodies" → ¬ m = "_goal" → fs.lookup m = none
theorem putF_len (f : Str) (v w : V) : ∀ fs : List (Str × V), fs.lookup f = some w → (putF f v fs).length = fs.length
  | [], h => by simp at h
  | (x, y) :: fs, h => by
    show (if x = f then (x, v) :: fs else (x, y) :: putF f v fs).length = _
    by_cases e : x = f
    · rw [if_pos e]
      rfl
    · rw [if_neg e, List.length_cons, List.length_cons, putF_len f v w fs (by
        rw [List.lookup_cons] at h
        have : (f == x) = false := beq_false_of_ne (fun z => e z.symm)
        rw [this] at h
        exact h)]
theorem putF_le (f : Str) (v : V) : ∀ fs : List (Str × V), (putF f v fs).length ≤ fs.length + 1
  | [] => Nat.le_refl _
  | (x, y) :: fs => by
    show (if x = f then (x, v) :: fs else (x, y) :: putF f v fs).length ≤ _
    by_cases e : x = f
    · rw [if_pos e]
      simp
    · rw [if_neg e, List.length_cons, List.length_cons]
      have := putF_le f v fs
      omega
theorem MFs.goal {fs : List (Str × V)} {a : MA} {g g' : V} (h : MFs fs a g) : MFs (putF (Str.ofString "_goal") g' fs) a g' := by
  have l : ∀ m : Str, ¬ m = Str.ofString "_goal" → (putF (Str.ofString "_goal") g' fs).lookup m = fs.lookup m := fun m hm => by rw [lookup_putF, if_neg hm]
  exact ⟨(l _ (by decide +kernel)).trans h.nm, (l _ (by decide +kernel)).trans h.lo, (l _ (by decide +kernel)).trans h.hi, (l _ (by decide +kernel)).trans h.bo, by rw [lookup_putF, if_pos rfl], by rw [putF_len _ _ _ _ h.go]; exact h.le,
    fun m h1 h2 h3 h4 h5 => (l m h5).trans (h.no m h1 h2 h3 h4 h5)⟩
def fs3 (n l h : Addr) : List (Str × V) := putF (Str.ofString "_highs") (.ref h) (putF (Str.ofString "_lows") (.ref l) (putF (Str.ofString "_names") (.ref n) []))
theorem fs3_nm (n l h : Addr) : (fs3 n l h).lookup (Str.ofString "_names") = some (.ref n) := by
  unfold fs3
  rw [lookup_putF, if_neg (by decide +kernel), lookup_putF, if_neg (by decide +kernel), lookup_putF, if_pos rfl]
theorem fs3_lo (n l h : Addr) : (fs3 n l h).lookup (Str.ofString "_lows") = some (.ref l) := by
  unfold fs3
  rw [lookup_putF, if_neg (by decide +kernel), lookup_putF, if_pos rfl]
theorem fs3_hi (n l h : Addr) : (fs3 n l h).lookup (Str.ofString "_highs") = some (.ref h) := by
  unfold fs3
  rw [lookup_putF, if_pos rfl]
theorem fs3_len (n l h : Addr) : (fs3 n l h).length ≤ 3 := by
  unfold fs3
  refine Nat.le_trans (putF_le _ _ _) (Nat.succ_le_succ (Nat.le_trans (putF_le _ _ _) (Nat.succ_le_succ (putF_le _ _ _))))
theorem MFs.new {p n l h b : Addr} {g : V} : MFs (putF (Str.ofString "_goal") g (putF (Str.ofString "_bodies") (.ref b) (fs3 n l h))) ⟨p, n, l, h, b⟩ g := by
  have k : ∀ m : Str, ¬ m = Str.ofString "_goal" → ¬ m = Str.ofString "_bodies" → (putF (Str.ofString "_goal") g (putF (Str.ofString "_bodies") (.ref b) (fs3 n l h))).lookup m = (fs3 n l h).lookup m := fun m h1 h2 => by rw [lookup_putF, if_neg h1, lookup_putF, if_neg h2]
  refine ⟨(k _ (by decide +kernel) (by decide +kernel)).trans (fs3_nm n l h), (k _ (by decide +kernel) (by decide +kernel)).trans (fs3_lo n l h), (k _ (by decide +kernel) (by decide +kernel)).trans (fs3_hi n l h), by rw [lookup_putF, if_neg (by decide +kernel), lookup_putF, if_pos rfl], by rw [lookup_putF, if_pos rfl], ?_, fun m h1 h2 h3 h4 h5 => ?_⟩
  · have a1 := putF_le (Str.ofString "_goal") g (putF (Str.ofString "_bodies") (.ref b) (fs3 n l h))
    have a2 := putF_le (Str.ofString "_bodies") (.ref b) (fs3 n l h)
    have a3 := fs3_len n l h
    omega
  · rw [k m h5 h4]
    unfold fs3
    rw [lookup_putF, if_neg h3, lookup_putF, if_neg h2, lookup_putF, if_neg h1]
    rfl
/-- a model stands at a -/
structure MdlAt (K : PySem.W.Frag) (C : Addr) (H : Hp) (a : MA) (M : Mdl) : Prop where
  ob : ∃ dx fs g, H a.p = some (.ins C dx fs) ∧ MFs fs a g ∧ Im K H g M.g.d
  nm : H a.n = some (.lst (M.us.map fun u => V.str u.1))
  lo : H a.l = some (.lst (M.us.map fun u => V.int u.2.1))
  hi : H a.h = some (.lst (M.us.map fun u => V.int u.2.2))
  bo : ∃ kvs : List (Key × V), H a.b = some (.dK kvs) ∧ kvs.map (fun z => z.1) = M.bs.map (fun b => Sum.inr b.1) ∧ ImAll K H (kvs.map (fun z => z.2)) (M.bs.map fun b => b.2.d)
  ne : a.n ≠ a.l ∧ a.n ≠ a.h ∧ a.l ≠ a.h
section
variable {K : PySem.W.Frag} {C : Addr} {H H' : Hp} {a : MA} {M : Mdl} {S : List Addr}
theorem MdlAt.kp (k : Kp S H H') (h : MdlAt K C H a M) (d : ∀ x ∈ a.all, ¬ x ∈ S) : MdlAt K C H' a M := by
  obtain ⟨dx, fs, g, h1, h2, h3⟩ := h.ob
  obtain ⟨kvs, h4, h5, h6⟩ := h.bo
  exact ⟨⟨dx, fs, g, k.get (d _ (by simp [MA.all])) h1, h2, k.im h3⟩, k.get (d _ (by simp [MA.all])) h.nm, k.get (d _ (by simp [MA.all])) h.lo, k.get (d _ (by simp [MA.all])) h.hi, ⟨kvs, k.get (d _ (by simp [MA.all])) h4, h5, k.imAll h6⟩, h.ne⟩
theorem MdlAt.kp0 (k : Kp [] H H') (h : MdlAt K C H a M) : MdlAt K C H' a M := h.kp k fun _ _ z => nomatch z
/-- none of its places is one of these -/
def offA (a : MA) (t : Addr) : Prop := ∀ x ∈ a.all, x ≠ t
theorem MdlAt.kp1 {t : Addr} (k : Kp [t] H H') (h : MdlAt K C H a M) (n : offA a t) : MdlAt K C H' a M := h.kp k fun x hx z => n x hx (by simpa using z)
end
/-- what a model takes -/
def unOk (u : Str × Int × Int) : Prop := labelB u.1 = true ∧ u.1.length ≤ 10000 ∧ -1000 ≤ u.2.1 ∧ u.2.1 ≤ u.2.2 ∧ u.2.2 ≤ 1000
def Goal.fit (m : Int) (g : Goal) : Prop := tmFit m g.ts ∧ -1000000000 ≤ g.c ∧ g.c ≤ 1000000000
def goal0 : Goal := ⟨true, [], 0⟩
def spBounds : Sp := fun vs H Q _ => ∃ lo hi : Int, vs = [.int lo, .int hi] ∧ Q (.bl (decide (-1000 ≤ lo) && (decide (lo ≤ hi) && decide (hi ≤ 1000)))) H
def spInit (K : PySem.W.Frag) (C : Addr) : Sp := fun vs H Q _ => ∃ (p l dx : Addr) (refs : List V) (us : List (Str × Int × Int)), vs = [.ref p, .ref l] ∧ H p = some (.ins C dx []) ∧ H l = some (.lst refs) ∧ ImAll K H refs (us.map unD) ∧ 1 ≤ us.length ∧ us.length ≤ 60 ∧
  (∀ u ∈ us, unOk u) ∧ (us.map (·.1)).Nodup ∧ ∀ (a : MA) (H' : Hp), a.p = p → MdlAt K C H' a ⟨us, [], goal0⟩ → (∀ x ∈ a.all, x = p ∨ H x = none) → Kp [p] H H' → Q .non H'
def spPut (K : PySem.W.Frag) (C : Addr) : Sp := fun vs H Q _ => ∃ (a : MA) (s : Str) (pb : Addr) (b : Body) (M : Mdl), vs = [.ref a.p, .str s, .ref pb] ∧ MdlAt K C H a M ∧ labelB s = true ∧ s.length ≤ 10000 ∧ ¬ s ∈ M.bs.map (·.1) ∧ BodyAt K H pb b ∧ b.fit M.us.length ∧ M.bs.length < 200 ∧
  ∀ H', MdlAt K C H' a ⟨M.us, M.bs ++ [(s, b)], M.g⟩ → Kp [a.b] H H' → Q .non H'
def spAim (K : PySem.W.Frag) (C : Addr) : Sp := fun vs H Q _ => ∃ (a : MA) (pg : Addr) (g : Goal) (M : Mdl), vs = [.ref a.p, .ref pg] ∧ MdlAt K C H a M ∧ Im K H (.ref pg) g.d ∧ g.fit M.us.length ∧ ∀ H', MdlAt K C H' a ⟨M.us, M.bs, g⟩ → Kp [a.p] H H' → Q .non H'
theorem goal_at {K : PySem.W.Frag} {H : Hp} {x : V} {g : Goal} (h : Im K H x g.d) : ∃ p q, x = .ref p ∧ SqT K H p [.str (senseS g.mx), .ref q, .int g.c] ∧ Im K H (.ref q) (tmD g.ts) := by
  obtain ⟨p, rfl⟩ := Im.isRef h
  obtain ⟨_, h1, h2⟩ := Im.open h
  obtain ⟨_, _, rfl, a1, h2⟩ := h2.c
  obtain ⟨_, _, rfl, a2, h2⟩ := h2.c
  obtain ⟨_, _, rfl, a3, h2⟩ := h2.c
  obtain rfl := h2.n
  obtain ⟨q, rfl⟩ := a2.isRef
  cases a1; cases a3
  exact ⟨p, q, rfl, h1, a2⟩
theorem un_at {K : PySem.W.Frag} {H : Hp} {x : V} {u : Str × Int × Int} (h : Im K H x (unD u)) : ∃ p, x = .ref p ∧ SqT K H p [.str u.1, .int u.2.1, .int u.2.2] := by
  obtain ⟨p, rfl⟩ := Im.isRef h
  exact ⟨p, rfl, Im.sq h rfl⟩
theorem flat_strs (us : List Str) : (us.map V.str).all flatV = true := by
  rw [List.all_map]
  exact List.all_eq_true.mpr fun x _ => rfl
theorem inV_strs (v : Str) (us : List Str) : inV (.str v) (us.map V.str) = decide (v ∈ us) := by
  unfold inV
  rw [List.any_map]
  induction us with
  | nil => rfl
  | cons u us ih =>
    have e : ((fun y => eqV y (.str v)) ∘ V.str) u = decide (v = u) := by
      show (u == v) = decide (v = u)
      rw [Bool.eq_iff_iff, beq_iff_eq, decide_eq_true_eq]
      exact eq_comm
    rw [List.any_cons, ih, e, Bool.eq_iff_iff]
    simp only [Bool.or_eq_true, decide_eq_true_eq, List.mem_cons]
def mOk (m : Str) : Bool := decide (¬ m = Str.ofString "_names") && decide (¬ m = Str.ofString "_lows") && decide (¬ m = Str.ofString "_highs") && decide (¬ m = Str.ofString "_bodies") && decide (¬ m = Str.ofString "_goal")
/-- a method of a model is called -/
theorem r_mtM {K : PySem.W.Frag} {C : Addr} {H : Hp} {a : MA} {M : Mdl} {m : Str} {R : Prop} (h : MdlAt K C H a M) (n : mOk m = true) (q : R) : mtS C m (.ref a.p) H R := by
  obtain ⟨dx, fs, g, h1, h2, _⟩ := h.ob
  unfold mOk at n
  simp only [Bool.and_eq_true, decide_eq_true_eq] at n
  exact r_mt h1 (h2.no m n.1.1.1.1 n.1.1.1.2 n.1.1.2 n.1.2 n.2) q
local macro_rules | `(tactic| walk_at "cg h") => `(tactic| (first
  | ((with_reducible show MdlAt _ _ _ _ _); exact MdlAt.kp0 (by assumption) (by walk_at "cg h"))
  | ((with_reducible show MdlAt _ _ _ _ _); exact MdlAt.kp1 (by assumption) (by walk_at "cg h") (by assumption))
  | fail))
local macro_rules | `(tactic| walk_at "cg h") => `(tactic| assumption)
local macro_rules | `(tactic| walk_at "cg s") => `(tactic| (first
  | ((with_reducible apply r_fld); (focus (walk_at "cg h")); (focus assumption); (focus assumption); (focus assumption))
  | ((with_reducible apply r_mt); (focus (walk_at "cg h")); (focus assumption))
  | ((with_reducible apply r_newD); intro _ _ _ _ _)
  | ((with_reducible apply r_setF); (focus (walk_at "cg h")); (focus assumption); (focus assumption); (focus (first | assumption | exact Nat.lt_of_sub_pos (by decide) | omega)); intro _ _ _)
  | fail))
local macro_rules | `(tactic| walk_at "cg s") => `(tactic| ((with_reducible apply r_mtM); (focus (walk_at "cg h")); (focus (decide +kernel))))

/-! ### the law's own world -/
section
variable {σ σ0 : St} {H : Hp} {K : PySem.W.Frag} {p : Addr} {xs : List V} {g : TG} {tt : TT} {te : TE} {vs : List Nat} {Q : VK} {n : Nat} {lo : Int} {α : Type} {as : List α} {d : α → PyData} {t c : Addr}
/-- .. one for each item of a list -/
theorem lcL_d {β : Type} {bs : List β} {e : β → PyData} [hw : Wip σ vs σ0] (s : H p = some (.lst xs)) (np : p ≠ t) (ib : ImAll K H xs (bs.map e)) (d : α → PyData) (Pr : β → α → Prop) (T : Tp t c H) (small : bs.length ≤ 10000)
    (hs : ∀ (i : Nat) (b : β) (x : V) (H' : Hp) (R : V → Hp → Prop) (R' : Hp → Prop), bs[i]? = some b → Im K H' x (e b) → Tp t c H' → Kp [t] H H' → (∀ y H4 a, Pr b a → Im K H4 y (d a) → Tp t c H4 → Kp [t] H' H4 → R y H4) → lcTurn g tt te vs σ σ0 x H' R R')
    (hd : ∀ D H' acc (as : List α), H D = none → H' D = some (.lst acc) → as.length = bs.length → (∀ (i : Nat) a, as[i]? = some a → ∃ b, bs[i]? = some b ∧ Pr b a) → ImAll K H' acc (as.map d) → Tp t c H' → Kp [t] H H' → Q (.ref D) H') : lcS (Itl K p) g tt te vs σ H Q := by
  have hxl := mapLenP ib
  refine r_lcL xs (fun D i H' => Kp [t] H H' ∧ H D = none ∧ Tp t c H' ∧ ∃ (acc : List V) (as : List α), H' D = some (.lst acc) ∧ as.length = i ∧ (∀ (i : Nat) a, as[i]? = some a → ∃ b, bs[i]? = some b ∧ Pr b a) ∧ ImAll K H' acc (as.map d))
    (fun D H2 hD e2 k2 => ⟨Kp.tr0 k2 (Tp.base T), hD, Tp.kp0 k2 T, [], [], e2, rfl, (fun i a h => by simp at h), .nil⟩) (fun D i H' h => h.1.get1 np s) ?_ ?_
  · rintro D i x H' hx ⟨k2, hD, T2, acc, as, eD, hl, hP, hA⟩
    obtain ⟨b, hb, hxd⟩ := mapGetP (k2.imAll ib) hx
    have hi : i < bs.length := (List.getElem?_eq_some_iff.mp hb).1
    have nt : D ≠ t := Tp.nef hD T
    have nc : D ≠ c := Tp.nefc hD T
    have hal : acc.length = i := by rw [hA.length, List.length_map, hl]
    refine hs i b x H' _ _ hb hxd T2 k2 fun y H4 a ha hy T4 k4 => ?_
    refine r_ap (k4.get1 nt eD) (small1e4 (by omega)) fun H5 e5 k5 => ⟨Kp.trN k5 (Kp.tr1 k4 k2) hD, hD, Tp.kp1 k5 T4 nt.symm nc.symm, _, as ++ [a], e5, by simp [hl], fun j b' hb' => ?_, ?_⟩
    · rcases Nat.lt_or_ge j as.length with h | h
      · rw [List.getElem?_append_left h] at hb'
        exact hP j b' hb'
      · rw [List.getElem?_append_right h] at hb'
        have e0 : j - as.length = 0 := by
          have := (List.getElem?_eq_some_iff.mp hb').1
          simp at this
          omega
        rw [e0] at hb'
        simp at hb'
        subst hb'
        rw [show j = i by omega]
        exact ⟨b, hb, ha⟩
    · rw [List.map_append]
      exact (k5.imAll (k4.imAll hA)).snoc (k5.im hy)
  · rintro D H' ⟨k2, hD, T2, acc, as, eD, hl, hP, hA⟩
    exact hd D H' acc as hD eD (by rw [hl, hxl]) hP hA T2 k2
end
def labD (b : Str × Body) : PyData := .tuple [.str b.1, b.2.d]
structure Mdl.ok (M : Mdl) : Prop where
  n0 : 1 ≤ M.us.length
  n1 : M.us.length ≤ 60
  un : ∀ u ∈ M.us, unOk u
  nd : (M.us.map (·.1)).Nodup
  lb : ∀ b ∈ M.bs, labelB b.1 = true ∧ b.1.length ≤ 10000
  ln : (M.bs.map (·.1)).Nodup
  bf : ∀ b ∈ M.bs, b.2.fit M.us.length
  nb : M.bs.length ≤ 200
  gf : M.g.fit M.us.length
def nmS : Nat → Str
  | 0 => Str.ofString "x"
  | 1 => Str.ofString "y"
  | 2 => Str.ofString "z"
  | 3 => Str.ofString "u"
  | _ => Str.ofString "w"
def labC (k : Int) : Str := Str.ofString "c" ++ ((toString k : String) : Str)
/-- the drawn ones are small -/
structure Mdl.sm (M : Mdl) (most width bodies : Int) : Prop where
  n : (M.us.length : Int) ≤ most
  u : ∀ u ∈ M.us, -2 ≤ u.2.1 ∧ u.2.1 ≤ 2 ∧ u.2.2 < u.2.1 + width
  b : (M.bs.length : Int) ≤ bodies
  g : tmLaw M.us.length M.g.ts ∧ -2 ≤ M.g.c ∧ M.g.c ≤ 2
  l : ∀ b ∈ M.bs, ∃ k : Int, 0 ≤ k ∧ k < 10 ∧ b.1 = labC k
  nm : ∀ u ∈ M.us, ∃ i : Nat, i < 5 ∧ u.1 = nmS i
structure WA where
  w : Addr
  u : Addr
  f : Addr
def WA.all (a : WA) : List Addr := [a.w, a.u, a.f]
structure WorldAt (K : PySem.W.Frag) (H : Hp) (a : WA) (M : Mdl) : Prop where
  w : ∃ pg, H a.w = some (.lst [.ref a.u, .ref a.f, .ref pg]) ∧ Im K H (.ref pg) M.g.d
  u : ∃ refs, H a.u = some (.lst refs) ∧ ImAll K H refs (M.us.map unD)
  f : ∃ refs, H a.f = some (.lst refs) ∧ ImAll K H refs (M.bs.map labD)
  d : a.w ≠ a.u ∧ a.w ≠ a.f
section
variable {K : PySem.W.Frag} {C : Addr} {H H' : Hp} {a : WA} {M : Mdl} {S : List Addr}
theorem WorldAt.kp (k : Kp S H H') (h : WorldAt K H a M) (d : ∀ x ∈ a.all, ¬ x ∈ S) : WorldAt K H' a M := by
  obtain ⟨pg, h1, h2⟩ := h.w
  obtain ⟨r1, h3, h4⟩ := h.u
  obtain ⟨r2, h5, h6⟩ := h.f
  exact ⟨⟨pg, k.get (d _ (by simp [WA.all])) h1, k.im h2⟩, ⟨r1, k.get (d _ (by simp [WA.all])) h3, k.imAll h4⟩, ⟨r2, k.get (d _ (by simp [WA.all])) h5, k.imAll h6⟩, h.d⟩
theorem WorldAt.kp0 (k : Kp [] H H') (h : WorldAt K H a M) : WorldAt K H' a M := h.kp k fun _ _ z => nomatch z
def offW (a : WA) (t : Addr) : Prop := ∀ x ∈ a.all, x ≠ t
theorem WorldAt.kp1 {t : Addr} (k : Kp [t] H H') (h : WorldAt K H a M) (n : offW a t) : WorldAt K H' a M := h.kp k fun x hx z => n x hx (by simpa using z)
end
def spWorld (K : PySem.W.Frag) : Sp := fun vs H Q _ => ∃ (t c : Addr) (most width bodies : Int), vs = [.ref t, .int most, .int width, .int bodies] ∧ Tp t c H ∧ 1 ≤ most ∧ most ≤ 5 ∧ 1 ≤ width ∧ width ≤ 900 ∧ 0 ≤ bodies ∧ bodies ≤ 9 ∧
  ∀ (a : WA) (M : Mdl) (H' : Hp), WorldAt K H' a M → M.ok → M.sm most width bodies → (∀ x ∈ a.all, H x = none) → Tp t c H' → Kp [t] H H' → Q (.ref a.w) H'
def spLawModel (K : PySem.W.Frag) (C : Addr) : Sp := fun vs H Q _ => ∃ (a : WA) (M : Mdl), vs = [.ref a.w] ∧ WorldAt K H a M ∧ M.ok ∧ ∀ (m : MA) (H' : Hp), MdlAt K C H' m M → (∀ x ∈ m.all, H x = none) → Kp [] H H' → Q (.ref m.p) H'
def ptIn (us : List (Str × Int × Int)) (pt : List Int) : Prop := pt.length = us.length ∧ ∀ (i : Nat) z, pt[i]? = some z → ∃ u, us[i]? = some u ∧ u.2.1 ≤ z ∧ z ≤ u.2.2
def spLawPoint (K : PySem.W.Frag) : Sp := fun vs H Q _ => ∃ (t c l : Addr) (refs : List V) (us : List (Str × Int × Int)), vs = [.ref t, .ref l] ∧ Tp t c H ∧ H l = some (.lst refs) ∧ l ≠ t ∧ ImAll K H refs (us.map unD) ∧ us.length ≤ 60 ∧ (∀ u ∈ us, -1000 ≤ u.2.1 ∧ u.2.1 ≤ u.2.2 ∧ u.2.2 ≤ 1000) ∧
  ∀ (p : Addr) (pt : List Int) (H' : Hp), SqT K H' p (pt.map V.int) → ptIn us pt → Tp t c H' → Kp [t] H H' → Q (.ref p) H'
def rStrI : List V → Hp → VK → Prop := fun xs H Q => ∃ i, xs = [.int i] ∧ i.natAbs.log2 < 1920 ∧ Q (.str (toString i)) H
theorem cg_strI {X : Cx} : CallR X (.type "str") rStrI := call_str_int
theorem r_strI {i : Int} {H : Hp} {Q : VK} (h0 : 0 ≤ i) (h1 : i ≤ 1000) (q : Q (.str (toString i)) H) : rStrI [.int i] H Q := ⟨i, rfl, Nat.lt_of_le_of_lt (Nat.log2_le_self _) (by omega), q⟩
def rAddS : R2 := fun x y H Q => ∃ i j, x = .str i ∧ y = .str j ∧ i.length + j.length ≤ sizeLine ∧ Q (.str (i ++ j)) H
theorem cg_addS {X : Cx} : OpR X (binaryOp .Add) rAddS := op_add_str
theorem r_addS {i j : Str} {H : Hp} {Q : VK} (h : i.length + j.length ≤ 10000) (q : Q (.str (i ++ j)) H) : rAddS (.str i) (.str j) H Q := ⟨i, j, rfl, rfl, by rw [sizeLine_eq]; omega, q⟩
theorem ten (P : Int → Prop) (h : P 0 ∧ P 1 ∧ P 2 ∧ P 3 ∧ P 4 ∧ P 5 ∧ P 6 ∧ P 7 ∧ P 8 ∧ P 9) {k : Int} (h0 : 0 ≤ k) (h1 : k < 10) : P k := by
  have e : k = 0 ∨ k = 1 ∨ k = 2 ∨ k = 3 ∨ k = 4 ∨ k = 5 ∨ k = 6 ∨ k = 7 ∨ k = 8 ∨ k = 9 := by omega
  obtain ⟨p0, p1, p2, p3, p4, p5, p6, p7, p8, p9⟩ := h
  rcases e with rfl | rfl | rfl | rfl | rfl | rfl | rfl | rfl | rfl | rfl <;> assumption
theorem labC_ok {k : Int} (h0 : 0 ≤ k) (h1 : k < 10) : labelB (labC k) = true ∧ (Str.ofString "c").length + (((toString k : String) : Str)).length ≤ 10 ∧ (labC k).length ≤ 10 :=
  ten (fun k => labelB (labC k) = true ∧ (Str.ofString "c").length + (((toString k : String) : Str)).length ≤ 10 ∧ (labC k).length ≤ 10) (by decide +kernel) h0 h1
theorem labC_inj {j k : Int} (h0 : 0 ≤ j) (h1 : j < 10) (h2 : 0 ≤ k) (h3 : k < 10) (e : labC j = labC k) : j = k := by
  have q : ((List.range 10).all fun a => (List.range 10).all fun b => decide (labC (a : Nat) = labC (b : Nat) → a = b)) = true := by decide +kernel
  have q1 := List.all_eq_true.mp q j.toNat (List.mem_range.mpr (by omega))
  have q2 := List.all_eq_true.mp q1 k.toNat (List.mem_range.mpr (by omega))
  have q3 := of_decide_eq_true q2
  rw [Int.toNat_of_nonneg h0, Int.toNat_of_nonneg h2] at q3
  have := q3 e
  omega
theorem nmS_ok : ∀ i < 5, labelB (nmS i) = true ∧ (nmS i).length ≤ 10 := by decide +kernel
theorem nmS_inj : ∀ i < 5, ∀ j < 5, nmS i = nmS j → i = j := by decide +kernel
theorem ix_nm {K : PySem.W.Frag} {p : Addr} {H : Hp} {Q : VK} {i : Nat} (h : H p = some (.lst [.str (Str.ofString "x"), .str (Str.ofString "y"), .str (Str.ofString "z"), .str (Str.ofString "u"), .str (Str.ofString "w")])) (h1 : i < 5) (q : Q (.str (nmS i)) H) : rIxL K (.ref p) (.int (0 + (i : Int))) H Q := by
  have e : i = 0 ∨ i = 1 ∨ i = 2 ∨ i = 3 ∨ i = 4 := by omega
  rcases e with rfl | rfl | rfl | rfl | rfl <;> exact r_ixL h rfl q
theorem ix_mm {K : PySem.W.Frag} {p : Addr} {H : Hp} {Q : VK} {d : Int} (h : H p = some (.lst [.str (Str.ofString "max"), .str (Str.ofString "min")])) (h0 : 0 ≤ d) (h1 : d < 2) (q : ∀ b, Q (.str (senseS b)) H) : rIxL K (.ref p) (.int d) H Q := by
  have e : d = 0 ∨ d = 1 := by omega
  rcases e with rfl | rfl
  · exact r_ixL h rfl (q true)
  · exact r_ixL h rfl (q false)
theorem nodup_map_range {α : Type} {f : Nat → α} {n : Nat} (h : ∀ i < n, ∀ j < n, f i = f j → i = j) : ((List.range n).map f).Nodup := by
  unfold List.Nodup
  rw [List.pairwise_map]
  refine List.Pairwise.imp_of_mem (fun {a b} ha hb hab e => ?_) (List.nodup_range (n := n))
  exact hab (h a (List.mem_range.mp ha) b (List.mem_range.mp hb) e)

/-! ### the next point -/
def rGetL : V → V → Hp → VK → Prop := fun x y H Q => ∃ p xs i v, x = .ref p ∧ y = .int i ∧ H p = some (.lst xs) ∧ 0 ≤ i ∧ atI xs i = some v ∧ Q v H
theorem get_list {X : Cx} : PGet X rGetL := by
  intro pins s σ H o i ov iv Q I ro ri h
  obtain ⟨p, xs, k, z, rfl, rfl, hp, h0, he, q⟩ := h
  cases ro
  obtain ⟨t, rfl⟩ := ri
  obtain ⟨its, r, pl, hz⟩ := I.list (SqL.of hp)
  obtain ⟨j, h1, h2, h3, h4, h5⟩ := atI_get he
  obtain ⟨w, ew, rw'⟩ := r.get h2
  have hj : k.toNat = j := by
    rw [seqIndex_of h0 h5] at h1
    exact Option.some.inj h1
  have hn := line63
  have hl := r.length
  exact wpAny_getItem_list pl.isList h0 (by omega) (by rw [hj]; simpa using ew) ⟨z, H, I, rw', q⟩
theorem r_getL {H : Hp} {Q : VK} {p : Addr} {xs : List V} {i : Int} {v : V} (h : H p = some (.lst xs)) (h0 : 0 ≤ i) (e : atI xs i = some v) (q : Q v H) : rGetL (.ref p) (.int i) H Q := ⟨p, xs, i, v, rfl, rfl, h, h0, e, q⟩
instance s_augS {to ti te : TE} {tget : V → V → Hp → VK → Prop} {tip : TIp} {tset : V → V → V → Hp → (Hp → Prop) → Prop} {D : Ends} {σ : St} {H : Hp} : Stp (tAugS to ti te tget tip tset D σ H) (to σ H fun o H1 => ti σ H1 fun i H2 => tget o i H2 fun x H3 => te σ H3 fun y H4 => tip x y H4 fun z H5 => tset o i z H5 fun H6 => D.nx σ H6) := ⟨id⟩
abbrev Un := Str × Int × Int
def nxP : List Un → List Int → Option (List Int)
  | u :: us, x :: xs => match nxP us xs with
    | some ys => some (x :: ys)
    | none => if x < u.2.2 then some ((x + 1) :: us.map (·.2.1)) else none
  | _, _ => none
theorem nxP_step {us : List Un} {pt : List Int} {k : Nat} {u : Un} {x : Int} (h1 : us[k]? = some u) (h2 : pt[k]? = some x) (h3 : nxP (us.drop (k + 1)) (pt.drop (k + 1)) = none) : nxP (us.drop k) (pt.drop k) = if x < u.2.2 then some ((x + 1) :: (us.drop (k + 1)).map (·.2.1)) else none := by
  obtain ⟨i1, e1⟩ := List.getElem?_eq_some_iff.mp h1
  obtain ⟨i2, e2⟩ := List.getElem?_eq_some_iff.mp h2
  rw [List.drop_eq_getElem_cons i1, List.drop_eq_getElem_cons i2, e1, e2]
  simp only [nxP, h3]
theorem nxP_pre : ∀ {us : List Un} {pt ys : List Int} (k : Nat), us.length = pt.length → k ≤ pt.length → nxP (us.drop k) (pt.drop k) = some ys → nxP us pt = some (pt.take k ++ ys)
  | _, _, _, 0, _, _, h => h
  | [], [], _, k + 1, _, h, _ => by simp at h
  | u :: us, x :: xs, ys, k + 1, hl, hk, h => by
    have q := nxP_pre (us := us) (pt := xs) k (by simpa using hl) (by simpa using hk) h
    simp only [nxP, q]
    rfl
def spMany (K : PySem.W.Frag) (C : Addr) : Sp := fun vs H Q _ => ∃ (a : MA) (M : Mdl), vs = [.ref a.p] ∧ MdlAt K C H a M ∧ M.us.length ≤ 60 ∧ Q (.int M.us.length) H
def spNeed (K : PySem.W.Frag) (C : Addr) : Sp := fun vs H Q _ => ∃ (a : MA) (M : Mdl) (v : Int), vs = [.ref a.p, .int v] ∧ MdlAt K C H a M ∧ M.us.length ≤ 60 ∧ 0 ≤ v ∧ v < M.us.length ∧ Q .non H
def spLow (K : PySem.W.Frag) (C : Addr) : Sp := fun vs H Q _ => ∃ (a : MA) (M : Mdl) (v : Int) (u : Un), vs = [.ref a.p, .int v] ∧ MdlAt K C H a M ∧ M.us.length ≤ 60 ∧ 0 ≤ v ∧ M.us[v.toNat]? = some u ∧ Q (.int u.2.1) H
def spHigh (K : PySem.W.Frag) (C : Addr) : Sp := fun vs H Q _ => ∃ (a : MA) (M : Mdl) (v : Int) (u : Un), vs = [.ref a.p, .int v] ∧ MdlAt K C H a M ∧ M.us.length ≤ 60 ∧ 0 ≤ v ∧ M.us[v.toNat]? = some u ∧ Q (.int u.2.2) H
def spNext (K : PySem.W.Frag) (C : Addr) : Sp := fun vs H Q _ => ∃ (a : MA) (M : Mdl) (q : Addr) (pt : List Int), vs = [.ref a.p, .ref q] ∧ MdlAt K C H a M ∧ M.us.length ≤ 60 ∧ pt.length = M.us.length ∧ SqT K H q (pt.map V.int) ∧
  (nxP M.us pt = none → ∀ H', Kp [] H H' → Q .non H') ∧ ∀ pt' p H', nxP M.us pt = some pt' → SqT K H' p (pt'.map V.int) → Kp [] H H' → Q (.ref p) H'
theorem at_lo {us : List Un} {v : Int} {u : Un} (h0 : 0 ≤ v) (h : us[v.toNat]? = some u) : atI (us.map fun u => V.int u.2.1) v = some (.int u.2.1) := by
  have hi := (List.getElem?_eq_some_iff.mp h).1
  rw [atI_nat h0 (by rw [List.length_map]; omega), List.getElem?_map, h]
  rfl
theorem at_hi {us : List Un} {v : Int} {u : Un} (h0 : 0 ≤ v) (h : us[v.toNat]? = some u) : atI (us.map fun u => V.int u.2.2) v = some (.int u.2.2) := by
  have hi := (List.getElem?_eq_some_iff.mp h).1
  rw [atI_nat h0 (by rw [List.length_map]; omega), List.getElem?_map, h]
  rfl

/-! ### a tuple of the top -/
def TupIn (K : PySem.W.Frag) (a : Addr) (xs : List V) : Prop := ∃ (o : Obj) (its : Array Value) (n : Nat), K.lookup a = some o ∧ o.cls = .type "tuple" ∧ o.data = .seq its n ∧ its.size ≤ sizeLine ∧ Vals xs its.toList
theorem TupIn.sq {K : PySem.W.Frag} {a : Addr} {xs : List V} {H : Hp} (h : TupIn K a xs) : SqT K H a xs := .inr h

def top (i : Nat) : Stmt := PySem.Challenge.pw_commonground_k21_cost_of_a_look.main.body.getD i (.Pass ⟨0, 0, 0, 0⟩)
abbrev s_wall : Stmt := top 0
theorem sc_wall : FnScope ["k"] ["k"] (defScope s_wall) := ⟨rfl, rfl, rfl, by decide +kernel, rfl, by decide +kernel, by decide +kernel⟩
theorem st_wall (v0 : V) : L2.start ["k"] [v0] = [some v0] := rfl
abbrev s_relation_holds : Stmt := top 2
theorem sc_relation_holds : FnScope ["relation", "left", "right"] ["relation", "left", "right"] (defScope s_relation_holds) := ⟨rfl, rfl, rfl, by decide +kernel, rfl, by decide +kernel, by decide +kernel⟩
theorem st_relation_holds (v0 v1 v2 : V) : L2.start ["relation", "left", "right"] [v0, v1, v2] = [some v0, some v1, some v2] := rfl
abbrev s_literal_holds : Stmt := top 3
theorem sc_literal_holds : FnScope ["literal", "worth"] ["literal", "worth"] (defScope s_literal_holds) := ⟨rfl, rfl, rfl, by decide +kernel, rfl, by decide +kernel, by decide +kernel⟩
theorem st_literal_holds (v0 v1 : V) : L2.start ["literal", "worth"] [v0, v1] = [some v0, some v1] := rfl
abbrev s_negated : Stmt := top 4
theorem sc_negated : FnScope ["literal", "v", "relation", "a"] ["literal"] (defScope s_negated) := ⟨rfl, rfl, rfl, by decide +kernel, rfl, by decide +kernel, by decide +kernel⟩
theorem st_negated (v0 : V) : L2.start ["literal", "v", "relation", "a"] [v0] = [some v0, none, none, none] := rfl
abbrev s_literal_implies : Stmt := top 5
theorem sc_literal_implies : FnScope ["first", "second", "relation", "a", "wanted", "b"] ["first", "second"] (defScope s_literal_implies) := ⟨rfl, rfl, rfl, by decide +kernel, rfl, by decide +kernel, by decide +kernel⟩
theorem st_literal_implies (v0 v1 : V) : L2.start ["first", "second", "relation", "a", "wanted", "b"] [v0, v1] = [some v0, some v1, none, none, none, none] := rfl
abbrev s_terms_sum : Stmt := top 6
theorem sc_terms_sum : FnScope ["terms", "point", "total", "v", "c"] ["terms", "point"] (defScope s_terms_sum) := ⟨rfl, rfl, rfl, by decide +kernel, rfl, by decide +kernel, by decide +kernel⟩
theorem st_terms_sum (v0 v1 : V) : L2.start ["terms", "point", "total", "v", "c"] [v0, v1] = [some v0, some v1, none, none, none] := rfl
abbrev s_negated_terms : Stmt := top 7
theorem sc_negated_terms : FnScope ["terms", "v", "c"] ["terms"] (defScope s_negated_terms) := ⟨rfl, rfl, rfl, by decide +kernel, rfl, by decide +kernel, by decide +kernel⟩
theorem st_negated_terms (v0 : V) : L2.start ["terms", "v", "c"] [v0] = [some v0, none, none] := rfl
abbrev s_rows_of : Stmt := top 8
theorem sc_rows_of : FnScope ["terms", "relation", "rhs", "rows"] ["terms", "relation", "rhs"] (defScope s_rows_of) := ⟨rfl, rfl, rfl, by decide +kernel, rfl, by decide +kernel, by decide +kernel⟩
theorem st_rows_of (v0 v1 v2 : V) : L2.start ["terms", "relation", "rhs", "rows"] [v0, v1, v2] = [some v0, some v1, some v2, none] := rfl
abbrev s_fact_holds : Stmt := top 10
theorem sc_fact_holds : FnScope ["fact", "point", "literal"] ["fact", "point"] (defScope s_fact_holds) := ⟨rfl, rfl, rfl, by decide +kernel, rfl, by decide +kernel, by decide +kernel⟩
theorem st_fact_holds (v0 v1 : V) : L2.start ["fact", "point", "literal"] [v0, v1] = [some v0, some v1, none] := rfl
abbrev s_is_contradiction : Stmt := top 11
theorem sc_is_contradiction : FnScope ["fact"] ["fact"] (defScope s_is_contradiction) := ⟨rfl, rfl, rfl, by decide +kernel, rfl, by decide +kernel, by decide +kernel⟩
theorem st_is_contradiction (v0 : V) : L2.start ["fact"] [v0] = [some v0] := rfl
abbrev s_as_row : Stmt := top 12
theorem sc_as_row : FnScope ["fact", "v", "relation", "a"] ["fact"] (defScope s_as_row) := ⟨rfl, rfl, rfl, by decide +kernel, rfl, by decide +kernel, by decide +kernel⟩
theorem st_as_row (v0 : V) : L2.start ["fact", "v", "relation", "a"] [v0] = [some v0, none, none, none] := rfl
abbrev s_as_literal : Stmt := top 13
theorem sc_as_literal : FnScope ["fact", "v", "c"] ["fact"] (defScope s_as_literal) := ⟨rfl, rfl, rfl, by decide +kernel, rfl, by decide +kernel, by decide +kernel⟩
theorem st_as_literal (v0 : V) : L2.start ["fact", "v", "c"] [v0] = [some v0, none, none] := rfl
abbrev s_negation : Stmt := top 14
theorem sc_negation : FnScope ["fact"] ["fact"] (defScope s_negation) := ⟨rfl, rfl, rfl, by decide +kernel, rfl, by decide +kernel, by decide +kernel⟩
theorem st_negation (v0 : V) : L2.start ["fact"] [v0] = [some v0] := rfl
abbrev s_literals_imply : Stmt := top 15
theorem sc_literals_imply : FnScope ["first", "second", "literal", "other"] ["first", "second"] (defScope s_literals_imply) := ⟨rfl, rfl, rfl, by decide +kernel, rfl, by decide +kernel, by decide +kernel⟩
theorem st_literals_imply (v0 v1 : V) : L2.start ["first", "second", "literal", "other"] [v0, v1] = [some v0, some v1, none, none] := rfl
abbrev s_implies : Stmt := top 16
theorem sc_implies : FnScope ["first", "second", "row", "literal"] ["first", "second"] (defScope s_implies) := ⟨rfl, rfl, rfl, by decide +kernel, rfl, by decide +kernel, by decide +kernel⟩
theorem st_implies (v0 v1 : V) : L2.start ["first", "second", "row", "literal"] [v0, v1] = [some v0, some v1, none, none] := rfl
abbrev s_unknowns_in : Stmt := top 17
theorem sc_unknowns_in : FnScope ["fact", "part"] ["fact"] (defScope s_unknowns_in) := ⟨rfl, rfl, rfl, by decide +kernel, rfl, by decide +kernel, by decide +kernel⟩
theorem st_unknowns_in (v0 : V) : L2.start ["fact", "part"] [v0] = [some v0, none] := rfl
abbrev s_full_domains : Stmt := top 19
theorem sc_full_domains : FnScope ["model", "unknowns", "v"] ["model", "unknowns"] (defScope s_full_domains) := ⟨rfl, rfl, rfl, by decide +kernel, rfl, by decide +kernel, by decide +kernel⟩
theorem st_full_domains (v0 v1 : V) : L2.start ["model", "unknowns", "v"] [v0, v1] = [some v0, some v1, none] := rfl
abbrev s_drop_literals : Stmt := top 20
theorem sc_drop_literals : FnScope ["domains", "literals", "literal", "v", "a"] ["domains", "literals"] (defScope s_drop_literals) := ⟨rfl, rfl, rfl, by decide +kernel, rfl, by decide +kernel, by decide +kernel⟩
theorem st_drop_literals (v0 v1 : V) : L2.start ["domains", "literals", "literal", "v", "a"] [v0, v1] = [some v0, some v1, none, none, none] := rfl
abbrev s_keep_literal : Stmt := top 21
theorem sc_keep_literal : FnScope ["domains", "literal", "v", "a"] ["domains", "literal"] (defScope s_keep_literal) := ⟨rfl, rfl, rfl, by decide +kernel, rfl, by decide +kernel, by decide +kernel⟩
theorem st_keep_literal (v0 v1 : V) : L2.start ["domains", "literal", "v", "a"] [v0, v1] = [some v0, some v1, none, none] := rfl
abbrev s_least_of : Stmt := top 22
theorem sc_least_of : FnScope ["c", "values"] ["c", "values"] (defScope s_least_of) := ⟨rfl, rfl, rfl, by decide +kernel, rfl, by decide +kernel, by decide +kernel⟩
theorem st_least_of (v0 v1 : V) : L2.start ["c", "values"] [v0, v1] = [some v0, some v1] := rfl
abbrev s_apply_row : Stmt := top 23
theorem sc_apply_row : FnScope ["domains", "row", "least", "cut", "v", "c", "rest", "values", "a"] ["domains", "row"] (defScope s_apply_row) := ⟨rfl, rfl, rfl, by decide +kernel, rfl, by decide +kernel, by decide +kernel⟩
theorem st_apply_row (v0 v1 : V) : L2.start ["domains", "row", "least", "cut", "v", "c", "rest", "values", "a"] [v0, v1] = [some v0, some v1, none, none, none, none, none, none, none] := rfl
abbrev s_live_literals : Stmt := top 24
theorem sc_live_literals : FnScope ["domains", "literals", "literal", "a"] ["domains", "literals"] (defScope s_live_literals) := ⟨rfl, rfl, rfl, by decide +kernel, rfl, by decide +kernel, by decide +kernel⟩
theorem st_live_literals (v0 v1 : V) : L2.start ["domains", "literals", "literal", "a"] [v0, v1] = [some v0, some v1, none, none] := rfl
abbrev s_suppose_failing : Stmt := top 25
theorem sc_suppose_failing : FnScope ["domains", "fact"] ["domains", "fact"] (defScope s_suppose_failing) := ⟨rfl, rfl, rfl, by decide +kernel, rfl, by decide +kernel, by decide +kernel⟩
theorem st_suppose_failing (v0 v1 : V) : L2.start ["domains", "fact"] [v0, v1] = [some v0, some v1] := rfl
abbrev s_ends_in_conflict : Stmt := top 26
theorem sc_ends_in_conflict : FnScope ["domains", "facts", "fact", "live"] ["domains", "facts"] (defScope s_ends_in_conflict) := ⟨rfl, rfl, rfl, by decide +kernel, rfl, by decide +kernel, by decide +kernel⟩
theorem st_ends_in_conflict (v0 v1 : V) : L2.start ["domains", "facts", "fact", "live"] [v0, v1] = [some v0, some v1, none, none] := rfl
abbrev s_is_label : Stmt := top 33
theorem sc_is_label : FnScope ["text", "sign"] ["text"] (defScope s_is_label) := ⟨rfl, rfl, rfl, by decide +kernel, rfl, by decide +kernel, by decide +kernel⟩
theorem st_is_label (v0 : V) : L2.start ["text", "sign"] [v0] = [some v0, none] := rfl
abbrev s_unknowns_of : Stmt := top 34
theorem sc_unknowns_of : FnScope ["body", "kind", "found", "v", "c", "literal"] ["body"] (defScope s_unknowns_of) := ⟨rfl, rfl, rfl, by decide +kernel, rfl, by decide +kernel, by decide +kernel⟩
theorem st_unknowns_of (v0 : V) : L2.start ["body", "kind", "found", "v", "c", "literal"] [v0] = [some v0, none, none, none, none, none] := rfl
abbrev s_body_holds : Stmt := top 35
theorem sc_body_holds : FnScope ["body", "point", "kind", "literal", "at", "v"] ["body", "point"] (defScope s_body_holds) := ⟨rfl, rfl, rfl, by decide +kernel, rfl, by decide +kernel, by decide +kernel⟩
theorem st_body_holds (v0 v1 : V) : L2.start ["body", "point", "kind", "literal", "at", "v"] [v0, v1] = [some v0, some v1, none, none, none, none] := rfl
abbrev s_terms_fit : Stmt := top 36
theorem sc_terms_fit : FnScope ["terms", "many", "last", "v", "c"] ["terms", "many"] (defScope s_terms_fit) := ⟨rfl, rfl, rfl, by decide +kernel, rfl, by decide +kernel, by decide +kernel⟩
theorem st_terms_fit (v0 v1 : V) : L2.start ["terms", "many", "last", "v", "c"] [v0, v1] = [some v0, some v1, none, none, none] := rfl
abbrev s_literal_fits : Stmt := top 37
theorem sc_literal_fits : FnScope ["literal", "many", "v", "relation", "a"] ["literal", "many"] (defScope s_literal_fits) := ⟨rfl, rfl, rfl, by decide +kernel, rfl, by decide +kernel, by decide +kernel⟩
theorem st_literal_fits (v0 v1 : V) : L2.start ["literal", "many", "v", "relation", "a"] [v0, v1] = [some v0, some v1, none, none, none] := rfl
abbrev s_linear_fits : Stmt := top 38
theorem sc_linear_fits : FnScope ["terms", "relation", "rhs", "many"] ["terms", "relation", "rhs", "many"] (defScope s_linear_fits) := ⟨rfl, rfl, rfl, by decide +kernel, rfl, by decide +kernel, by decide +kernel⟩
theorem st_linear_fits (v0 v1 v2 v3 : V) : L2.start ["terms", "relation", "rhs", "many"] [v0, v1, v2, v3] = [some v0, some v1, some v2, some v3] := rfl
abbrev s_distinct_fit : Stmt := top 39
theorem sc_distinct_fit : FnScope ["numbers", "least", "most", "many", "v"] ["numbers", "least", "most", "many"] (defScope s_distinct_fit) := ⟨rfl, rfl, rfl, by decide +kernel, rfl, by decide +kernel, by decide +kernel⟩
theorem st_distinct_fit (v0 v1 v2 v3 : V) : L2.start ["numbers", "least", "most", "many", "v"] [v0, v1, v2, v3] = [some v0, some v1, some v2, some v3, none] := rfl
abbrev s_entries_fit : Stmt := top 40
theorem sc_entries_fit : FnScope ["entries", "entry"] ["entries"] (defScope s_entries_fit) := ⟨rfl, rfl, rfl, by decide +kernel, rfl, by decide +kernel, by decide +kernel⟩
theorem st_entries_fit (v0 : V) : L2.start ["entries", "entry"] [v0] = [some v0, none] := rfl
abbrev s_any_fits : Stmt := top 41
theorem sc_any_fits : FnScope ["literals", "many", "literal"] ["literals", "many"] (defScope s_any_fits) := ⟨rfl, rfl, rfl, by decide +kernel, rfl, by decide +kernel, by decide +kernel⟩
theorem st_any_fits (v0 v1 : V) : L2.start ["literals", "many", "literal"] [v0, v1] = [some v0, some v1, none] := rfl
abbrev s_table_fits : Stmt := top 42
theorem sc_table_fits : FnScope ["numbers", "rows", "many", "row"] ["numbers", "rows", "many"] (defScope s_table_fits) := ⟨rfl, rfl, rfl, by decide +kernel, rfl, by decide +kernel, by decide +kernel⟩
theorem st_table_fits (v0 v1 v2 : V) : L2.start ["numbers", "rows", "many", "row"] [v0, v1, v2] = [some v0, some v1, some v2, none] := rfl
abbrev s_body_fits : Stmt := top 43
theorem sc_body_fits : FnScope ["body", "many", "kind", "inside", "v"] ["body", "many"] (defScope s_body_fits) := ⟨rfl, rfl, rfl, by decide +kernel, rfl, by decide +kernel, by decide +kernel⟩
theorem st_body_fits (v0 v1 : V) : L2.start ["body", "many", "kind", "inside", "v"] [v0, v1] = [some v0, some v1, none, none, none] := rfl
abbrev s_cost_of : Stmt := top 46
theorem sc_cost_of : FnScope ["body", "domains", "kind", "unknowns", "cost", "v"] ["body", "domains"] (defScope s_cost_of) := ⟨rfl, rfl, rfl, by decide +kernel, rfl, by decide +kernel, by decide +kernel⟩
theorem st_cost_of (v0 v1 : V) : L2.start ["body", "domains", "kind", "unknowns", "cost", "v"] [v0, v1] = [some v0, some v1, none, none, none, none] := rfl
abbrev s_look_cost : Stmt := top 47
theorem sc_look_cost : FnScope ["model", "body", "fact", "domains"] ["model", "body", "fact"] (defScope s_look_cost) := ⟨rfl, rfl, rfl, by decide +kernel, rfl, by decide +kernel, by decide +kernel⟩
theorem st_look_cost (v0 v1 v2 : V) : L2.start ["model", "body", "fact", "domains"] [v0, v1, v2] = [some v0, some v1, some v2, none] := rfl
abbrev s_wider : Stmt := top 48
theorem sc_wider : FnScope ["choices", "v", "values", "found", "choice", "a", "more"] ["choices", "v", "values"] (defScope s_wider) := ⟨rfl, rfl, rfl, by decide +kernel, rfl, by decide +kernel, by decide +kernel⟩
theorem st_wider (v0 v1 v2 : V) : L2.start ["choices", "v", "values", "found", "choice", "a", "more"] [v0, v1, v2] = [some v0, some v1, some v2, none, none, none, none] := rfl
abbrev s_all_choices : Stmt := top 49
theorem sc_all_choices : FnScope ["unknowns", "domains", "choices", "v"] ["unknowns", "domains"] (defScope s_all_choices) := ⟨rfl, rfl, rfl, by decide +kernel, rfl, by decide +kernel, by decide +kernel⟩
theorem st_all_choices (v0 v1 : V) : L2.start ["unknowns", "domains", "choices", "v"] [v0, v1] = [some v0, some v1, none, none] := rfl
abbrev s_with_result : Stmt := top 50
theorem sc_with_result : FnScope ["choice", "z", "worth", "domains", "more"] ["choice", "z", "worth", "domains"] (defScope s_with_result) := ⟨rfl, rfl, rfl, by decide +kernel, rfl, by decide +kernel, by decide +kernel⟩
theorem st_with_result (v0 v1 v2 v3 : V) : L2.start ["choice", "z", "worth", "domains", "more"] [v0, v1, v2, v3] = [some v0, some v1, some v2, some v3, none] := rfl
abbrev s_table_choices : Stmt := top 51
theorem sc_table_choices : FnScope ["body", "domains", "found", "row", "v", "a"] ["body", "domains"] (defScope s_table_choices) := ⟨rfl, rfl, rfl, by decide +kernel, rfl, by decide +kernel, by decide +kernel⟩
theorem st_table_choices (v0 v1 : V) : L2.start ["body", "domains", "found", "row", "v", "a"] [v0, v1] = [some v0, some v1, none, none, none, none] := rfl
abbrev s_result_choices : Stmt := top 52
theorem sc_result_choices : FnScope ["body", "domains", "found", "inputs", "choice", "worth", "more"] ["body", "domains"] (defScope s_result_choices) := ⟨rfl, rfl, rfl, by decide +kernel, rfl, by decide +kernel, by decide +kernel⟩
theorem st_result_choices (v0 v1 : V) : L2.start ["body", "domains", "found", "inputs", "choice", "worth", "more"] [v0, v1] = [some v0, some v1, none, none, none, none, none] := rfl
abbrev s_body_choices : Stmt := top 53
theorem sc_body_choices : FnScope ["body", "domains", "choice"] ["body", "domains"] (defScope s_body_choices) := ⟨rfl, rfl, rfl, by decide +kernel, rfl, by decide +kernel, by decide +kernel⟩
theorem st_body_choices (v0 v1 : V) : L2.start ["body", "domains", "choice"] [v0, v1] = [some v0, some v1, none] := rfl
abbrev s_premises_of : Stmt := top 56
theorem sc_premises_of : FnScope ["step", "rule", "i", "m"] ["step"] (defScope s_premises_of) := ⟨rfl, rfl, rfl, by decide +kernel, rfl, by decide +kernel, by decide +kernel⟩
theorem st_premises_of (v0 : V) : L2.start ["step", "rule", "i", "m"] [v0] = [some v0, none, none, none] := rfl
abbrev s_known : Stmt := top 57
theorem sc_known : FnScope ["model", "entries", "step", "i", "v"] ["model", "entries", "step"] (defScope s_known) := ⟨rfl, rfl, rfl, by decide +kernel, rfl, by decide +kernel, by decide +kernel⟩
theorem st_known (v0 v1 v2 : V) : L2.start ["model", "entries", "step", "i", "v"] [v0, v1, v2] = [some v0, some v1, some v2, none, none] := rfl
abbrev s_follows_bound : Stmt := top 58
theorem sc_follows_bound : FnScope ["model", "fact", "v"] ["model", "fact", "v"] (defScope s_follows_bound) := ⟨rfl, rfl, rfl, by decide +kernel, rfl, by decide +kernel, by decide +kernel⟩
theorem st_follows_bound (v0 v1 v2 : V) : L2.start ["model", "fact", "v"] [v0, v1, v2] = [some v0, some v1, some v2] := rfl
abbrev s_follows_given : Stmt := top 59
theorem sc_follows_given : FnScope ["body", "fact"] ["body", "fact"] (defScope s_follows_given) := ⟨rfl, rfl, rfl, by decide +kernel, rfl, by decide +kernel, by decide +kernel⟩
theorem st_follows_given (v0 v1 : V) : L2.start ["body", "fact"] [v0, v1] = [some v0, some v1] := rfl
abbrev s_follows_sum : Stmt := top 60
theorem sc_follows_sum : FnScope ["entries", "fact", "pairs", "sums", "rhs", "i", "m", "row", "v", "c", "terms"] ["entries", "fact", "pairs"] (defScope s_follows_sum) := ⟨rfl, rfl, rfl, by decide +kernel, rfl, by decide +kernel, by decide +kernel⟩
theorem st_follows_sum (v0 v1 v2 : V) : L2.start ["entries", "fact", "pairs", "sums", "rhs", "i", "m", "row", "v", "c", "terms"] [v0, v1, v2] = [some v0, some v1, some v2, none, none, none, none, none, none, none, none] := rfl
abbrev s_follows_divide : Stmt := top 61
theorem sc_follows_divide : FnScope ["fact", "premise", "d", "row", "terms", "v", "c"] ["fact", "premise", "d"] (defScope s_follows_divide) := ⟨rfl, rfl, rfl, by decide +kernel, rfl, by decide +kernel, by decide +kernel⟩
theorem st_follows_divide (v0 v1 v2 : V) : L2.start ["fact", "premise", "d", "row", "terms", "v", "c"] [v0, v1, v2] = [some v0, some v1, some v2, none, none, none, none] := rfl
abbrev s_follows_look : Stmt := top 62
theorem sc_follows_look : FnScope ["model", "body", "fact", "hints", "unknowns", "other", "domains", "hint", "literal", "choice", "v"] ["model", "body", "fact", "hints"] (defScope s_follows_look) := ⟨rfl, rfl, rfl, by decide +kernel, rfl, by decide +kernel, by decide +kernel⟩
theorem st_follows_look (v0 v1 v2 v3 : V) : L2.start ["model", "body", "fact", "hints", "unknowns", "other", "domains", "hint", "literal", "choice", "v"] [v0, v1, v2, v3] = [some v0, some v1, some v2, some v3, none, none, none, none, none, none, none] := rfl
abbrev s_follows_apart : Stmt := top 63
theorem sc_follows_apart : FnScope ["body", "fact", "x", "first", "a", "y", "second", "b"] ["body", "fact"] (defScope s_follows_apart) := ⟨rfl, rfl, rfl, by decide +kernel, rfl, by decide +kernel, by decide +kernel⟩
theorem st_follows_apart (v0 v1 : V) : L2.start ["body", "fact", "x", "first", "a", "y", "second", "b"] [v0, v1] = [some v0, some v1, none, none, none, none, none, none] := rfl
abbrev s_follows_then : Stmt := top 64
theorem sc_follows_then : FnScope ["body", "fact", "premise"] ["body", "fact", "premise"] (defScope s_follows_then) := ⟨rfl, rfl, rfl, by decide +kernel, rfl, by decide +kernel, by decide +kernel⟩
theorem st_follows_then (v0 v1 v2 : V) : L2.start ["body", "fact", "premise"] [v0, v1, v2] = [some v0, some v1, some v2] := rfl
abbrev s_follows_unit : Stmt := top 65
theorem sc_follows_unit : FnScope ["model", "fact", "facts", "unknowns", "other", "domains"] ["model", "fact", "facts"] (defScope s_follows_unit) := ⟨rfl, rfl, rfl, by decide +kernel, rfl, by decide +kernel, by decide +kernel⟩
theorem st_follows_unit (v0 v1 v2 : V) : L2.start ["model", "fact", "facts", "unknowns", "other", "domains"] [v0, v1, v2] = [some v0, some v1, some v2, none, none, none] := rfl
abbrev s_follows_cases : Stmt := top 66
theorem sc_follows_cases : FnScope ["entries", "step", "fact", "rule", "i", "j", "s", "t"] ["entries", "step"] (defScope s_follows_cases) := ⟨rfl, rfl, rfl, by decide +kernel, rfl, by decide +kernel, by decide +kernel⟩
theorem st_follows_cases (v0 v1 : V) : L2.start ["entries", "step", "fact", "rule", "i", "j", "s", "t"] [v0, v1] = [some v0, some v1, none, none, none, none, none, none] := rfl
abbrev s_follows_label : Stmt := top 67
theorem sc_follows_label : FnScope ["model", "entries", "step", "rule", "body", "i"] ["model", "entries", "step"] (defScope s_follows_label) := ⟨rfl, rfl, rfl, by decide +kernel, rfl, by decide +kernel, by decide +kernel⟩
theorem st_follows_label (v0 v1 v2 : V) : L2.start ["model", "entries", "step", "rule", "body", "i"] [v0, v1, v2] = [some v0, some v1, some v2, none, none, none] := rfl
abbrev s_follows : Stmt := top 68
theorem sc_follows : FnScope ["model", "entries", "step", "rule", "i"] ["model", "entries", "step"] (defScope s_follows) := ⟨rfl, rfl, rfl, by decide +kernel, rfl, by decide +kernel, by decide +kernel⟩
theorem st_follows (v0 v1 v2 : V) : L2.start ["model", "entries", "step", "rule", "i"] [v0, v1, v2] = [some v0, some v1, some v2, none, none] := rfl
abbrev s_Taken___init__ : Stmt := inClass (top 72) 0
theorem sc_Taken___init__ : FnScope ["self", "what"] ["self", "what"] (defScope s_Taken___init__) := ⟨rfl, rfl, rfl, by decide +kernel, rfl, by decide +kernel, by decide +kernel⟩
theorem st_Taken___init__ (v0 v1 : V) : L2.start ["self", "what"] [v0, v1] = [some v0, some v1] := rfl
abbrev s_NoSuch___init__ : Stmt := inClass (top 73) 0
theorem sc_NoSuch___init__ : FnScope ["self", "what"] ["self", "what"] (defScope s_NoSuch___init__) := ⟨rfl, rfl, rfl, by decide +kernel, rfl, by decide +kernel, by decide +kernel⟩
theorem st_NoSuch___init__ (v0 v1 : V) : L2.start ["self", "what"] [v0, v1] = [some v0, some v1] := rfl
abbrev s_bounds_fit : Stmt := top 79
theorem sc_bounds_fit : FnScope ["low", "high"] ["low", "high"] (defScope s_bounds_fit) := ⟨rfl, rfl, rfl, by decide +kernel, rfl, by decide +kernel, by decide +kernel⟩
theorem st_bounds_fit (v0 v1 : V) : L2.start ["low", "high"] [v0, v1] = [some v0, some v1] := rfl
abbrev s_Model___init__ : Stmt := inClass (top 80) 0
theorem sc_Model___init__ : FnScope ["self", "unknowns", "name", "low", "high"] ["self", "unknowns"] (defScope s_Model___init__) := ⟨rfl, rfl, rfl, by decide +kernel, rfl, by decide +kernel, by decide +kernel⟩
theorem st_Model___init__ (v0 v1 : V) : L2.start ["self", "unknowns", "name", "low", "high"] [v0, v1] = [some v0, some v1, none, none, none] := rfl
abbrev s_Model__need : Stmt := inClass (top 80) 1
theorem sc_Model__need : FnScope ["self", "v"] ["self", "v"] (defScope s_Model__need) := ⟨rfl, rfl, rfl, by decide +kernel, rfl, by decide +kernel, by decide +kernel⟩
theorem st_Model__need (v0 v1 : V) : L2.start ["self", "v"] [v0, v1] = [some v0, some v1] := rfl
abbrev s_Model_many : Stmt := inClass (top 80) 2
theorem sc_Model_many : FnScope ["self"] ["self"] (defScope s_Model_many) := ⟨rfl, rfl, rfl, by decide +kernel, rfl, by decide +kernel, by decide +kernel⟩
theorem st_Model_many (v0 : V) : L2.start ["self"] [v0] = [some v0] := rfl
abbrev s_Model_name : Stmt := inClass (top 80) 3
theorem sc_Model_name : FnScope ["self", "v"] ["self", "v"] (defScope s_Model_name) := ⟨rfl, rfl, rfl, by decide +kernel, rfl, by decide +kernel, by decide +kernel⟩
theorem st_Model_name (v0 v1 : V) : L2.start ["self", "v"] [v0, v1] = [some v0, some v1] := rfl
abbrev s_Model_low : Stmt := inClass (top 80) 4
theorem sc_Model_low : FnScope ["self", "v"] ["self", "v"] (defScope s_Model_low) := ⟨rfl, rfl, rfl, by decide +kernel, rfl, by decide +kernel, by decide +kernel⟩
theorem st_Model_low (v0 v1 : V) : L2.start ["self", "v"] [v0, v1] = [some v0, some v1] := rfl
abbrev s_Model_high : Stmt := inClass (top 80) 5
theorem sc_Model_high : FnScope ["self", "v"] ["self", "v"] (defScope s_Model_high) := ⟨rfl, rfl, rfl, by decide +kernel, rfl, by decide +kernel, by decide +kernel⟩
theorem st_Model_high (v0 v1 : V) : L2.start ["self", "v"] [v0, v1] = [some v0, some v1] := rfl
abbrev s_Model_number : Stmt := inClass (top 80) 6
theorem sc_Model_number : FnScope ["self", "name"] ["self", "name"] (defScope s_Model_number) := ⟨rfl, rfl, rfl, by decide +kernel, rfl, by decide +kernel, by decide +kernel⟩
theorem st_Model_number (v0 v1 : V) : L2.start ["self", "name"] [v0, v1] = [some v0, some v1] := rfl
abbrev s_Model_labels : Stmt := inClass (top 80) 7
theorem sc_Model_labels : FnScope ["self"] ["self"] (defScope s_Model_labels) := ⟨rfl, rfl, rfl, by decide +kernel, rfl, by decide +kernel, by decide +kernel⟩
theorem st_Model_labels (v0 : V) : L2.start ["self"] [v0] = [some v0] := rfl
abbrev s_Model_has : Stmt := inClass (top 80) 8
theorem sc_Model_has : FnScope ["self", "label"] ["self", "label"] (defScope s_Model_has) := ⟨rfl, rfl, rfl, by decide +kernel, rfl, by decide +kernel, by decide +kernel⟩
theorem st_Model_has (v0 v1 : V) : L2.start ["self", "label"] [v0, v1] = [some v0, some v1] := rfl
abbrev s_Model_body : Stmt := inClass (top 80) 9
theorem sc_Model_body : FnScope ["self", "label"] ["self", "label"] (defScope s_Model_body) := ⟨rfl, rfl, rfl, by decide +kernel, rfl, by decide +kernel, by decide +kernel⟩
theorem st_Model_body (v0 v1 : V) : L2.start ["self", "label"] [v0, v1] = [some v0, some v1] := rfl
abbrev s_Model_goal : Stmt := inClass (top 80) 10
theorem sc_Model_goal : FnScope ["self"] ["self"] (defScope s_Model_goal) := ⟨rfl, rfl, rfl, by decide +kernel, rfl, by decide +kernel, by decide +kernel⟩
theorem st_Model_goal (v0 : V) : L2.start ["self"] [v0] = [some v0] := rfl
abbrev s_Model_put : Stmt := inClass (top 80) 11
theorem sc_Model_put : FnScope ["self", "label", "body"] ["self", "label", "body"] (defScope s_Model_put) := ⟨rfl, rfl, rfl, by decide +kernel, rfl, by decide +kernel, by decide +kernel⟩
theorem st_Model_put (v0 v1 v2 : V) : L2.start ["self", "label", "body"] [v0, v1, v2] = [some v0, some v1, some v2] := rfl
abbrev s_Model_withdraw : Stmt := inClass (top 80) 12
theorem sc_Model_withdraw : FnScope ["self", "label"] ["self", "label"] (defScope s_Model_withdraw) := ⟨rfl, rfl, rfl, by decide +kernel, rfl, by decide +kernel, by decide +kernel⟩
theorem st_Model_withdraw (v0 v1 : V) : L2.start ["self", "label"] [v0, v1] = [some v0, some v1] := rfl
abbrev s_Model_move : Stmt := inClass (top 80) 13
theorem sc_Model_move : FnScope ["self", "v", "low", "high"] ["self", "v", "low", "high"] (defScope s_Model_move) := ⟨rfl, rfl, rfl, by decide +kernel, rfl, by decide +kernel, by decide +kernel⟩
theorem st_Model_move (v0 v1 v2 v3 : V) : L2.start ["self", "v", "low", "high"] [v0, v1, v2, v3] = [some v0, some v1, some v2, some v3] := rfl
abbrev s_Model_aim : Stmt := inClass (top 80) 14
theorem sc_Model_aim : FnScope ["self", "goal"] ["self", "goal"] (defScope s_Model_aim) := ⟨rfl, rfl, rfl, by decide +kernel, rfl, by decide +kernel, by decide +kernel⟩
theorem st_Model_aim (v0 v1 : V) : L2.start ["self", "goal"] [v0, v1] = [some v0, some v1] := rfl
abbrev s_Model_inside : Stmt := inClass (top 80) 15
theorem sc_Model_inside : FnScope ["self", "point", "v"] ["self", "point"] (defScope s_Model_inside) := ⟨rfl, rfl, rfl, by decide +kernel, rfl, by decide +kernel, by decide +kernel⟩
theorem st_Model_inside (v0 v1 : V) : L2.start ["self", "point", "v"] [v0, v1] = [some v0, some v1, none] := rfl
abbrev s_Model_broken : Stmt := inClass (top 80) 16
theorem sc_Model_broken : FnScope ["self", "point"] ["self", "point"] (defScope s_Model_broken) := ⟨rfl, rfl, rfl, by decide +kernel, rfl, by decide +kernel, by decide +kernel⟩
theorem st_Model_broken (v0 v1 : V) : L2.start ["self", "point"] [v0, v1] = [some v0, some v1] := rfl
abbrev s_Model_is_solution : Stmt := inClass (top 80) 17
theorem sc_Model_is_solution : FnScope ["self", "point"] ["self", "point"] (defScope s_Model_is_solution) := ⟨rfl, rfl, rfl, by decide +kernel, rfl, by decide +kernel, by decide +kernel⟩
theorem st_Model_is_solution (v0 v1 : V) : L2.start ["self", "point"] [v0, v1] = [some v0, some v1] := rfl
abbrev s_Model_worth : Stmt := inClass (top 80) 18
theorem sc_Model_worth : FnScope ["self", "point"] ["self", "point"] (defScope s_Model_worth) := ⟨rfl, rfl, rfl, by decide +kernel, rfl, by decide +kernel, by decide +kernel⟩
theorem st_Model_worth (v0 v1 : V) : L2.start ["self", "point"] [v0, v1] = [some v0, some v1] := rfl
abbrev s_Model_is_better : Stmt := inClass (top 80) 19
theorem sc_Model_is_better : FnScope ["self", "first", "second"] ["self", "first", "second"] (defScope s_Model_is_better) := ⟨rfl, rfl, rfl, by decide +kernel, rfl, by decide +kernel, by decide +kernel⟩
theorem st_Model_is_better (v0 v1 v2 : V) : L2.start ["self", "first", "second"] [v0, v1, v2] = [some v0, some v1, some v2] := rfl
abbrev s_Model_goal_row : Stmt := inClass (top 80) 20
theorem sc_Model_goal_row : FnScope ["self", "worth"] ["self", "worth"] (defScope s_Model_goal_row) := ⟨rfl, rfl, rfl, by decide +kernel, rfl, by decide +kernel, by decide +kernel⟩
theorem st_Model_goal_row (v0 v1 : V) : L2.start ["self", "worth"] [v0, v1] = [some v0, some v1] := rfl
abbrev s_Model_improving_row : Stmt := inClass (top 80) 21
theorem sc_Model_improving_row : FnScope ["self", "worth"] ["self", "worth"] (defScope s_Model_improving_row) := ⟨rfl, rfl, rfl, by decide +kernel, rfl, by decide +kernel, by decide +kernel⟩
theorem st_Model_improving_row (v0 v1 : V) : L2.start ["self", "worth"] [v0, v1] = [some v0, some v1] := rfl
abbrev s_Model_told : Stmt := inClass (top 80) 22
theorem sc_Model_told : FnScope ["self"] ["self"] (defScope s_Model_told) := ⟨rfl, rfl, rfl, by decide +kernel, rfl, by decide +kernel, by decide +kernel⟩
theorem st_Model_told (v0 : V) : L2.start ["self"] [v0] = [some v0] := rfl
abbrev s_Model_copy : Stmt := inClass (top 80) 23
theorem sc_Model_copy : FnScope ["self"] ["self"] (defScope s_Model_copy) := ⟨rfl, rfl, rfl, by decide +kernel, rfl, by decide +kernel, by decide +kernel⟩
theorem st_Model_copy (v0 : V) : L2.start ["self"] [v0] = [some v0] := rfl
abbrev s_law_same : Stmt := top 82
theorem sc_law_same : FnScope ["_law_told", "_law_due"] ["_law_told", "_law_due"] (defScope s_law_same) := ⟨rfl, rfl, rfl, by decide +kernel, rfl, by decide +kernel, by decide +kernel⟩
theorem st_law_same (v0 v1 : V) : L2.start ["_law_told", "_law_due"] [v0, v1] = [some v0, some v1] := rfl
abbrev s_law_draw : Stmt := top 83
theorem sc_law_draw : FnScope ["_law_tape_here", "_law_many", "_law_cells", "_law_k", "_law_cell", "_law_digit"] ["_law_tape_here", "_law_many"] (defScope s_law_draw) := ⟨rfl, rfl, rfl, by decide +kernel, rfl, by decide +kernel, by decide +kernel⟩
theorem st_law_draw (v0 v1 : V) : L2.start ["_law_tape_here", "_law_many", "_law_cells", "_law_k", "_law_cell", "_law_digit"] [v0, v1] = [some v0, some v1, none, none, none, none] := rfl
abbrev s_law_tape : Stmt := top 84
theorem sc_law_tape : FnScope ["_law_script"] ["_law_script"] (defScope s_law_tape) := ⟨rfl, rfl, rfl, by decide +kernel, rfl, by decide +kernel, by decide +kernel⟩
theorem st_law_tape (v0 : V) : L2.start ["_law_script"] [v0] = [some v0] := rfl
abbrev s_law_body : Stmt := top 85
theorem sc_law_body : FnScope ["_law_tape_here", "_law_kind"] ["_law_tape_here"] (defScope s_law_body) := ⟨rfl, rfl, rfl, by decide +kernel, rfl, by decide +kernel, by decide +kernel⟩
theorem st_law_body (v0 : V) : L2.start ["_law_tape_here", "_law_kind"] [v0] = [some v0, none] := rfl
abbrev s_law_sizes : Stmt := top 86
theorem sc_law_sizes : FnScope ["_law_tape_here", "_law_sizes_here", "_law_v"] ["_law_tape_here"] (defScope s_law_sizes) := ⟨rfl, rfl, rfl, by decide +kernel, rfl, by decide +kernel, by decide +kernel⟩
theorem st_law_sizes (v0 : V) : L2.start ["_law_tape_here", "_law_sizes_here", "_law_v"] [v0] = [some v0, none, none] := rfl
abbrev s_law_behind_a_hint : Stmt := top 87
theorem sc_law_behind_a_hint : FnScope ["_law_tape_here", "_law_model", "_law_body_here", "_law_counted", "_law_sizes_here", "_law_cut", "_law_hint", "_law_due", "_law_v", "_law_fact", "_law_told"] ["_law_tape_here", "_law_model", "_law_body_here", "_law_counted", "_law_sizes_here"] (defScope s_law_behind_a_hint) := ⟨rfl, rfl, rfl, by decide +kernel, rfl, by decide +kernel, by decide +kernel⟩
theorem st_law_behind_a_hint (v0 v1 v2 v3 v4 : V) : L2.start ["_law_tape_here", "_law_model", "_law_body_here", "_law_counted", "_law_sizes_here", "_law_cut", "_law_hint", "_law_due", "_law_v", "_law_fact", "_law_told"] [v0, v1, v2, v3, v4] = [some v0, some v1, some v2, some v3, some v4, none, none, none, none, none, none] := rfl
abbrev s_law : Stmt := top 88
theorem sc_law : FnScope ["_law_script", "_law_tape_here", "_law_sizes_here", "_law_body_here", "_law_counted", "_law_model", "_law_fact", "_law_left", "_law_cut", "_law_due", "_law_v", "_law_cost", "_law_part", "_law_kept"] ["_law_script"] (defScope s_law) := ⟨rfl, rfl, rfl, by decide +kernel, rfl, by decide +kernel, by decide +kernel⟩
theorem st_law (v0 : V) : L2.start ["_law_script", "_law_tape_here", "_law_sizes_here", "_law_body_here", "_law_counted", "_law_model", "_law_fact", "_law_left", "_law_cut", "_law_due", "_law_v", "_law_cost", "_law_part", "_law_kept"] [v0] = [some v0, none, none, none, none, none, none, none, none, none, none, none, none, none] := rfl
structure Bi (K : PySem.W.Frag) (mg : Str → Option Value) (C_Model : Addr) : Prop where
  n_len : mg "len" = none
  n_int : mg "int" = none
  n_list : mg "list" = none
  n_tuple : mg "tuple" = none
  n_range : mg "range" = none
  n_all : mg "all" = none
  n_any : mg "any" = none
  n_isinstance : mg "isinstance" = none
  n_bool : mg "bool" = none
  n_abs : mg "abs" = none
  n_set : mg "set" = none
  n_str : mg "str" = none
  n_sorted : mg "sorted" = none
  n_sum : mg "sum" = none
  n_min : mg "min" = none
  n_max : mg "max" = none
  n_zip : mg "zip" = none
  n_enumerate : mg "enumerate" = none
  n_dict : mg "dict" = none
  c_COEFFICIENT_MOST : ∃ u, mg "COEFFICIENT_MOST" = some u ∧ RelV (.int 1000000) u
  c_SUM_MOST : ∃ u, mg "SUM_MOST" = some u ∧ RelV (.int 1000000000) u
  c_ENTRY_MOST : ∃ u, mg "ENTRY_MOST" = some u ∧ RelV (.int 1000) u
  c_LETTERS : ∃ u, mg "LETTERS" = some u ∧ RelV (.str (Str.ofString "abcdefghijklmnopqrstuvwxyz")) u
  c_DIGITS : ∃ u, mg "DIGITS" = some u ∧ RelV (.str (Str.ofString "0123456789")) u
  c_UNKNOWNS_MOST : ∃ u, mg "UNKNOWNS_MOST" = some u ∧ RelV (.int 60) u
  c_CONSTRAINTS_MOST : ∃ u, mg "CONSTRAINTS_MOST" = some u ∧ RelV (.int 200) u
  c_BOUND_MOST : ∃ u, mg "BOUND_MOST" = some u ∧ RelV (.int 1000) u
  c_COST_MOST : ∃ u, mg "COST_MOST" = some u ∧ RelV (.int 400) u
  t_LABEL_RULES : ∃ a, mg "LABEL_RULES" = some (.ref a) ∧ TupIn K a [.str (Str.ofString "given"), .str (Str.ofString "look"), .str (Str.ofString "apart"), .str (Str.ofString "then")]
  cl_Model : Cls K C_Model
  at_Model__names : NoAttr K C_Model "_names"
  at_Model__lows : NoAttr K C_Model "_lows"
  at_Model__highs : NoAttr K C_Model "_highs"
  at_Model__bodies : NoAttr K C_Model "_bodies"
  at_Model__goal : NoAttr K C_Model "_goal"
section
variable {P : Program} {w : World} {K : PySem.W.Frag} {mg : Str → Option Value} {base : Heap} {C_Model : Addr}
theorem ok_relation_holds {f : Addr} {fd : FuncData} (F : Fun K "relation_holds" "relation_holds" s_relation_holds f fd) (B : Bi K mg C_Model)  : FnOk P w K mg base CX0 1 f fd ["relation", "left", "right"] spRel := by
  have nd := sc_relation_holds.nd
  refine F.ok sc_relation_holds ?len (fun cdv A outer s H vs Q E hr h => ?body)
  case len =>
    rintro vs H Q E ⟨r, a, b, rfl, _⟩
    rfl
  case body =>
    obtain ⟨r, a, b, rfl, q⟩ := h
    refine ⟨_, (pss_cons (ps_if (pt_cmpR op_eq (pv 0) pe_str (nomark _))
      (pss_one (ps_ret (pe_cmpR op_le (pv 1) (pv 2) (nomark _))))
      pss_nil)
      (pss_cons (ps_if (pt_cmpR op_eq (pv 0) pe_str (nomark _))
      (pss_one (ps_ret (pe_cmpR op_ge (pv 1) (pv 2) (nomark _))))
      pss_nil)
      (pss_cons (ps_if (pt_cmpR op_eq (pv 0) pe_str (nomark _))
      (pss_one (ps_ret (pe_cmpR op_eq (pv 1) (pv 2) (nomark _))))
      pss_nil)
      (pss_one (ps_ret (pe_cmpR op_ne (pv 1) (pv 2) (nomark _))))))), ?_⟩
    try dsimp only [L2.cxOf, L2.Cx.nox, L2.Cx.wish]
    rw [st_relation_holds]
    cases r
    all_goals
      walk_at "cg"
      exact q

theorem ok_literal_holds {f : Addr} {fd : FuncData} (F : Fun K "literal_holds" "literal_holds" s_literal_holds f fd) (B : Bi K mg C_Model) (D_relation_holds : Is P w K mg base CX0 1 "relation_holds" ["relation", "left", "right"] spRel) : FnOk P w K mg base CX0 2 f fd ["literal", "worth"] (spLit K) := by
  have nd := sc_literal_holds.nd
  refine F.ok sc_literal_holds ?len (fun cdv A outer s H vs Q E hr h => ?body)
  case len =>
    rintro vs H Q E ⟨p, v, r, a, x, rfl, _⟩
    rfl
  case body =>
    obtain ⟨p, v, r, a, x, rfl, hL, q⟩ := h
    refine ⟨_, (pss_one (ps_ret (pe_is D_relation_holds (hr.mono (by decide)) rfl pass0 (pa_cons (pe_ix (ixT K) (pv 0) pe_int (fun _ _ => rfl)) (pa_cons (pv 1) (pa_cons (pe_ix (ixT K) (pv 0) pe_int (fun _ _ => rfl)) pa_nil)))))), ?_⟩
    try dsimp only [L2.cxOf, L2.Cx.nox, L2.Cx.wish]
    rw [st_literal_holds]
    walk_at "cg"
    exact q

theorem ok_terms_sum {f : Addr} {fd : FuncData} (F : Fun K "terms_sum" "terms_sum" s_terms_sum f fd) (B : Bi K mg C_Model)  : FnOk P w K mg base CX0 1 f fd ["terms", "point"] (spSumF K) := by
  have nd := sc_terms_sum.nd
  refine F.ok sc_terms_sum ?len (fun cdv A outer s H vs Q E hr h => ?body)
  case len =>
    rintro vs H Q E ⟨p, q, ts, f, dom, rfl, _⟩
    rfl
  case body =>
    obtain ⟨p, q, ts, f, dom, rfl, hI, hP, hD, hT, k⟩ := h
    refine ⟨_, (pss_cons (ps_set (i := 2) nd rfl (Or.inl rfl) pe_int)
      (pss_cons (ps_for PassesOwn.never rfl (pi_tup (pv 0)) (pg_tup (n := 2) rfl (pgs_cons (pg_name (i := 3) nd rfl (Or.inl rfl)) (pgs_cons (pg_name (i := 4) nd rfl (Or.inl rfl)) pgs_nil)))
      (pss_one (ps_aug (i := 2) nd rfl (Or.inl rfl) (pe_op op_mul (pv 4) (pe_ix (ixP K) (pv 1) (pv 3) (fun _ _ => rfl))) ip_add)))
      (pss_one (ps_ret (pv 2))))), ?_⟩
    try dsimp only [L2.cxOf, L2.Cx.nox, L2.Cx.wish]
    rw [st_terms_sum]
    obtain ⟨xs, h1, h2⟩ := hI.open
    walk_at "cg"
    refine r_forTI [] h1 h2 (fun i σ' H' => ∃ x3 x4 : Option V, σ' = [some (.ref p), some (.ref q), some (.int (sumF (ts.take i) f)), x3, x4] ∧ H = H') ⟨_, _, rfl, rfl⟩ (fun i σ' H' ⟨_, _, _, e⟩ => e ▸ .refl) ?_ ?_
    · rintro i z x σ' H' hz hxd _ ⟨x3, x4, rfl, rfl⟩
      obtain ⟨px, rfl, hs⟩ := term_at hxd
      have hzt := hT z (List.mem_of_getElem? hz)
      walk_at "cg"
      refine r_pt hP (hD z (List.mem_of_getElem? hz)) ?_
      walk_at "cg"
      exact ⟨_, _, by rw [sumF_take f hz], rfl⟩
    · rintro σ' H' _ ⟨x3, x4, rfl, rfl⟩
      walk_at "cg"
      rw [List.take_length]
      exact k

theorem ok_is_label {f : Addr} {fd : FuncData} (F : Fun K "is_label" "is_label" s_is_label f fd) (B : Bi K mg C_Model)  : FnOk P w K mg base CX0 1 f fd ["text"] spLabel := by
  have nd := sc_is_label.nd
  refine F.ok sc_is_label ?len (fun cdv A outer s H vs Q E hr h => ?body)
  case len =>
    rintro vs H Q E ⟨s, rfl, _⟩
    rfl
  case body =>
    obtain ⟨s, rfl, hl, k⟩ := h
    refine ⟨_, (pss_cons (ps_if (PW.pt (pw_or (pt_not (pt_chain op_le op_le pe_int (pe_callB cg_lenS (by rfl) B.n_len PySem.boot_len (pa_cons (pv 0) pa_nil)) pe_int)) (pw_or1 (pt_cmpR op_sgnNot (pe_ix ix_str (pv 0) pe_int (fun _ _ => rfl)) (pe_gc rfl B.c_LETTERS) rfl))))
      (pss_one (ps_ret pe_bl))
      pss_nil)
      (pss_cons (ps_for PassesOwn.never rfl (pi_str (pv 0)) (pg_name (i := 1) nd rfl (Or.inl rfl))
      (pss_one (ps_if (PW.pt (pw_and (pt_cmpR op_sgnNot (pv 1) (pe_gc rfl B.c_LETTERS) rfl) (pw_and1 (pt_cmpR op_sgnNot (pv 1) (pe_gc rfl B.c_DIGITS) rfl))))
      (pss_one (ps_ret pe_bl))
      pss_nil)))
      (pss_one (ps_ret pe_bl)))), ?_⟩
    try dsimp only [L2.cxOf, L2.Cx.nox, L2.Cx.wish]
    rw [st_is_label]
    have hsz : s.length = s.cps.toList.length := by first | rfl | simp [Str.length]
    walk_at "cg"
    refine r_lenS hl ?_
    walk_at "cg"
    refine if_S (fun h1 => ?_) (fun h1 => ?_)
    · walk_at "cg"
      refine if_NS (fun h2 => ?_) (fun h2 => ?_)
      · walk_at "cg"
        have e : labelB s = false := by
          unfold labelB
          rw [decide_eq_false (show ¬ s.length ≤ 20 by omega)]
          simp
        rw [e] at k
        exact k
      · obtain ⟨c, cs, ec⟩ : ∃ c cs, s.cps.toList = c :: cs := by
          cases e : s.cps.toList with
          | nil =>
            rw [e] at hsz
            simp at hsz
            omega
          | cons c cs => exact ⟨c, cs, rfl⟩
        walk_at "cg"
        refine r_ixS (c := c) hl (by rw [ec]; exact atI_0) ?_
        walk_at "cg"
        refine if_NS (fun h3 => ?_) (fun h3 => ?_)
        · walk_at "cg"
          have e : labelB s = false := by
            unfold labelB
            rw [ec]
            simp only
            rw [decide_eq_false (show ¬ c ∈ lettersS.cps.toList from h3)]
            simp
          rw [e] at k
          exact k
        · walk_at "cg"
          have top3 : labelB s = s.cps.toList.all sgnOk := by
            unfold labelB
            rw [decide_eq_true (show 1 ≤ s.length by omega), decide_eq_true (show s.length ≤ 20 by omega)]
            rw [ec]
            simp only
            rw [decide_eq_true (show c ∈ lettersS.cps.toList from h3)]
            simp
          rw [top3] at k
          refine r_forS (fun i σ' H' => ∃ x : Option V, σ' = [some (.str s), x] ∧ H = H' ∧ (s.cps.toList.take i).all sgnOk = true) ⟨none, rfl, rfl, rfl⟩ ?_ ?_
          · rintro i c' σ' H' hc ⟨x, rfl, rfl, ok⟩
            have hc' : s.cps.toList[i]? = some c' := by rw [Array.getElem?_toList]; exact hc
            have bad : sgnOk c' = false → s.cps.toList.all sgnOk = false := fun h => by
              rw [Bool.eq_false_iff]
              intro a
              have := List.all_eq_true.mp a c' (List.mem_of_getElem? hc')
              rw [h] at this
              cases this
            have good : sgnOk c' = true → (s.cps.toList.take (i + 1)).all sgnOk = true := fun h => by
              rw [List.take_add_one, hc', List.all_append, ok]
              simp [h]
            walk_at "cg"
            refine if_NS (fun h4 => ?_) (fun h4 => ?_)
            · walk_at "cg"
              refine if_NS (fun h5 => ?_) (fun h5 => ?_)
              · walk_at "cg"
                have e := bad (by unfold sgnOk; rw [decide_eq_false (show ¬ c' ∈ lettersS.cps.toList from h4), decide_eq_false (show ¬ c' ∈ digitsS.cps.toList from h5)]; rfl)
                rw [e] at k
                exact k
              · walk_at "cg"
                exact ⟨_, rfl, rfl, good (by unfold sgnOk; rw [decide_eq_true (show c' ∈ digitsS.cps.toList from h5), Bool.or_true])⟩
            · walk_at "cg"
              exact ⟨_, rfl, rfl, good (by unfold sgnOk; rw [decide_eq_true (show c' ∈ lettersS.cps.toList from h4), Bool.true_or])⟩
          · rintro σ' H' ⟨x, rfl, rfl, ok⟩
            walk_at "cg"
            have e : s.cps.toList.all sgnOk = true := by
              have e1 : s.cps.toList.take s.cps.size = s.cps.toList := by rw [← Array.length_toList, List.take_length]
              rw [e1] at ok
              exact ok
            rw [e] at k
            exact k
    · walk_at "cg"
      have e : labelB s = false := by
        unfold labelB
        rw [decide_eq_false (show ¬ 1 ≤ s.length by omega)]
        simp
      rw [e] at k
      exact k

end
section
variable {P : Program} {w : World} {K : PySem.W.Frag} {mg : Str → Option Value} {base : Heap} {C_Model : Addr}
theorem ok_terms_fit {f : Addr} {fd : FuncData} (F : Fun K "terms_fit" "terms_fit" s_terms_fit f fd) (B : Bi K mg C_Model)  : FnOk P w K mg base CX0 1 f fd ["terms", "many"] (spTmFit K) := by
  have nd := sc_terms_fit.nd
  refine F.ok sc_terms_fit ?len (fun cdv A outer s H vs Q E hr h => ?body)
  case len =>
    rintro vs H Q E ⟨p, m, ts, rfl, _⟩
    rfl
  case body =>
    obtain ⟨p, m, ts, rfl, hI, k⟩ := h
    refine ⟨_, (pss_cons (ps_if (pt_cmpR op_gt (pe_callB (cgLen K) (by rfl) B.n_len PySem.boot_len (pa_cons (pv 0) pa_nil)) pe_int (nomark _))
      (pss_one (ps_ret pe_bl))
      pss_nil)
      (pss_cons (ps_set (i := 2) nd rfl (Or.inl rfl) (pe_un un_neg pe_int))
      (pss_cons (ps_for PassesOwn.never rfl (pi_tup (pv 0)) (pg_tup (n := 2) rfl (pgs_cons (pg_name (i := 3) nd rfl (Or.inl rfl)) (pgs_cons (pg_name (i := 4) nd rfl (Or.inl rfl)) pgs_nil)))
      (pss_cons (ps_if (PW.pt (pw_or (pt_not (pt_chain op_lt op_lt (pv 2) (pv 3) (pv 1))) (pw_or (pt_cmpR op_eq (pv 4) pe_int (nomark _)) (pw_or1 (pt_cmpR op_gt (pe_callB cg_abs (by rfl) B.n_abs (by decide +kernel) (pa_cons (pv 4) pa_nil)) (pe_gc rfl B.c_COEFFICIENT_MOST) (nomark _))))))
      (pss_one (ps_ret pe_bl))
      pss_nil)
      (pss_one (ps_set (i := 2) nd rfl (Or.inl rfl) (pv 3)))))
      (pss_one (ps_ret pe_bl))))), ?_⟩
    try dsimp only [L2.cxOf, L2.Cx.nox, L2.Cx.wish]
    rw [st_terms_fit]
    obtain ⟨xs, s1, i1⟩ := Im.open hI
    have hln := mapLenP i1
    walk_at "cg"
    refine if_S (fun h60 => ?_) (fun h60 => ?_)
    · walk_at "cg"
      exact k false _ ⟨nofun, fun h => by have := h.1; omega⟩ .refl
    · walk_at "cg"
      refine r_forTI [] s1 i1 (fun i σ' H' => ∃ (last : Int) (x4 x5 : Option V), σ' = [some (.ref p), some (.int m), some (.int last), x4, x5] ∧ H = H' ∧ ((ts.take i).map (·.1)).Pairwise (· < ·) ∧
        (∀ z ∈ ts.take i, (0 ≤ z.1 ∧ z.1 < m ∧ z.2 ≠ 0 ∧ -1000000 ≤ z.2 ∧ z.2 ≤ 1000000) ∧ z.1 ≤ last) ∧ -1 ≤ last ∧ (last = -1 ∨ last ∈ (ts.take i).map (·.1)))
        ⟨-1, none, none, rfl, rfl, List.Pairwise.nil, (fun z hz => by cases hz), by decide, .inl rfl⟩ (fun i σ' H' ⟨_, _, _, _, e, _⟩ => e ▸ .refl) ?_ ?_
      · rintro i z x σ' H' hz hx _ ⟨last, x4, x5, rfl, rfl, asc, ok, l0, l1⟩
        obtain ⟨px, rfl, hs⟩ := term_at hx
        have hm := List.mem_of_getElem? hz
        have bad : ∀ (P : Prop), (tmFit m ts → False) → (false = true ↔ tmFit m ts) := fun _ h => ⟨nofun, fun g => (h g).elim⟩
        have ge : tmFit m ts → last < z.1 := fun g => by
          rcases l1 with rfl | l1
          · have := (g.2.2 z hm).1
            omega
          · exact fst_before g hz last l1
        walk_at "cg"
        refine if_S (fun h1 => ?_) (fun h1 => ?_)
        · walk_at "cg"
          refine if_NS (fun h2 => ?_) (fun h2 => ?_)
          · walk_at "cg"
            exact k false _ (bad True fun g => h2 (g.2.2 z hm).2.1) .refl
          · walk_at "cg"
            refine if_S (fun h3 => ?_) (fun h3 => ?_)
            · walk_at "cg"
              exact k false _ (bad True fun g => (g.2.2 z hm).2.2.1 h3) .refl
            · walk_at "cg"
              refine if_S (fun h4 => ?_) (fun h4 => ?_)
              · walk_at "cg"
                exact k false _ (bad True fun g => by have q := (g.2.2 z hm).2.2.2; split at h4 <;> omega) .refl
              · walk_at "cg"
                refine ⟨z.1, _, _, rfl, rfl, ?_, fun y hy => ?_, by omega, .inr ?_⟩
                · rw [map_take_snoc hz, List.pairwise_append]
                  refine ⟨asc, List.pairwise_singleton .., fun a ha b hb => ?_⟩
                  obtain ⟨y, hy, rfl⟩ := List.mem_map.mp ha
                  have q := (ok y hy).2
                  rw [List.mem_singleton] at hb
                  subst hb
                  omega
                · rw [List.take_add_one, hz] at hy
                  rcases List.mem_append.mp hy with hy | hy
                  · have q := ok y hy
                    exact ⟨q.1, by omega⟩
                  · have e : y = z := by simpa using hy
                    subst e
                    refine ⟨⟨by omega, h2, h3, ?_⟩, Int.le_refl _⟩
                    split at h4 <;> omega
                · rw [map_take_snoc hz]
                  simp
        · walk_at "cg"
          exact k false _ (bad True fun g => h1 (ge g)) .refl
      · rintro σ' H' _ ⟨last, x4, x5, rfl, rfl, asc, ok, l0, l1⟩
        rw [List.take_length] at asc ok
        walk_at "cg"
        exact k true _ ⟨fun _ => ⟨by omega, asc, fun z hz => (ok z hz).1⟩, fun _ => rfl⟩ .refl
theorem ok_literal_fits {f : Addr} {fd : FuncData} (F : Fun K "literal_fits" "literal_fits" s_literal_fits f fd) (B : Bi K mg C_Model)  : FnOk P w K mg base CX0 1 f fd ["literal", "many"] (spLitFit K) := by
  have nd := sc_literal_fits.nd
  refine F.ok sc_literal_fits ?len (fun cdv A outer s H vs Q E hr h => ?body)
  case len =>
    rintro vs H Q E ⟨p, m, l, rfl, _⟩
    rfl
  case body =>
    obtain ⟨p, m, l, rfl, hL, k⟩ := h
    refine ⟨_, (pss_cons (ps_asg (pv 0) (pg_tup (n := 3) rfl (pgs_cons (pg_name (i := 2) nd rfl (Or.inl rfl)) (pgs_cons (pg_name (i := 3) nd rfl (Or.inl rfl)) (pgs_cons (pg_name (i := 4) nd rfl (Or.inl rfl)) pgs_nil)))))
      (pss_one (ps_ret (pe_and (pe_chain op_le op_lt pe_int (pv 2) (pv 1)) (pe_and (pe_cmpR (inS K) (pv 3) (pe_tup (pa_cons pe_str (pa_cons pe_str (pa_cons pe_str (pa_cons pe_str pa_nil))))) rfl) (pe_one (pe_chain op_le op_le (pe_un un_neg pe_int) (pv 4) pe_int))))))), ?_⟩
    try dsimp only [L2.cxOf, L2.Cx.nox, L2.Cx.wish]
    rw [st_literal_fits]
    obtain ⟨v, r, a⟩ := l
    dsimp only at hL
    cases r
    all_goals
      walk_at "cg all"
      all_goals exact k _ _ (by simp only [litFit, decide_eq_true_eq, Bool.false_eq_true, false_iff]; omega) (by walk_at "cg kp")
theorem ok_linear_fits {f : Addr} {fd : FuncData} (F : Fun K "linear_fits" "linear_fits" s_linear_fits f fd) (B : Bi K mg C_Model) (D_terms_fit : Is P w K mg base CX0 1 "terms_fit" ["terms", "many"] (spTmFit K)) : FnOk P w K mg base CX0 2 f fd ["terms", "relation", "rhs", "many"] (spLinFit K) := by
  have nd := sc_linear_fits.nd
  refine F.ok sc_linear_fits ?len (fun cdv A outer s H vs Q E hr h => ?body)
  case len =>
    rintro vs H Q E ⟨p, m, n, ts, r, rfl, _⟩
    rfl
  case body =>
    obtain ⟨p, m, n, ts, r, rfl, hI, k⟩ := h
    refine ⟨_, (pss_one (ps_ret (pe_and (pe_is D_terms_fit (hr.mono (by decide)) rfl pass0 (pa_cons (pv 0) (pa_cons (pv 3) pa_nil))) (pe_and (pe_cmpR (inS K) (pv 1) (pe_tup (pa_cons pe_str (pa_cons pe_str (pa_cons pe_str pa_nil)))) rfl) (pe_one (pe_cmpR op_le (pe_callB cg_abs (by rfl) B.n_abs (by decide +kernel) (pa_cons (pv 2) pa_nil)) (pe_gc rfl B.c_SUM_MOST) (nomark _))))))), ?_⟩
    try dsimp only [L2.cxOf, L2.Cx.nox, L2.Cx.wish]
    rw [st_linear_fits]
    walk_at "cg"
    refine ⟨p, m, ts, rfl, hI, fun b H1 hb k1 => ?_⟩
    cases b
    · walk_at "cg"
      exact k false _ ⟨nofun, fun h => hb.mpr h.1⟩ k1
    · have h1 := hb.mp rfl
      cases r
      all_goals
        walk_at "cg all"
        all_goals exact k _ _ (by simp only [linFit, h1, true_and, decide_eq_true_eq, Bool.false_eq_true, false_iff, ne_eq, reduceCtorEq, not_false_eq_true, not_true_eq_false, false_and]; try (split <;> omega)) (by walk_at "cg kp")
theorem ok_distinct_fit {f : Addr} {fd : FuncData} (F : Fun K "distinct_fit" "distinct_fit" s_distinct_fit f fd) (B : Bi K mg C_Model)  : FnOk P w K mg base CX0 1 f fd ["numbers", "least", "most", "many"] (spDistinct K) := by
  have nd := sc_distinct_fit.nd
  refine F.ok sc_distinct_fit ?len (fun cdv A outer s H vs Q E hr h => ?body)
  case len =>
    rintro vs H Q E ⟨p, m, lo, hi, us, rfl, _⟩
    rfl
  case body =>
    obtain ⟨p, m, lo, hi, us, rfl, hS, hh, few, k⟩ := h
    refine ⟨_, (pss_cons (ps_if (PW.pt (pw_or (pt_not (pt_chain op_le op_le (pv 1) (pe_callB (cgLen K) (by rfl) B.n_len PySem.boot_len (pa_cons (pv 0) pa_nil)) (pv 2))) (pw_or1 (pt_cmpR op_ne (pe_callB cg_lenN (by rfl) B.n_len PySem.boot_len (pa_cons (pe_callTy (cg_setTn rfl) (by rfl) B.n_set PyProof.Rows.boot_set (pa_cons (pv 0) pa_nil)) pa_nil)) (pe_callB (cgLen K) (by rfl) B.n_len PySem.boot_len (pa_cons (pv 0) pa_nil)) (nomark _)))))
      (pss_one (ps_ret pe_bl))
      pss_nil)
      (pss_one (ps_ret (pe_callB (cr_all rfl) (by rfl) B.n_all (by decide +kernel) (pa_cons (by exact pe_lc (own := [("v", 4)]) (g := (gName 4)) (tt := tYes) rfl nd (pi_tup (pv 0)) (blkOk_by (N := ["numbers", "least", "most", "many", "v"]) (sc := defScope s_distinct_fit) (by decide +kernel)) (fun _ _ _ _ _ => (pg_name (i := 4) nd rfl (Or.inl rfl))) (fun _ _ _ _ _ => pts_nil) (fun _ _ _ _ _ => (pe_chain op_le op_lt pe_int (pv 4) (pv 3)))) pa_nil))))), ?_⟩
    try dsimp only [L2.cxOf, L2.Cx.nox, L2.Cx.wish]
    rw [st_distinct_fit]
    have hln : ((us.map V.int).length : Int) = us.length := by rw [List.length_map]
    walk_at "cg"
    rw [hln]
    refine if_S (fun h1 => ?_) (fun h1 => ?_)
    · walk_at "cg"
      refine if_NS (fun h2 => ?_) (fun h2 => ?_)
      · walk_at "cg"
        exact k false _ ⟨nofun, fun h => absurd h.1.2 h2⟩ .refl
      · walk_at "cg"
        refine r_setTn hS few fun S H2 hS2 eS k2 => ?_
        walk_at "cg"
        refine r_lenN eS ?_
        walk_at "cg"
        rw [hln]
        refine if_S (fun h3 => ?_) (fun h3 => ?_)
        · walk_at "cg"
          exact k false _ ⟨nofun, fun h => absurd (by rw [dd_len.mpr h.2.1]) h3⟩ (by walk_at "cg kp")
        · have h3' := Classical.not_not.mp h3
          have nd : us.Nodup := dd_len.mp (by omega)
          walk_at "cg"
          refine lcT_b (xs := us.map V.int) (as := us) (d := PyData.int) (by walk_at "cg h") (imInts us) (fun v => decide (0 ≤ v) && decide (v < m)) (by omega) (fun i v x H' R R' hv k2 hx q => ?_) (fun D H' hD eD k2 => ?_)
          · obtain rfl := hx.flat (y := .int v) rfl
            walk_at "cg"
            refine if_S (fun h4 => ?_) (fun h4 => ?_)
            · walk_at "cg"
              have q2 := q _ .refl
              rw [decide_eq_true h4, Bool.true_and] at q2
              exact q2
            · walk_at "cg"
              have q2 := q _ .refl
              rw [decide_eq_false h4, Bool.false_and] at q2
              exact q2
          · walk_at "cg"
            refine r_all eD ?_
            refine k _ _ ?_ (by walk_at "cg kp")
            rw [all_iff (P := fun v => 0 ≤ v ∧ v < m) fun a _ => by simp]
            exact ⟨fun h => ⟨⟨h1, h2⟩, nd, h⟩, fun h => h.2.2⟩
    · walk_at "cg"
      exact k false _ ⟨nofun, fun h => absurd h.1.1 h1⟩ .refl
theorem ok_entries_fit {f : Addr} {fd : FuncData} (F : Fun K "entries_fit" "entries_fit" s_entries_fit f fd) (B : Bi K mg C_Model)  : FnOk P w K mg base CX0 1 f fd ["entries"] (spEntries K) := by
  have nd := sc_entries_fit.nd
  refine F.ok sc_entries_fit ?len (fun cdv A outer s H vs Q E hr h => ?body)
  case len =>
    rintro vs H Q E ⟨p, es, rfl, _⟩
    rfl
  case body =>
    obtain ⟨p, es, rfl, hS, few, k⟩ := h
    refine ⟨_, (pss_one (ps_ret (pe_callB (cr_all rfl) (by rfl) B.n_all (by decide +kernel) (pa_cons (by exact pe_lc (own := [("entry", 1)]) (g := (gName 1)) (tt := tYes) rfl nd (pi_tup (pv 0)) (blkOk_by (N := ["entries", "entry"]) (sc := defScope s_entries_fit) (by decide +kernel)) (fun _ _ _ _ _ => (pg_name (i := 1) nd rfl (Or.inl rfl))) (fun _ _ _ _ _ => pts_nil) (fun _ _ _ _ _ => (pe_chain op_le op_le (pe_un un_neg (pe_gc rfl B.c_ENTRY_MOST)) (pv 1) (pe_gc rfl B.c_ENTRY_MOST)))) pa_nil)))), ?_⟩
    try dsimp only [L2.cxOf, L2.Cx.nox, L2.Cx.wish]
    rw [st_entries_fit]
    walk_at "cg"
    refine lcT_b (xs := es.map V.int) (as := es) (d := PyData.int) (by walk_at "cg h") (imInts es) (fun v => decide (-1000 ≤ v) && decide (v ≤ 1000)) (by omega) (fun i v x H' R R' hv k2 hx q => ?_) (fun D H' hD eD k2 => ?_)
    · obtain rfl := hx.flat (y := .int v) rfl
      walk_at "cg"
      refine if_S (fun h4 => ?_) (fun h4 => ?_)
      · walk_at "cg"
        have q2 := q _ .refl
        rw [decide_eq_true h4, Bool.true_and] at q2
        exact q2
      · walk_at "cg"
        have q2 := q _ .refl
        rw [decide_eq_false h4, Bool.false_and] at q2
        exact q2
    · walk_at "cg"
      refine r_all eD ?_
      refine k _ _ ?_ (by walk_at "cg kp")
      rw [all_iff (P := fun v => -1000 ≤ v ∧ v ≤ 1000) fun a _ => by simp]
      exact Iff.rfl
theorem ok_any_fits {f : Addr} {fd : FuncData} (F : Fun K "any_fits" "any_fits" s_any_fits f fd) (B : Bi K mg C_Model) (D_literal_fits : Is P w K mg base CX0 1 "literal_fits" ["literal", "many"] (spLitFit K)) : FnOk P w K mg base CX0 2 f fd ["literals", "many"] (spAnyFits K) := by
  have nd := sc_any_fits.nd
  refine F.ok sc_any_fits ?len (fun cdv A outer s H vs Q E hr h => ?body)
  case len =>
    rintro vs H Q E ⟨p, m, ls, rfl, _⟩
    rfl
  case body =>
    obtain ⟨p, m, ls, rfl, hI, k⟩ := h
    refine ⟨_, (pss_cons (ps_if (PW.pt (pw_or (pt_not (pt_chain op_le op_le pe_int (pe_callB (cgLen K) (by rfl) B.n_len PySem.boot_len (pa_cons (pv 0) pa_nil)) pe_int)) (pw_or1 (pt_cmpR op_ne (pe_callB cg_lenN (by rfl) B.n_len PySem.boot_len (pa_cons (pe_callTy (cg_setTT hr rfl) (by rfl) B.n_set PyProof.Rows.boot_set (pa_cons (pv 0) pa_nil)) pa_nil)) (pe_callB (cgLen K) (by rfl) B.n_len PySem.boot_len (pa_cons (pv 0) pa_nil)) (nomark _)))))
      (pss_one (ps_ret pe_bl))
      pss_nil)
      (pss_one (ps_ret (pe_callB (cr_all rfl) (by rfl) B.n_all (by decide +kernel) (pa_cons (by exact pe_lc (own := [("literal", 2)]) (g := (gName 2)) (tt := tYes) rfl nd (pi_tup (pv 0)) (blkOk_by (N := ["literals", "many", "literal"]) (sc := defScope s_any_fits) (by decide +kernel)) (fun _ _ _ _ _ => (pg_name (i := 2) nd rfl (Or.inl rfl))) (fun _ _ _ _ _ => pts_nil) (fun _ _ _ _ _ => (pe_is D_literal_fits (hr.mono (by decide)) rfl pass0 (pa_cons (pv 2) (pa_cons (pv 1) pa_nil))))) pa_nil))))), ?_⟩
    try dsimp only [L2.cxOf, L2.Cx.nox, L2.Cx.wish]
    rw [st_any_fits]
    obtain ⟨xs, s1, i1⟩ := Im.open hI
    have hln := mapLenP i1
    walk_at "cg"
    rw [hln]
    refine if_S (fun h1 => ?_) (fun h1 => ?_)
    · walk_at "cg"
      refine if_NS (fun h2 => ?_) (fun h2 => ?_)
      · walk_at "cg"
        exact k false _ ⟨nofun, fun h => absurd h.1.2 (by omega)⟩ .refl
      · obtain ⟨ks, rfl, hk, ek⟩ := lits_at i1
        rw [List.length_map] at hln
        walk_at "cg"
        refine r_setTT s1 hk (by omega) fun S H2 hS2 eS k2 => ?_
        rw [ek] at eS
        walk_at "cg"
        refine r_lenN eS ?_
        walk_at "cg"
        rw [List.length_map, hln]
        refine if_S (fun h3 => ?_) (fun h3 => ?_)
        · walk_at "cg"
          exact k false _ ⟨nofun, fun h => absurd (by rw [dd_len.mpr ((nodup_inj litK_inj).mpr h.2.1), List.length_map]) h3⟩ (by walk_at "cg kp")
        · have h3' := Classical.not_not.mp h3
          have e9 : (ls.map litK).length = ls.length := List.length_map ..
          have nd : ls.Nodup := (nodup_inj (f := litK) litK_inj).mp (dd_len.mp (by omega))
          walk_at "cg"
          refine lcT_b (as := ls) (d := Lit.d) (by walk_at "cg h") (by walk_at "cg h") (fun l => decide (litFit m l)) (by omega) (fun i l x H' R R' hv k2 hx q => ?_) (fun D H' hD eD k2 => ?_)
          · obtain ⟨px, rfl, L⟩ := lit_at hx
            walk_at "cg"
            refine ⟨px, m, l, rfl, L, fun b H3 hb k3 => ?_⟩
            walk_at "cg"
            have e : decide (litFit m l) = b := by
              rw [Bool.eq_iff_iff, decide_eq_true_eq]
              exact hb.symm
            rw [← e]
            exact q _ k3
          · walk_at "cg"
            refine r_all eD ?_
            refine k _ _ ?_ (by walk_at "cg kp")
            rw [all_iff (P := litFit m) fun a _ => by simp]
            exact ⟨fun h => ⟨⟨by omega, by omega⟩, nd, h⟩, fun h => h.2.2⟩
    · walk_at "cg"
      exact k false _ ⟨nofun, fun h => absurd h.1.1 (by omega)⟩ .refl
theorem ok_table_fits {f : Addr} {fd : FuncData} (F : Fun K "table_fits" "table_fits" s_table_fits f fd) (B : Bi K mg C_Model) (D_distinct_fit : Is P w K mg base CX0 1 "distinct_fit" ["numbers", "least", "most", "many"] (spDistinct K)) (D_entries_fit : Is P w K mg base CX0 1 "entries_fit" ["entries"] (spEntries K)) : FnOk P w K mg base CX0 2 f fd ["numbers", "rows", "many"] (spTableFits K) := by
  have nd := sc_table_fits.nd
  refine F.ok sc_table_fits ?len (fun cdv A outer s H vs Q E hr h => ?body)
  case len =>
    rintro vs H Q E ⟨p, q, m, us, rows, rfl, _⟩
    rfl
  case body =>
    obtain ⟨p, q, m, us, rows, rfl, hS, hI, few, few2, k⟩ := h
    refine ⟨_, (pss_cons (ps_if (PW.pt (pw_or (pt_not (pt_val (pe_is D_distinct_fit (hr.mono (by decide)) rfl pass0 (pa_cons (pv 0) (pa_cons pe_int (pa_cons pe_int (pa_cons (pv 2) pa_nil))))))) (pw_or1 (pt_not (pt_chain op_le op_le pe_int (pe_callB (cgLen K) (by rfl) B.n_len PySem.boot_len (pa_cons (pv 1) pa_nil)) pe_int)))))
      (pss_one (ps_ret pe_bl))
      pss_nil)
      (pss_one (ps_ret (pe_callB (cr_all rfl) (by rfl) B.n_all (by decide +kernel) (pa_cons (by exact pe_lc (own := [("row", 3)]) (g := (gName 3)) (tt := tYes) rfl nd (pi_tup (pv 1)) (blkOk_by (N := ["numbers", "rows", "many", "row"]) (sc := defScope s_table_fits) (by decide +kernel)) (fun _ _ _ _ _ => (pg_name (i := 3) nd rfl (Or.inl rfl))) (fun _ _ _ _ _ => pts_nil) (fun _ _ _ _ _ => (pe_and (pe_cmpR op_eq (pe_callB (cgLen K) (by rfl) B.n_len PySem.boot_len (pa_cons (pv 3) pa_nil)) (pe_callB (cgLen K) (by rfl) B.n_len PySem.boot_len (pa_cons (pv 0) pa_nil)) (nomark _)) (pe_one (pe_is D_entries_fit (hr.mono (by decide)) rfl pass0 (pa_cons (pv 3) pa_nil)))))) pa_nil))))), ?_⟩
    try dsimp only [L2.cxOf, L2.Cx.nox, L2.Cx.wish]
    rw [st_table_fits]
    obtain ⟨xs, s1, i1⟩ := Im.open hI
    have hln := mapLenP i1
    walk_at "cg"
    refine ⟨p, m, 1, 6, us, rfl, hS, by decide, few, fun b H1 hb k1 => ?_⟩
    cases b
    · walk_at "cg"
      exact k false _ ⟨nofun, fun h => hb.mpr ⟨⟨by have := h.1.1.1; omega, by have := h.1.1.2; omega⟩, h.1.2⟩⟩ k1
    · have h0 := hb.mp rfl
      walk_at "cg"
      rw [hln]
      refine if_S (fun h1 => ?_) (fun h1 => ?_)
      · walk_at "cg"
        refine if_NS (fun h2 => ?_) (fun h2 => ?_)
        · walk_at "cg"
          exact k false _ ⟨nofun, fun h => absurd h.2.1.2 (by omega)⟩ k1
        · walk_at "cg"
          refine lcT_b (xs := xs) (as := rows) (d := intsD) (by walk_at "cg h") (by walk_at "cg h") (fun r => decide (r.length = us.length ∧ entFit r)) (by omega) (fun i r x H' R R' hv k2 hx q2 => ?_) (fun D H' hD eD k2 => ?_)
          · obtain ⟨px, rfl⟩ := hx.isRef
            have sr := hx.intsT
            have kk : Kp [] H H' := Kp.tr0 k2 k1
            have hln2 : ((r.map V.int).length : Int) = r.length := by rw [List.length_map]
            have hln3 : ((us.map V.int).length : Int) = us.length := by rw [List.length_map]
            walk_at "cg"
            rw [hln2, hln3]
            refine if_S (fun h4 => ?_) (fun h4 => ?_)
            · walk_at "cg"
              refine ⟨px, r, rfl, sr, few2 r (List.mem_of_getElem? hv), fun b H3 hb2 k3 => ?_⟩
              have e : decide (r.length = us.length ∧ entFit r) = b := by
                rw [Bool.eq_iff_iff, decide_eq_true_eq, hb2]
                exact ⟨fun h => h.2, fun h => ⟨by omega, h⟩⟩
              have q3 := q2 _ k3
              rw [e] at q3
              exact q3
            · walk_at "cg"
              have q3 := q2 _ .refl
              rw [decide_eq_false (fun h => h4 (by omega))] at q3
              exact q3
          · walk_at "cg"
            refine r_all eD ?_
            refine k _ _ ?_ (by walk_at "cg kp")
            rw [all_iff (P := fun r => r.length = us.length ∧ entFit r) fun a _ => by simp]
            exact ⟨fun h => ⟨⟨⟨by omega, by omega⟩, h0.2⟩, ⟨by omega, by omega⟩, h⟩, fun h => h.2.2⟩
      · walk_at "cg"
        exact k false _ ⟨nofun, fun h => absurd h.2.1.1 (by omega)⟩ k1
theorem ok_body_fits {f : Addr} {fd : FuncData} (F : Fun K "body_fits" "body_fits" s_body_fits f fd) (B : Bi K mg C_Model) (D_linear_fits : Is P w K mg base CX0 2 "linear_fits" ["terms", "relation", "rhs", "many"] (spLinFit K)) (D_any_fits : Is P w K mg base CX0 2 "any_fits" ["literals", "many"] (spAnyFits K)) (D_distinct_fit : Is P w K mg base CX0 1 "distinct_fit" ["numbers", "least", "most", "many"] (spDistinct K)) (D_table_fits : Is P w K mg base CX0 2 "table_fits" ["numbers", "rows", "many"] (spTableFits K)) (D_literal_fits : Is P w K mg base CX0 1 "literal_fits" ["literal", "many"] (spLitFit K)) (D_entries_fit : Is P w K mg base CX0 1 "entries_fit" ["entries"] (spEntries K)) : FnOk P w K mg base CX0 3 f fd ["body", "many"] (spBodyFits K) := by
  have nd := sc_body_fits.nd
  refine F.ok sc_body_fits ?len (fun cdv A outer s H vs Q E hr h => ?body)
  case len =>
    rintro vs H Q E ⟨p, m, b, rfl, _⟩
    rfl
  case body =>
    obtain ⟨p, m, b, rfl, hb, hw, k⟩ := h
    refine ⟨_, (pss_cons (ps_set (i := 2) nd rfl (Or.inl rfl) (pe_ix (ixT K) (pv 0) pe_int (fun _ _ => rfl)))
      (pss_cons (ps_if (pt_cmpR op_eq (pv 2) pe_str (nomark _))
      (pss_one (ps_ret (pe_is D_linear_fits (hr.mono (by decide)) rfl pass0 (pa_cons (pe_ix (ixT K) (pv 0) pe_int (fun _ _ => rfl)) (pa_cons (pe_ix (ixT K) (pv 0) pe_int (fun _ _ => rfl)) (pa_cons (pe_ix (ixT K) (pv 0) pe_int (fun _ _ => rfl)) (pa_cons (pv 1) pa_nil)))))))
      pss_nil)
      (pss_cons (ps_if (pt_cmpR op_eq (pv 2) pe_str (nomark _))
      (pss_one (ps_ret (pe_is D_any_fits (hr.mono (by decide)) rfl pass0 (pa_cons (pe_ix (ixT K) (pv 0) pe_int (fun _ _ => rfl)) (pa_cons (pv 1) pa_nil)))))
      pss_nil)
      (pss_cons (ps_if (pt_cmpR op_eq (pv 2) pe_str (nomark _))
      (pss_one (ps_ret (pe_and (pe_is D_literal_fits (hr.mono (by decide)) rfl pass0 (pa_cons (pe_ix (ixT K) (pv 0) pe_int (fun _ _ => rfl)) (pa_cons (pv 1) pa_nil))) (pe_one (pe_is D_linear_fits (hr.mono (by decide)) rfl pass0 (pa_cons (pe_ix (ixT K) (pv 0) pe_int (fun _ _ => rfl)) (pa_cons (pe_ix (ixT K) (pv 0) pe_int (fun _ _ => rfl)) (pa_cons (pe_ix (ixT K) (pv 0) pe_int (fun _ _ => rfl)) (pa_cons (pv 1) pa_nil)))))))))
      pss_nil)
      (pss_cons (ps_if (pt_cmpR op_eq (pv 2) pe_str (nomark _))
      (pss_one (ps_ret (pe_is D_distinct_fit (hr.mono (by decide)) rfl pass0 (pa_cons (pe_ix (ixT K) (pv 0) pe_int (fun _ _ => rfl)) (pa_cons pe_int (pa_cons pe_int (pa_cons (pv 1) pa_nil)))))))
      pss_nil)
      (pss_cons (ps_if (pt_cmpR op_eq (pv 2) pe_str (nomark _))
      (pss_one (ps_ret (pe_is D_table_fits (hr.mono (by decide)) rfl pass0 (pa_cons (pe_ix (ixT K) (pv 0) pe_int (fun _ _ => rfl)) (pa_cons (pe_ix (ixT K) (pv 0) pe_int (fun _ _ => rfl)) (pa_cons (pv 1) pa_nil))))))
      pss_nil)
      (pss_cons (ps_if (pt_cmpR op_eq (pv 2) pe_str (nomark _))
      (pss_cons (ps_set (i := 3) nd rfl (Or.inl rfl) (pe_and (pe_chain op_le op_lt pe_int (pe_ix (ixT K) (pv 0) pe_int (fun _ _ => rfl)) (pv 1)) (pe_one (pe_chain op_le op_lt pe_int (pe_ix (ixT K) (pv 0) pe_int (fun _ _ => rfl)) (pv 1)))))
      (pss_one (ps_ret (pe_and (pv 3) (pe_and (pe_chain op_le op_le pe_int (pe_callB (cgLen K) (by rfl) B.n_len PySem.boot_len (pa_cons (pe_ix (ixT K) (pv 0) pe_int (fun _ _ => rfl)) pa_nil)) pe_int) (pe_one (pe_is D_entries_fit (hr.mono (by decide)) rfl pass0 (pa_cons (pe_ix (ixT K) (pv 0) pe_int (fun _ _ => rfl)) pa_nil))))))))
      pss_nil)
      (pss_one (ps_ret (pe_callB (cr_all rfl) (by rfl) B.n_all (by decide +kernel) (pa_cons (by exact pe_lc (own := [("v", 4)]) (g := (gName 4)) (tt := tYes) rfl nd (pi_tup (pe_slice (slT K) (pv 0) (po_some pe_int) po_none)) (blkOk_by (N := ["body", "many", "kind", "inside", "v"]) (sc := defScope s_body_fits) (by decide +kernel)) (fun _ _ _ _ _ => (pg_name (i := 4) nd rfl (Or.inl rfl))) (fun _ _ _ _ _ => pts_nil) (fun _ _ _ _ _ => (pe_chain op_le op_lt pe_int (pv 4) (pv 1)))) pa_nil))))))))))), ?_⟩
    try dsimp only [L2.cxOf, L2.Cx.nox, L2.Cx.wish]
    rw [st_body_fits]
    cases b with
    | row ts r n =>
      obtain ⟨q1, s1, i1⟩ := b_row hb
      walk_at "cg"
      exact ⟨q1, m, n, ts, r, rfl, i1, k⟩
    | any ls =>
      obtain ⟨q1, s1, i1⟩ := b_any hb
      walk_at "cg"
      exact ⟨q1, m, ls, rfl, i1, k⟩
    | when l ts r n =>
      obtain ⟨q1, q2, s1, L, i1⟩ := b_when hb
      walk_at "cg"
      refine ⟨q1, m, l, rfl, L, fun b H1 hb k1 => ?_⟩
      cases b
      · walk_at "cg"
        exact k false _ ⟨nofun, fun h => hb.mpr h.1⟩ k1
      · walk_at "cg"
        refine ⟨q2, m, n, ts, r, rfl, k1.im i1, fun b H2 hb2 k2 => ?_⟩
        exact k b _ ⟨fun h => ⟨hb.mp rfl, hb2.mp h⟩, fun h => hb2.mpr h.2⟩ (by walk_at "cg kp")
    | diff us =>
      obtain ⟨q1, s1, s2⟩ := b_diff hb
      walk_at "cg"
      refine ⟨q1, m, 2, 20, us, rfl, s2, by decide, hw, fun b H1 hb k1 => ?_⟩
      exact k b _ ⟨fun h => ⟨⟨by have := (hb.mp h).1.1; omega, by have := (hb.mp h).1.2; omega⟩, (hb.mp h).2⟩, fun h => hb.mpr ⟨⟨by have := h.1.1; omega, by have := h.1.2; omega⟩, h.2⟩⟩ k1
    | table us rows =>
      obtain ⟨q1, q2, s1, s2, i2⟩ := b_table hb
      walk_at "cg"
      exact ⟨q1, q2, m, us, rows, rfl, s2, i2, hw.1, hw.2, k⟩
    | elem x es y =>
      obtain ⟨q1, s1, s2⟩ := b_elem hb
      have hln : ((es.map V.int).length : Int) = es.length := by rw [List.length_map]
      have bad : (¬ (0 ≤ x ∧ x < m) ∨ ¬ (0 ≤ y ∧ y < m) ∨ ¬ (1 ≤ es.length ∧ es.length ≤ 60)) → (false = true ↔ (Body.elem x es y).fit m) := fun h => ⟨nofun, fun g => by
        rcases h with h | h | h
        · exact absurd g.1.1 h
        · exact absurd g.1.2 h
        · exact absurd g.2.1 h⟩
      have go : ∀ (H1 : Hp), Kp [] H H1 → 0 ≤ x → x < m → 0 ≤ y → y < m → 1 ≤ es.length → es.length ≤ 60 → spEntries K [.ref q1] H1 Q E0 := fun H1 k1 a1 a2 a3 a4 a5 a6 =>
        ⟨q1, es, rfl, k1.tup s2, hw, fun b H2 hb k2 => k b _ (by rw [hb]; exact ⟨fun h => ⟨⟨⟨a1, a2⟩, a3, a4⟩, ⟨a5, a6⟩, h⟩, fun h => h.2.2⟩) (Kp.tr0 k2 k1)⟩
      walk_at "cg"
      by_cases h1 : 0 ≤ x ∧ x < m
      · by_cases h2 : 0 ≤ y ∧ y < m
        · obtain ⟨h1, h1'⟩ := h1
          obtain ⟨h2, h2'⟩ := h2
          walk_at "cg"
          by_cases h3 : 1 ≤ es.length ∧ es.length ≤ 60
          · obtain ⟨h3, h3'⟩ := h3
            have h3a : (1 : Int) ≤ (es.map V.int).length := by omega
            have h3b : ((es.map V.int).length : Int) ≤ 60 := by omega
            walk_at "cg"
            exact go _ .refl h1 h1' h2 h2' h3 h3'
          · walk_at "cg all"
            all_goals first | (exfalso; omega) | exact k false _ (bad (.inr (.inr h3))) .refl
        · obtain ⟨h1, h1'⟩ := h1
          walk_at "cg all"
          all_goals first | (exfalso; omega) | exact k false _ (bad (.inr (.inl h2))) .refl
      · walk_at "cg all"
        all_goals first | (exfalso; omega) | exact k false _ (bad (.inl h1)) .refl
    | times x y z =>
      have s1 := b_times hb
      walk_at "cg"
      refine r_slT1 s1 fun l H2 hl s2 k2 => ?_
      walk_at "cg"
      refine lcT_b (xs := [x, y, z].map V.int) (as := [x, y, z]) (d := PyData.int) (by walk_at "cg h") (imInts _) (fun v => decide (0 ≤ v) && decide (v < m)) (by simp) (fun i v x' H' R R' hv k2 hx q => ?_) (fun D H' hD eD k2 => ?_)
      · obtain rfl := hx.flat (y := .int v) rfl
        walk_at "cg"
        refine if_S (fun h4 => ?_) (fun h4 => ?_)
        · walk_at "cg"
          have q2 := q _ .refl
          rw [decide_eq_true h4, Bool.true_and] at q2
          exact q2
        · walk_at "cg"
          have q2 := q _ .refl
          rw [decide_eq_false h4, Bool.false_and] at q2
          exact q2
      · walk_at "cg"
        refine r_all eD ?_
        refine k _ _ ?_ (by walk_at "cg kp")
        rw [all_iff (P := fun v => 0 ≤ v ∧ v < m) fun a _ => by simp]
        simp [Body.fit]

theorem ok_bounds_fit {f : Addr} {fd : FuncData} (F : Fun K "bounds_fit" "bounds_fit" s_bounds_fit f fd) (B : Bi K mg C_Model)  : FnOk P w K mg base CX0 1 f fd ["low", "high"] spBounds := by
  have nd := sc_bounds_fit.nd
  refine F.ok sc_bounds_fit ?len (fun cdv A outer s H vs Q E hr h => ?body)
  case len =>
    rintro vs H Q E ⟨lo, hi, rfl, _⟩
    rfl
  case body =>
    obtain ⟨lo, hi, rfl, k⟩ := h
    refine ⟨_, (pss_one (ps_ret (pe_chain3 op_le op_le op_le (pe_un un_neg (pe_gc rfl B.c_BOUND_MOST)) (pv 0) (pv 1) (pe_gc rfl B.c_BOUND_MOST)))), ?_⟩
    try dsimp only [L2.cxOf, L2.Cx.nox, L2.Cx.wish]
    rw [st_bounds_fit]
    walk_at "cg"
    refine if_S (fun h1 => ?_) (fun h1 => ?_)
    · rw [decide_eq_true h1, Bool.true_and] at k
      walk_at "cg"
      refine if_S (fun h2 => ?_) (fun h2 => ?_)
      · rw [decide_eq_true h2, Bool.true_and] at k
        walk_at "cg"
        exact k
      · rw [decide_eq_false h2, Bool.false_and] at k
        walk_at "cg"
        exact k
    · rw [decide_eq_false h1, Bool.false_and] at k
      walk_at "cg"
      exact k
theorem ok_Model___init__ {f : Addr} {fd : FuncData} (F : Fun K "__init__" "Model.__init__" s_Model___init__ f fd) (B : Bi K mg C_Model) (D_is_label : Is P w K mg base CX0 1 "is_label" ["text"] spLabel) (D_bounds_fit : Is P w K mg base CX0 1 "bounds_fit" ["low", "high"] spBounds) : FnOk P w K mg base CX0 2 f fd ["self", "unknowns"] (spInit K C_Model) := by
  have nd := sc_Model___init__.nd
  refine F.ok sc_Model___init__ ?len (fun cdv A outer s H vs Q E hr h => ?body)
  case len =>
    rintro vs H Q E ⟨p, l, dx, refs, us, rfl, _⟩
    rfl
  case body =>
    obtain ⟨p, l, dx, refs, us, rfl, hp, hl, hI, n0, n1, ok, hnd, k⟩ := h
    refine ⟨_, (pss_cons (ps_if (pt_not (pt_chain op_le op_le pe_int (pe_callB (cgLen K) (by rfl) B.n_len PySem.boot_len (pa_cons (pv 1) pa_nil)) (pe_gc rfl B.c_UNKNOWNS_MOST)))
      (pss_one ps_never)
      pss_nil)
      (pss_cons (ps_fld (pv 0) (pe_lst pa_nil) rfl)
      (pss_cons (ps_fld (pv 0) (pe_lst pa_nil) rfl)
      (pss_cons (ps_fld (pv 0) (pe_lst pa_nil) rfl)
      (pss_cons (ps_for PassesOwn.never rfl ((piLst K) (pv 1)) (pg_tup (n := 3) rfl (pgs_cons (pg_name (i := 2) nd rfl (Or.inl rfl)) (pgs_cons (pg_name (i := 3) nd rfl (Or.inl rfl)) (pgs_cons (pg_name (i := 4) nd rfl (Or.inl rfl)) pgs_nil))))
      (pss_cons (ps_if (PW.pt (pw_or (pt_not (pt_val (pe_is D_is_label (hr.mono (by decide)) rfl pass0 (pa_cons (pv 2) pa_nil)))) (pw_or1 (pt_not (pt_val (pe_is D_bounds_fit (hr.mono (by decide)) rfl pass0 (pa_cons (pv 3) (pa_cons (pv 4) pa_nil))))))))
      (pss_one ps_never)
      pss_nil)
      (pss_cons (ps_if (pt_cmpR (inS K) (pv 2) (pe_fld (pv 0) rfl) rfl)
      (pss_one ps_never)
      pss_nil)
      (pss_cons (ps_expr (pe_bm PySem.F.plainAttrs_list PySem.F.slot_list_append PySem.F.type_list_append mt_append (pe_fld (pv 0) rfl) (pa_cons (pv 2) pa_nil)))
      (pss_cons (ps_expr (pe_bm PySem.F.plainAttrs_list PySem.F.slot_list_append PySem.F.type_list_append mt_append (pe_fld (pv 0) rfl) (pa_cons (pv 3) pa_nil)))
      (pss_one (ps_expr (pe_bm PySem.F.plainAttrs_list PySem.F.slot_list_append PySem.F.type_list_append mt_append (pe_fld (pv 0) rfl) (pa_cons (pv 4) pa_nil)))))))))
      (pss_cons (ps_fld (pv 0) pe_dnewK rfl)
      (pss_one (ps_fld (pv 0) (pe_tup (pa_cons pe_str (pa_cons (pe_tup pa_nil) (pa_cons pe_int pa_nil)))) rfl)))))))), ?_⟩
    try dsimp only [L2.cxOf, L2.Cx.nox, L2.Cx.wish]
    rw [st_Model___init__]
    have c := B.cl_Model
    have a1 := B.at_Model__names
    have a2 := B.at_Model__lows
    have a3 := B.at_Model__highs
    have a4 := B.at_Model__bodies
    have a5 := B.at_Model__goal
    have hrl := mapLenP hI
    have npl : p ≠ l := ne_of hp hl (fun e => by cases e)
    walk_at "cg"
    rename_i n H1 hn en kn H2 p2 k2 lo H3 hlo elo k3
    refine r_setF (by walk_at "cg h") c a2 (Nat.lt_of_le_of_lt (putF_le _ _ _) (by decide)) fun H4 p4 k4 => ?_
    walk_at "cg"
    rename_i hi H5 hhi ehi k5
    refine r_setF (by walk_at "cg h") c a3 (Nat.lt_of_le_of_lt (Nat.le_trans (putF_le _ _ _) (Nat.succ_le_succ (putF_le _ _ _))) (by decide)) fun H6 p6 k6 => ?_
    have fn : H n = none := hn
    have npn : n ≠ p := ne_newR hn hp
    have flo : H lo = none := by
      cases q : H lo with
      | none => rfl
      | some o =>
        have e1 : lo ≠ p := fun e => by rw [e, p2] at hlo; cases hlo
        rw [Kp.get1 k2 e1 (kn.get0 q)] at hlo
        cases hlo
    have nplo : lo ≠ p := ne_newR hlo p2
    have fhi : H hi = none := by
      cases q : H hi with
      | none => rfl
      | some o =>
        have e1 : hi ≠ p := fun e => by rw [e, p4] at hhi; cases hhi
        rw [Kp.get1 k4 e1 (k3.get0 (Kp.get1 k2 e1 (kn.get0 q)))] at hhi
        cases hhi
    have nphi : hi ≠ p := ne_newR hhi p4
    have en2 : H2 n = some (.lst []) := Kp.get1 k2 npn en
    have nlon : lo ≠ n := ne_newR hlo en2
    have en4 : H4 n = some (.lst []) := Kp.get1 k4 npn (k3.get0 en2)
    have nhin : hi ≠ n := ne_newR hhi en4
    have elo4 : H4 lo = some (.lst []) := Kp.get1 k4 nplo elo
    have nhil : hi ≠ lo := ne_newR hhi elo4
    have e6n : H6 n = some (.lst []) := Kp.get1 k6 npn (k5.get0 en4)
    have e6l : H6 lo = some (.lst []) := Kp.get1 k6 nplo (k5.get0 elo4)
    have e6h : H6 hi = some (.lst []) := Kp.get1 k6 nphi ehi
    have K6 : Kp [p] H H6 := Kp.tr1 k6 (Kp.tr0 k5 (Kp.tr1 k4 (Kp.tr0 k3 (Kp.tr1 k2 (Kp.tr0 kn (.base fun b hb => by rw [List.mem_singleton] at hb; subst hb; rw [hp]; trivial))))))
    have p6' : H6 p = some (.ins C_Model dx (fs3 n lo hi)) := p6
    clear k2 k3 k4 k5 k6 kn p2 p4 p6 en en2 en4 elo elo4 ehi hlo hhi hn
    have f1 := fs3_nm n lo hi
    have f2 := fs3_lo n lo hi
    have f3 := fs3_hi n lo hi
    have f4 := fs3_len n lo hi
    generalize hfs : fs3 n lo hi = fs at p6' f1 f2 f3 f4
    walk_at "cg"
    refine r_forL refs (fun i σ' H' => ∃ x2 x3 x4 : Option V, σ' = [some (.ref p), some (.ref l), x2, x3, x4] ∧ Kp [p] H H' ∧ H' p = some (.ins C_Model dx fs) ∧ H' n = some (.lst (((us.take i).map (·.1)).map V.str)) ∧
      H' lo = some (.lst (((us.take i).map (·.2.1)).map V.int)) ∧ H' hi = some (.lst (((us.take i).map (·.2.2)).map V.int))) ⟨none, none, none, rfl, K6, p6', e6n, e6l, e6h⟩ (fun i σ' H' ⟨_, _, _, _, kk, _⟩ => kk.get1 npl.symm hl) ?_ ?_
    · clear K6 p6' e6n e6l e6h
      rintro i x σ' H' hx ⟨x2, x3, x4, rfl, kk, e1, e2, e3, e4⟩
      obtain ⟨u, hu, hux⟩ := mapGetP (kk.imAll hI) hx
      obtain ⟨q, rfl, sq⟩ := un_at hux
      have hum := List.mem_of_getElem? hu
      have hi60 : i < us.length := (List.getElem?_eq_some_iff.mp hu).1
      have ou := ok u hum
      have z1 : (((us.take i).map (·.1)).map V.str).length ≤ 60 := by simp; omega
      have z2 : (((us.take i).map (·.2.1)).map V.int).length ≤ 60 := by simp; omega
      have z3 : (((us.take i).map (·.2.2)).map V.int).length ≤ 60 := by simp; omega
      have nin : decide (u.1 ∈ (us.take i).map (·.1)) = false := by
        refine decide_eq_false fun hm => ?_
        have e9 : us = us.take i ++ u :: us.drop (i + 1) := by
          obtain ⟨hi, rfl⟩ := List.getElem?_eq_some_iff.mp hu
          rw [List.getElem_cons_drop, List.take_append_drop]
        rw [e9, List.map_append, List.nodup_append] at hnd
        exact hnd.2.2 u.1 hm u.1 (by simp) rfl
      walk_at "cg"
      refine ⟨u.1, rfl, ou.2.1, ?_⟩
      rw [ou.1]
      walk_at "cg"
      refine ⟨_, _, rfl, ?_⟩
      rw [decide_eq_true ou.2.2.1, decide_eq_true ou.2.2.2.1, decide_eq_true ou.2.2.2.2, show (true && (true && true)) = true from rfl]
      walk_at "cg"
      refine r_inL e2 rfl (flat_strs _) (b := false) (by rw [if_neg Bool.false_ne_true, inV_strs]; exact nin) ?_
      walk_at "cg"
      rename_i H7 e7 k7 H8 e8 k8 H9 e9 k9
      have e7p := Kp.get1 k7 npn.symm e1
      have e7l := Kp.get1 k7 nlon e3
      have e7h := Kp.get1 k7 nhin e4
      have e8p := Kp.get1 k8 nplo.symm e7p
      have e8n := Kp.get1 k8 nlon.symm e7
      have e8h := Kp.get1 k8 nhil e7h
      refine ⟨_, _, _, rfl, Kp.trN k9 (Kp.trN k8 (Kp.trN k7 kk fn) flo) fhi, Kp.get1 k9 nphi.symm e8p, ?_, ?_, ?_⟩
      · rw [Kp.get1 k9 nhin.symm e8n, map_take_snoc hu, List.map_append]
        rfl
      · rw [Kp.get1 k9 nhil.symm e8, map_take_snoc hu, List.map_append]
        rfl
      · rw [e9, map_take_snoc hu, List.map_append]
        rfl
    · clear K6 p6' e6n e6l e6h
      rintro σ' H' ⟨x2, x3, x4, rfl, kk, e1, e2, e3, e4⟩
      rw [hrl, List.take_length, List.map_map] at e2 e3 e4
      have few4 : fs.length < 1000 := by omega
      walk_at "cg"
      rename_i bd H7 hbd ebd k7 H8 e8 k8 pe H9 hpe se k9 pg H10 hpg sg k10
      refine r_setF (by walk_at "cg h") c a5 (by have := putF_le (Str.ofString "_bodies") (.ref bd) fs; omega) fun H11 e11 k11 => ?_
      have npbd : bd ≠ p := ne_newR hbd e1
      have nnbd : bd ≠ n := ne_newR hbd e2
      have fbd : H bd = none := by
        refine kk.free hbd fun b hb => ?_
        rw [List.mem_singleton] at hb
        subst hb
        exact ⟨_, e1⟩
      have up : ∀ {x o}, x ≠ p → H' x = some o → H11 x = some o := fun {x o} hx e => Kp.get1 k11 hx (k10.get0 (k9.get0 (Kp.get1 k8 hx (k7.get0 e))))
      have ebd11 : H11 bd = some (.dK []) := Kp.get1 k11 npbd (k10.get0 (k9.get0 (Kp.get1 k8 npbd ebd)))
      subst hfs
      refine k ⟨p, n, lo, hi, bd⟩ H11 rfl ⟨⟨dx, _, _, e11, MFs.new, k11.im (.tup sg (.cons (.str _) (.cons (.tup (k10.tup se) .nil) (.cons (.int _) .nil))))⟩, up npn e2, up nplo e3, up nphi e4, ⟨[], ebd11, rfl, .nil⟩, ⟨nlon.symm, nhin.symm, nhil.symm⟩⟩ (fun x hx => ?_) (Kp.tr1 k11 (Kp.tr0 k10 (Kp.tr0 k9 (Kp.tr1 k8 (Kp.tr0 k7 kk)))))
      simp only [MA.all, List.mem_cons, List.not_mem_nil, or_false] at hx
      rcases hx with rfl | rfl | rfl | rfl | rfl
      · exact .inl rfl
      · exact .inr fn
      · exact .inr flo
      · exact .inr fhi
      · exact .inr fbd
theorem ok_Model_put {f : Addr} {fd : FuncData} (F : Fun K "put" "Model.put" s_Model_put f fd) (B : Bi K mg C_Model) (D_is_label : Is P w K mg base CX0 1 "is_label" ["text"] spLabel) (D_body_fits : Is P w K mg base CX0 3 "body_fits" ["body", "many"] (spBodyFits K)) : FnOk P w K mg base CX0 4 f fd ["self", "label", "body"] (spPut K C_Model) := by
  have nd := sc_Model_put.nd
  refine F.ok sc_Model_put ?len (fun cdv A outer s H vs Q E hr h => ?body)
  case len =>
    rintro vs H Q E ⟨a, s, pb, b, M, rfl, _⟩
    rfl
  case body =>
    obtain ⟨a, s, pb, b, M, rfl, hM, hL, hsl, hn, hb, fb, few, k⟩ := h
    refine ⟨_, (pss_cons (ps_if (pt_not (pt_val (pe_is D_is_label (hr.mono (by decide)) rfl pass0 (pa_cons (pv 1) pa_nil))))
      (pss_one ps_never)
      pss_nil)
      (pss_cons (ps_if (pt_cmp (pc_din (hu_of hr) (pv 1) (pe_fld (pv 0) rfl)))
      (pss_one ps_never)
      pss_nil)
      (pss_cons (ps_if (pt_not (pt_val (pe_is D_body_fits (hr.mono (by decide)) rfl pass0 (pa_cons (pv 2) (pa_cons (pe_callB (cgLen K) (by rfl) B.n_len PySem.boot_len (pa_cons (pe_fld (pv 0) rfl) pa_nil)) pa_nil)))))
      (pss_one ps_never)
      pss_nil)
      (pss_cons (ps_if (pt_cmpR op_ge (pe_callB call_lenD (by rfl) B.n_len PySem.boot_len (pa_cons (pe_fld (pv 0) rfl) pa_nil)) (pe_gc rfl B.c_CONSTRAINTS_MOST) (nomark _))
      (pss_one ps_never)
      pss_nil)
      (pss_one (ps_dput (hu_of hr) (pe_fld (pv 0) rfl) (pv 1) (pv 2) rfl)))))), ?_⟩
    try dsimp only [L2.cxOf, L2.Cx.nox, L2.Cx.wish]
    rw [st_Model_put]
    have c := B.cl_Model
    have a1 := B.at_Model__names
    have a4 := B.at_Model__bodies
    obtain ⟨dx, fs, g, h1, h2, h3⟩ := hM.ob
    obtain ⟨kvs, h4, h5, h6⟩ := hM.bo
    have l1 := h2.nm
    have l4 := h2.bo
    have hkn : kvs.length = M.bs.length := by
      have q := congrArg List.length h5
      rw [List.length_map, List.length_map] at q
      exact q
    have nk : ¬ (Sum.inr s : Key) ∈ kvs.map (·.1) := fun hm => by
      have hm2 : (Sum.inr s : Key) ∈ M.bs.map (fun b => (Sum.inr b.1 : Key)) := h5 ▸ hm
      obtain ⟨z, hz, e⟩ := List.mem_map.mp hm2
      cases e
      exact hn (List.mem_map.mpr ⟨z, hz, rfl⟩)
    have nv : valV kvs (Sum.inr s : Key) = none := not_valV nk
    have hln : ((M.us.map fun u => V.str u.1).length : Int) = M.us.length := by rw [List.length_map]
    have hnm := hM.nm
    have npb : a.p ≠ a.b := ne_of h1 h4 (fun e => by cases e)
    walk_at "cg"
    refine ⟨s, rfl, hsl, ?_⟩
    rw [hL]
    walk_at "cg"
    refine r_inDk0 (k := Sum.inr s) h4 nv ?_
    walk_at "cg"
    refine ⟨pb, _, b, rfl, hb, b.fit_walk fb, fun r H' hr k' => ?_⟩
    have er : r = true := hr.mpr (by rw [hln]; exact fb)
    subst er
    walk_at "cg"
    refine ⟨a.b, kvs, rfl, k'.get0 h4, ?_⟩
    walk_at "cg"
    refine r_putD (k := Sum.inr s) (k'.get0 h4) (by omega) fun H2 e2 k2 => ?_
    rw [putK_new _ nv] at e2
    have kk : Kp [a.b] H H2 := ⟨fun b' o hb' e => k2.k b' o hb' (k'.get0 e), fun b' hb' => by
      rw [List.mem_singleton] at hb'
      subst hb'
      rw [h4]
      trivial⟩
    have nn : ∀ {x o}, H x = some o → (∀ q, o ≠ .dK q) → x ≠ a.b := fun {x o} e ho z => by
      rw [z, h4] at e
      exact ho _ (Option.some.inj e).symm
    refine k H2 ⟨⟨dx, fs, g, kk.get1 (nn h1 (fun q e => by cases e)) h1, h2, kk.im h3⟩, kk.get1 (nn hM.nm (fun q e => by cases e)) hM.nm, kk.get1 (nn hM.lo (fun q e => by cases e)) hM.lo, kk.get1 (nn hM.hi (fun q e => by cases e)) hM.hi, ⟨_, e2, ?_, ?_⟩, hM.ne⟩ kk
    · rw [List.map_append, List.map_append, h5]
      rfl
    · rw [List.map_append, List.map_append]
      exact (kk.imAll h6).snoc (kk.im hb)
theorem MdlAt.off {K : PySem.W.Frag} {C : Addr} {H : Hp} {a : MA} {M : Mdl} {l : Addr} (h : MdlAt K C H a M) (f : H l = none) : offA a l := fun x hx e => by
  subst e
  obtain ⟨dx, fs, g, h1, _⟩ := h.ob
  obtain ⟨kvs, h4, _⟩ := h.bo
  have h5 := h.nm
  have h6 := h.lo
  have h7 := h.hi
  simp only [MA.all, List.mem_cons, List.not_mem_nil, or_false] at hx
  rcases hx with rfl | rfl | rfl | rfl | rfl
  · rw [f] at h1
    cases h1
  · rw [f] at h5
    cases h5
  · rw [f] at h6
    cases h6
  · rw [f] at h7
    cases h7
  · rw [f] at h4
    cases h4
theorem set_at {pt B : List Int} {k : Nat} {x y : Int} (h : pt[k]? = some x) : (pt.take (k + 1) ++ B).set k y = pt.take k ++ y :: B := by
  have hk := (List.getElem?_eq_some_iff.mp h).1
  have e : pt.take (k + 1) = pt.take k ++ [x] := by
    rw [List.take_add_one, h]
    rfl
  have l : (pt.take k).length = k := by
    rw [List.length_take]
    omega
  rw [e, List.append_assoc, List.set_append_right _ _ (by omega), l, Nat.sub_self]
  rfl
theorem get_at {pt B : List Int} {k : Nat} {x : Int} (h : pt[k]? = some x) : atI ((pt.take (k + 1) ++ B).map V.int) (k : Int) = some (.int x) := by
  have hk := (List.getElem?_eq_some_iff.mp h).1
  have e : pt.take (k + 1) = pt.take k ++ [x] := by
    rw [List.take_add_one, h]
    rfl
  have l : (pt.take k).length = k := by
    rw [List.length_take]
    omega
  have e2 : (pt.take (k + 1) ++ B)[k]? = some x := by
    rw [e, List.append_assoc, List.getElem?_append_right (by omega), l, Nat.sub_self]
    rfl
  rw [atI_nat (by omega) (by rw [List.length_map, List.length_append, List.length_take]; omega), Int.toNat_natCast, List.getElem?_map, e2]
  rfl
theorem ok_Model_many {f : Addr} {fd : FuncData} (F : Fun K "many" "Model.many" s_Model_many f fd) (B : Bi K mg C_Model)  : FnOk P w K mg base CX0 1 f fd ["self"] (spMany K C_Model) := by
  have nd := sc_Model_many.nd
  refine F.ok sc_Model_many ?len (fun cdv A outer s H vs Q E hr h => ?body)
  case len =>
    rintro vs H Q E ⟨a, M, rfl, _⟩
    rfl
  case body =>
    obtain ⟨a, M, rfl, hM, h60, k⟩ := h
    refine ⟨_, (pss_one (ps_ret (pe_callB (cgLen K) (by rfl) B.n_len PySem.boot_len (pa_cons (pe_fld (pv 0) rfl) pa_nil)))), ?_⟩
    try dsimp only [L2.cxOf, L2.Cx.nox, L2.Cx.wish]
    rw [st_Model_many]
    have c := B.cl_Model
    have a1 := B.at_Model__names
    obtain ⟨dx, fs, g, h1, h2, h3⟩ := hM.ob
    have l1 := h2.nm
    have e1 := hM.nm
    have hln : ((M.us.map fun u => V.str u.1).length : Int) = M.us.length := by rw [List.length_map]
    walk_at "cg"
    rw [hln]
    exact k
theorem ok_Model__need {f : Addr} {fd : FuncData} (F : Fun K "_need" "Model._need" s_Model__need f fd) (B : Bi K mg C_Model)  : FnOk P w K mg base CX0 1 f fd ["self", "v"] (spNeed K C_Model) := by
  have nd := sc_Model__need.nd
  refine F.ok sc_Model__need ?len (fun cdv A outer s H vs Q E hr h => ?body)
  case len =>
    rintro vs H Q E ⟨a, M, v, rfl, _⟩
    rfl
  case body =>
    obtain ⟨a, M, v, rfl, hM, h60, v0, v1, k⟩ := h
    refine ⟨_, (pss_one (ps_if (pt_not (pt_chain op_le op_lt pe_int (pv 1) (pe_callB (cgLen K) (by rfl) B.n_len PySem.boot_len (pa_cons (pe_fld (pv 0) rfl) pa_nil))))
      (pss_one ps_never)
      pss_nil)), ?_⟩
    try dsimp only [L2.cxOf, L2.Cx.nox, L2.Cx.wish]
    rw [st_Model__need]
    have c := B.cl_Model
    have a1 := B.at_Model__names
    obtain ⟨dx, fs, g, h1, h2, h3⟩ := hM.ob
    have l1 := h2.nm
    have e1 := hM.nm
    have hln : ((M.us.map fun u => V.str u.1).length : Int) = M.us.length := by rw [List.length_map]
    walk_at "cg"
    exact k
theorem ok_Model_low {f : Addr} {fd : FuncData} (F : Fun K "low" "Model.low" s_Model_low f fd) (B : Bi K mg C_Model) (D_Model__need : IsM P w K mg base CX0 1 C_Model "_need" ["self", "v"] (spNeed K C_Model)) : FnOk P w K mg base CX0 2 f fd ["self", "v"] (spLow K C_Model) := by
  have nd := sc_Model_low.nd
  obtain ⟨f_Model__need, fd_Model__need, G_Model__need, m_Model__need, b_Model__need⟩ := D_Model__need.ex
  refine F.ok sc_Model_low ?len (fun cdv A outer s H vs Q E hr h => ?body)
  case len =>
    rintro vs H Q E ⟨a, M, v, u, rfl, _⟩
    rfl
  case body =>
    obtain ⟨a, M, v, u, rfl, hM, h60, v0, hu, k⟩ := h
    refine ⟨_, (pss_cons (ps_expr (pe_meth (pv 0) D_Model__need.cl m_Model__need G_Model__need (hr.mono (by decide)) b_Model__need .nil pass0 (pa_cons (pv 1) pa_nil)))
      (pss_one (ps_ret (pe_ix (ixL K) (pe_fld (pv 0) rfl) (pv 1) (fun _ _ => rfl))))), ?_⟩
    try dsimp only [L2.cxOf, L2.Cx.nox, L2.Cx.wish]
    rw [st_Model_low]
    have c := B.cl_Model
    have a1 := B.at_Model__lows
    obtain ⟨dx, fs, g, h1, h2, h3⟩ := hM.ob
    have l1 := h2.lo
    have e1 := hM.lo
    have hi := (List.getElem?_eq_some_iff.mp hu).1
    walk_at "cg"
    refine ⟨a, M, v, rfl, hM, h60, v0, by omega, ?_⟩
    walk_at "cg"
    refine r_ixL e1 (at_lo v0 hu) ?_
    walk_at "cg"
    exact k
theorem ok_Model_high {f : Addr} {fd : FuncData} (F : Fun K "high" "Model.high" s_Model_high f fd) (B : Bi K mg C_Model) (D_Model__need : IsM P w K mg base CX0 1 C_Model "_need" ["self", "v"] (spNeed K C_Model)) : FnOk P w K mg base CX0 2 f fd ["self", "v"] (spHigh K C_Model) := by
  have nd := sc_Model_high.nd
  obtain ⟨f_Model__need, fd_Model__need, G_Model__need, m_Model__need, b_Model__need⟩ := D_Model__need.ex
  refine F.ok sc_Model_high ?len (fun cdv A outer s H vs Q E hr h => ?body)
  case len =>
    rintro vs H Q E ⟨a, M, v, u, rfl, _⟩
    rfl
  case body =>
    obtain ⟨a, M, v, u, rfl, hM, h60, v0, hu, k⟩ := h
    refine ⟨_, (pss_cons (ps_expr (pe_meth (pv 0) D_Model__need.cl m_Model__need G_Model__need (hr.mono (by decide)) b_Model__need .nil pass0 (pa_cons (pv 1) pa_nil)))
      (pss_one (ps_ret (pe_ix (ixL K) (pe_fld (pv 0) rfl) (pv 1) (fun _ _ => rfl))))), ?_⟩
    try dsimp only [L2.cxOf, L2.Cx.nox, L2.Cx.wish]
    rw [st_Model_high]
    have c := B.cl_Model
    have a1 := B.at_Model__highs
    obtain ⟨dx, fs, g, h1, h2, h3⟩ := hM.ob
    have l1 := h2.hi
    have e1 := hM.hi
    have hi := (List.getElem?_eq_some_iff.mp hu).1
    walk_at "cg"
    refine ⟨a, M, v, rfl, hM, h60, v0, by omega, ?_⟩
    walk_at "cg"
    refine r_ixL e1 (at_hi v0 hu) ?_
    walk_at "cg"
    exact k
end
section
variable {P : Program} {w : World} {K : PySem.W.Frag} {mg : Str → Option Value} {base : Heap} {C_Model : Addr}
theorem ok_law_draw {f : Addr} {fd : FuncData} (F : Fun K "_law_draw" "_law_draw" s_law_draw f fd) (B : Bi K mg C_Model)  : FnOk P w K mg base CX0 1 f fd ["_law_tape_here", "_law_many"] spDraw := by
  have nd := sc_law_draw.nd
  refine F.ok sc_law_draw ?len (fun cdv A outer s H vs Q E hr h => ?body)
  case len =>
    rintro vs H Q E ⟨t, c, m, rfl, _⟩
    rfl
  case body =>
    obtain ⟨t, c, m, rfl, T, hm1, hm2, q⟩ := h
    refine ⟨_, (Evl.pss_cut (ps_if (pt_cmpR op_lt (pe_ix (ixL K) (pv 0) pe_int (fun _ _ => rfl)) (pv 1) (nomark _))
      (pss_cons (ps_set (i := 2) nd rfl (Or.inl rfl) (pe_ix (ixL K) (pv 0) pe_int (fun _ _ => rfl)))
      (pss_cons (ps_set (i := 3) nd rfl (Or.inl rfl) (pe_ix (ixL K) (pv 0) pe_int (fun _ _ => rfl)))
      (pss_cons (ps_set (i := 4) nd rfl (Or.inl rfl) pe_int)
      (Evl.pss_cut (ps_if (pt_cmpR op_lt (pv 3) (pe_callB (cgLen K) (by rfl) B.n_len PySem.boot_len (pa_cons (pv 2) pa_nil)) (nomark _))
      (pss_one (ps_set (i := 4) nd rfl (Or.inl rfl) (pe_ix (ixL K) (pv 2) (pv 3) (fun _ _ => rfl))))
      pss_nil)
      (Evl.pss_cut (ps_if (pt_cmpR op_lt (pv 4) pe_int (nomark _))
      (pss_one (ps_set (i := 4) nd rfl (Or.inl rfl) (pe_op op_sub (pe_op op_mul (pe_un un_neg pe_int) (pv 4)) pe_int)))
      pss_nil)
      (Evl.pss_cut (ps_if (pt_cmpR op_lt (pv 4) (pe_op op_pow pe_int pe_int) (nomark _))
      (pss_cons (ps_set (i := 4) nd rfl (Or.inl rfl) (pe_op op_mod (pe_callTy cg_int (by rfl) B.n_int PyProof.Rows.boot_int (pa_cons (pe_op op_add (pe_op op_add (pe_op op_mul (pv 4) pe_int) (pe_op op_mul (pv 3) pe_int)) pe_int) pa_nil)) pe_int))
      (pss_one (ps_set (i := 4) nd rfl (Or.inl rfl) (pe_op op_mod (pe_callTy cg_int (by rfl) B.n_int PyProof.Rows.boot_int (pa_cons (pe_op op_add (pe_op op_add (pe_op op_mul (pv 4) pe_int) (pe_op op_mul (pv 3) pe_int)) pe_int) pa_nil)) pe_int))))
      pss_nil)
      (pss_cons (ps_asg (pe_op op_add (pv 3) pe_int) (pg_sub (pv 0) pe_int set_list))
      (pss_one (ps_asg (pv 4) (pg_sub (pv 0) pe_int set_list))))))))))
      pss_nil)
      (pss_cons (ps_set (i := 5) nd rfl (Or.inl rfl) (pe_op op_mod (pe_callTy cg_int (by rfl) B.n_int PyProof.Rows.boot_int (pa_cons (pe_ix (ixL K) (pv 0) pe_int (fun _ _ => rfl)) pa_nil)) (pv 1)))
      (pss_cons (ps_asg (pe_op op_fdivW (pe_ix (ixL K) (pv 0) pe_int (fun _ _ => rfl)) (pv 1)) (pg_sub (pv 0) pe_int set_list))
      (pss_one (ps_ret (pv 5)))))), ?_⟩
    try dsimp only [L2.cxOf, L2.Cx.nox, L2.Cx.wish]
    rw [st_law_draw]
    obtain ⟨ns, k, z, h1, h2, hk, hz⟩ := id T.ex
    have net := T.ne
    show Evl.tCut _ _ _ _ _
    refine ⟨fun σ' H1 => ∃ (k z : Int) (x1 x2 x3 x4 : Option V), σ' = [some (V.ref t), some (.int m), x1, x2, x3, x4] ∧ H1 t = some (.lst [.ref c, .int k, .int z]) ∧ H1 c = some (.lst (ns.map V.int)) ∧ 0 ≤ k ∧ 0 ≤ z ∧ (H1 = H ∨ Kp [t] H H1), ?_, ?_⟩
    · walk_at "cg"
      refine if_S (fun hc => ?_) (fun hc => ?_)
      · walk_at "cg"
        refine ⟨fun σ' H1 => ∃ z' : Int, σ' = [some (V.ref t), some (.int m), some (V.ref c), some (.int k), some (.int z'), none] ∧ H = H1, ?_, ?_⟩
        · walk_at "cg"
          refine if_S (fun hk1 => ?_) (fun hk1 => ?_)
          · walk_at "cg"
            rw [List.length_map] at hk1
            refine r_ixL h2 (v := .int (ns.getD k.toNat 0)) ?_ ?_
            · have e : k.toNat < ns.length := by omega
              simp [atI, ixN, hk, hk1, e]
            · walk_at "cg"
              exact ⟨_, rfl, rfl⟩
          · walk_at "cg"
            exact ⟨_, rfl, rfl⟩
        · rintro σ' H1 ⟨z1, rfl, rfl⟩
          refine ⟨fun σ' H2 => ∃ z' : Int, 0 ≤ z' ∧ σ' = [some (V.ref t), some (.int m), some (V.ref c), some (.int k), some (.int z'), none] ∧ H = H2, ?_, ?_⟩
          · walk_at "cg"
            refine if_S (fun hk1 => ?_) (fun hk1 => ?_)
            · walk_at "cg"
              exact ⟨_, by omega, rfl, rfl⟩
            · walk_at "cg"
              exact ⟨_, by omega, rfl, rfl⟩
          · rintro σ' H2 ⟨z2, hz2, rfl, rfl⟩
            refine ⟨fun σ' H2 => ∃ z' : Int, 0 ≤ z' ∧ σ' = [some (V.ref t), some (.int m), some (V.ref c), some (.int k), some (.int z'), none] ∧ H = H2, ?_, ?_⟩
            · walk_at "cg"
              refine if_S (fun hk1 => ?_) (fun hk1 => ?_)
              · walk_at "cg"
                exact ⟨_, by omega, rfl, rfl⟩
              · walk_at "cg"
                exact ⟨_, hz2, rfl, rfl⟩
            · rintro σ' H2 ⟨z3, hz3, rfl, rfl⟩
              walk_at "cg"
              intro H2 e1 k1
              walk_at "cg"
              intro H3 e2 k2
              walk_at "cg"
              exact ⟨k + 1, z3, _, _, _, _, rfl, e2, k2.get1 net.symm (k1.get1 net.symm h2), by omega, hz3, .inr ⟨fun b o hb e => k2.k b o hb (k1.k b o hb e), k1.mu⟩⟩
      · walk_at "cg"
        exact ⟨k, z, _, _, _, _, rfl, h1, h2, hk, hz, .inl rfl⟩
    · rintro σ' H1 ⟨k, z, x1, x2, x3, x4, rfl, g1, g2, gk, gz, hk⟩
      walk_at "cg"
      refine r_rI (bigB_ok hm1 hm2) ?_
      walk_at "cg"
      intro H2 e1 k1
      walk_at "cg"
      refine q _ _ (Int.emod_nonneg _ (by omega)) (Int.emod_lt_of_pos _ (by omega)) ⟨ns, k, _, e1, k1.get1 net.symm g2, gk, Int.ediv_nonneg gz (by omega)⟩ ?_
      rcases hk with rfl | hk
      · exact k1
      · exact ⟨fun b o hb e => k1.k b o hb (hk.k b o hb e), hk.mu⟩

theorem ok_law_tape {f : Addr} {fd : FuncData} (F : Fun K "_law_tape" "_law_tape" s_law_tape f fd) (B : Bi K mg C_Model)  : FnOk P w K mg base CX0 1 f fd ["_law_script"] (spTape K) := by
  have nd := sc_law_tape.nd
  refine F.ok sc_law_tape ?len (fun cdv A outer s H vs Q E hr h => ?body)
  case len =>
    rintro vs H Q E ⟨a, ns, rfl, _⟩
    rfl
  case body =>
    obtain ⟨a, ns, rfl, hS, q⟩ := h
    refine ⟨_, (pss_one (ps_ret (pe_lst (pa_cons (pe_callTy (cgList K) (by rfl) B.n_list (by decide +kernel) (pa_cons (pv 0) pa_nil)) (pa_cons pe_int (pa_cons pe_int pa_nil)))))), ?_⟩
    try dsimp only [L2.cxOf, L2.Cx.nox, L2.Cx.wish]
    rw [st_law_tape]
    walk_at "cg"
    rename_i c H1 hc h1 k1 t H2 ht h2 k2
    exact q _ _ _ (Kp.free0 (by assumption) ht) hc ⟨ns, 0, 0, h2, k2.get0 h1, by decide, by decide⟩ (by walk_at "cg kp")

theorem ok_law_same {f : Addr} {fd : FuncData} (F : Fun K "_law_same" "_law_same" s_law_same f fd) (B : Bi K mg C_Model)  : FnOk P w K mg base CX0 1 f fd ["_law_told", "_law_due"] spSame := by
  have nd := sc_law_same.nd
  refine F.ok sc_law_same ?len (fun cdv A outer s H vs Q E hr h => ?body)
  case len =>
    rintro vs H Q E ⟨a, b, rfl, _⟩
    rfl
  case body =>
    obtain ⟨a, b, rfl, q⟩ := h
    refine ⟨_, (pss_one (ps_ret (pe_and (pe_callB (cgIsi K) (by rfl) B.n_isinstance (by decide +kernel) (pa_cons (pv 0) (pa_cons (pe_bltn (v := .ty "bool") rfl B.n_bool (by decide +kernel) rfl) pa_nil))) (pe_one (pe_cmpR op_eq (pv 0) (pv 1) (nomark _)))))), ?_⟩
    try dsimp only [L2.cxOf, L2.Cx.nox, L2.Cx.wish]
    rw [st_law_same]
    walk_at "cg"
    exact q

end
section
variable {P : Program} {w : World} {K : PySem.W.Frag} {mg : Str → Option Value} {base : Heap} {C_Model : Addr}
end
/-! ### comprehensions over a range: ints, truth values -/
theorem at_map_range (L : List Int) : (List.range L.length).map (fun i : Nat => at_ L (i : Int)) = L := by
  refine List.ext_getElem (by simp) fun i h1 h2 => ?_
  rw [List.getElem_map, List.getElem_range]
  unfold at_
  rw [Int.toNat_natCast, List.getD_eq_getElem?_getD, List.getElem?_eq_getElem h2]
  rfl
section
variable {σ σ0 : St} {H : Hp} {K : PySem.W.Frag} {g : TG} {tt : TT} {te : TE} {vs : List Nat} {Q : VK} {n : Nat} {lo : Int}
theorem lcR_L (L : List Int) (hn : n = L.length) [hw : Wip σ vs σ0] (small : n ≤ 10000)
    (hs : ∀ (i : Nat) (H' : Hp) (R : V → Hp → Prop) (R' : Hp → Prop), i < L.length → Kp [] H H' → (∀ H4, Kp [] H' H4 → R (.int (at_ L i)) H4) → lcTurn g tt te vs σ σ0 (.int (lo + (i : Int))) H' R R')
    (hd : ∀ D H', H D = none → H' D = some (.lst (L.map V.int)) → Kp [] H H' → Q (.ref D) H') : lcS (Itr lo n) g tt te vs σ H Q :=
  lcR_m (K := default) (fun i => PyData.int (at_ L (i : Int))) small (fun i H' R R' hi k h => hs i H' R R' (hn ▸ hi) k fun H4 k4 => h _ H4 (.int _) k4) fun D H' acc hD eD hA k => hd D H' hD (by
    have e : (List.range n).map (fun i : Nat => PyData.int (at_ L (i : Int))) = L.map PyData.int := by
      have := congrArg (fun l => l.map PyData.int) (at_map_range L)
      rw [List.map_map] at this
      rw [hn]
      exact this
    rw [e] at hA
    rw [eD, hA.ints]) k
theorem lcR_B (f : Nat → Bool) [hw : Wip σ vs σ0] (small : n ≤ 10000)
    (hs : ∀ (i : Nat) (H' : Hp) (R : V → Hp → Prop) (R' : Hp → Prop), i < n → Kp [] H H' → (∀ H4, Kp [] H' H4 → R (.bl (f i)) H4) → lcTurn g tt te vs σ σ0 (.int (lo + (i : Int))) H' R R')
    (hd : ∀ D H', H D = none → H' D = some (.lst (((List.range n).map f).map V.bl)) → Kp [] H H' → Q (.ref D) H') : lcS (Itr lo n) g tt te vs σ H Q :=
  lcR_m (K := default) (fun i => PyData.bool (f i)) small (fun i H' R R' hi k h => hs i H' R R' hi k fun H4 k4 => h _ H4 (.bl _) k4) fun D H' acc hD eD hA k => hd D H' hD (by
    have e : (List.range n).map (fun i : Nat => PyData.bool (f i)) = ((List.range n).map f).map PyData.bool := by rw [List.map_map]; rfl
    rw [e] at hA
    rw [eD, hA.bls]) k
end
theorem mapGetJ {K : PySem.W.Frag} {H : Hp} {α : Type} {f : α → PyData} {xs : List V} {as : List α} {i : Nat} {a : α} (h : ImAll K H xs (as.map f)) (e : as[i]? = some a) : ∃ x, atI xs (0 + (i : Int)) = some x ∧ Im K H x (f a) := by
  have hl := mapLenP h
  have hi := (List.getElem?_eq_some_iff.mp e).1
  obtain ⟨x, hx⟩ : ∃ x, xs[i]? = some x := ⟨_, List.getElem?_eq_getElem (by omega)⟩
  obtain ⟨b, hb, hI⟩ := mapGetP h hx
  rw [e] at hb
  cases hb
  refine ⟨x, ?_, hI⟩
  rw [Int.zero_add, atI_nat (by omega) (by omega), Int.toNat_natCast, hx]

/-! ### facts, points as functions -/
inductive Fact where
  | row (ts : Tms) (n : Int)
  | any (ls : List Lit)
  deriving DecidableEq
def Fact.d : Fact → PyData
  | .row ts n => .tuple [.str (Str.ofString "row"), tmD ts, .int n]
  | .any ls => .tuple [.str (Str.ofString "any"), litsD ls]
theorem Fact.shp (f : Fact) : Shp 3 f.d := by
  cases f with
  | row ts n => exact .tup (shp_cons (.str (by decide +kernel)) (shp_cons (tmD_shp ts) (shp_cons (.int _) shp_nil)))
  | any ls => exact .tup (shp_cons (.str (by decide +kernel)) (shp_cons (litsD_shp ls) shp_nil))
def Fact.h (f : Pt) : Fact → Bool
  | .row ts n => decide (sumF ts f ≤ n)
  | .any ls => ls.any fun l => l.h f
def Fact.vars : Fact → List Int
  | .row ts _ => ts.map (·.1)
  | .any ls => ls.map (·.v)
abbrev FactAt (K : PySem.W.Frag) (H : Hp) (p : Addr) (f : Fact) : Prop := Im K H (.ref p) f.d
section
variable {K : PySem.W.Frag} {H : Hp} {p : Addr} {ts : Tms} {n : Int} {ls : List Lit} {l : Lit} {x : V}
theorem row_open (h : FactAt K H p (.row ts n)) : ∃ q, SqT K H p [.str (Str.ofString "row"), .ref q, .int n] ∧ Im K H (.ref q) (tmD ts) := by
  obtain ⟨_, h1, h2⟩ := Im.open h
  obtain ⟨_, _, rfl, a1, h2⟩ := h2.c
  obtain ⟨_, _, rfl, a2, h2⟩ := h2.c
  obtain ⟨_, _, rfl, a3, h2⟩ := h2.c
  obtain rfl := h2.n
  obtain ⟨q, rfl⟩ := a2.isRef
  cases a1; cases a3
  exact ⟨q, h1, a2⟩
theorem any_open (h : FactAt K H p (.any ls)) : ∃ q, SqT K H p [.str (Str.ofString "any"), .ref q] ∧ Im K H (.ref q) (litsD ls) := by
  obtain ⟨_, h1, h2⟩ := Im.open h
  obtain ⟨_, _, rfl, a1, h2⟩ := h2.c
  obtain ⟨_, _, rfl, a2, h2⟩ := h2.c
  obtain rfl := h2.n
  obtain ⟨q, rfl⟩ := a2.isRef
  cases a1
  exact ⟨q, h1, a2⟩
theorem row_mk (h1 : SqT K H p [.str (Str.ofString "row"), x, .int n]) (h2 : Im K H x (tmD ts)) : FactAt K H p (.row ts n) := .tup h1 (.cons (.str _) (.cons h2 (.cons (.int _) .nil)))
theorem any_mk (h1 : SqT K H p [.str (Str.ofString "any"), x]) (h2 : Im K H x (litsD ls)) : FactAt K H p (.any ls) := .tup h1 (.cons (.str _) (.cons h2 .nil))
theorem fact_at {f : Fact} (h : Im K H x f.d) : ∃ q, x = .ref q ∧ FactAt K H q f := by
  cases f with
  | row ts n =>
    obtain ⟨q, rfl⟩ := Im.isRef h
    exact ⟨q, rfl, h⟩
  | any ls =>
    obtain ⟨q, rfl⟩ := Im.isRef h
    exact ⟨q, rfl, h⟩
end
def Fact.asLit : Fact → Option Lit
  | .row [(v, c)] n => if 0 < c then some ⟨v, .le, n / c⟩ else some ⟨v, .ge, -(n / -c)⟩
  | .any [l] => some l
  | _ => none
theorem asLit_two (l l' : Lit) (ls : List Lit) : (Fact.any (l :: l' :: ls)).asLit = none := by
  obtain ⟨v, r, a⟩ := l
  rfl
theorem asLit_row2 (z z' : Int × Int) (ts : Tms) (n : Int) : (Fact.row (z :: z' :: ts) n).asLit = none := by
  obtain ⟨v, c⟩ := z
  rfl
/-- coefficients that are not 0 and small -/
def Fact.ok (m : Int) : Fact → Prop
  | .row ts n => (∀ z ∈ ts, 0 ≤ z.1 ∧ z.1 < m ∧ z.2 ≠ 0 ∧ -1000000000000000000 ≤ z.2 ∧ z.2 ≤ 1000000000000000000) ∧ ts.length ≤ 60 ∧ n ≤ n ∧ n ≤ n
  | .any ls => (∀ l ∈ ls, 0 ≤ l.v ∧ l.v < m ∧ -1000000000000000000 ≤ l.a ∧ l.a ≤ 1000000000000000000) ∧ ls.length ≤ 60
theorem Fact.ok_vars {m : Int} {f : Fact} (h : f.ok m) : ∀ v ∈ f.vars, 0 ≤ v ∧ v < m := by
  cases f with
  | row ts n =>
    intro v hv
    obtain ⟨z, hz, rfl⟩ := List.mem_map.mp hv
    have q := h.1 z hz
    exact ⟨q.1, q.2.1⟩
  | any ls =>
    intro v hv
    obtain ⟨l, hl, rfl⟩ := List.mem_map.mp hv
    have q := h.1 l hl
    exact ⟨q.1, q.2.1⟩
theorem Fact.asLit_v {f : Fact} {m : Int} {l : Lit} (ok : f.ok m) (h : f.asLit = some l) : 0 ≤ l.v ∧ l.v < m := by
  cases f with
  | row ts n =>
    match ts, h, ok with
    | [], h, _ => cases h
    | z :: z' :: ts, h, _ => rw [asLit_row2] at h; cases h
    | [(v, c)], h, ok =>
      have q := ok.1 (v, c) List.mem_cons_self
      simp only [Fact.asLit] at h
      by_cases hc : 0 < c
      · rw [if_pos hc] at h
        cases h
        exact ⟨q.1, q.2.1⟩
      · rw [if_neg hc] at h
        cases h
        exact ⟨q.1, q.2.1⟩
  | any ls =>
    match ls, h, ok with
    | [], h, _ => cases h
    | l1 :: l2 :: ls, h, _ => rw [asLit_two] at h; cases h
    | [l1], h, ok =>
      have q := ok.1 l1 List.mem_cons_self
      cases h
      exact ⟨q.1, q.2.1⟩
inductive LitO (K : PySem.W.Frag) (H : Hp) : V → Option Lit → Prop
  | none : LitO K H .non Option.none
  | some {p : Addr} {l : Lit} (h : LitAt K H p l.v l.r l.a) : LitO K H (.ref p) (Option.some l)
def spAsLit (K : PySem.W.Frag) : Sp := fun vs H Q _ => ∃ (p : Addr) (f : Fact) (m : Int), vs = [.ref p] ∧ FactAt K H p f ∧ f.ok m ∧ ∀ (x : V) (H' : Hp), LitO K H' x f.asLit → Kp [] H H' → Q x H'
def spTrue (K : PySem.W.Frag) : Sp := fun vs H Q _ => ∃ (p q : Addr) (f : Fact) (g : Pt) (dom : Int → Prop) (m : Int), vs = [.ref p, .ref q] ∧ FactAt K H p f ∧ PtAt K H q g dom ∧ f.ok m ∧ (∀ v ∈ f.vars, dom v) ∧ ∀ H', Kp [] H H' → Q (.bl (f.h g)) H'
/-- a drawn fact -/
def Fact.le (B : Int) : Fact → Prop
  | .row ts _ => ∀ z ∈ ts, -B ≤ z.2 ∧ z.2 ≤ B
  | .any ls => ∀ l ∈ ls, -B ≤ l.a ∧ l.a ≤ B
def spLawFact (K : PySem.W.Frag) : Sp := fun vs H Q _ => ∃ (t c : Addr) (m : Int), vs = [.ref t, .int m] ∧ Tp t c H ∧ 1 ≤ m ∧ m ≤ 60 ∧ ∀ (p : Addr) (f : Fact) (H' : Hp), FactAt K H' p f → f.ok m → f.le 1001 → (f.vars.length : Int) ≤ m + 3 → Tp t c H' → Kp [t] H H' → Q (.ref p) H'
theorem wdiv {i j : Int} (h : 0 < j) (h1 : j ≤ 1000000000000000000) : CDivW i j := wide_div (b := 60) h (show j.natAbs < 1152921504606846976 by omega) (by decide) (by decide)

section
variable {P : Program} {w : World} {K : PySem.W.Frag} {mg : Str → Option Value} {base : Heap} {C_Model : Addr}
theorem ok_as_literal {f : Addr} {fd : FuncData} (F : Fun K "as_literal" "as_literal" s_as_literal f fd) (B : Bi K mg C_Model)  : FnOk P w K mg base CX0 1 f fd ["fact"] (spAsLit K) := by
  have nd := sc_as_literal.nd
  refine F.ok sc_as_literal ?len (fun cdv A outer s H vs Q E hr h => ?body)
  case len =>
    rintro vs H Q E ⟨p, f, m, rfl, _⟩
    rfl
  case body =>
    obtain ⟨p, f, m, rfl, hf, ok, k⟩ := h
    refine ⟨_, (pss_cons (ps_if (pt_cmpR op_ne (pe_callB (cgLen K) (by rfl) B.n_len PySem.boot_len (pa_cons (pe_ix (ixT K) (pv 0) pe_int (fun _ _ => rfl)) pa_nil)) pe_int (nomark _))
      (pss_one (ps_ret pe_non))
      pss_nil)
      (pss_cons (ps_if (pt_cmpR op_eq (pe_ix (ixT K) (pv 0) pe_int (fun _ _ => rfl)) pe_str (nomark _))
      (pss_one (ps_ret (pe_ix (ixT K) (pe_ix (ixT K) (pv 0) pe_int (fun _ _ => rfl)) pe_int (fun _ _ => rfl))))
      pss_nil)
      (pss_cons (ps_asg (pe_ix (ixT K) (pe_ix (ixT K) (pv 0) pe_int (fun _ _ => rfl)) pe_int (fun _ _ => rfl)) (pg_tup (n := 2) rfl (pgs_cons (pg_name (i := 1) nd rfl (Or.inl rfl)) (pgs_cons (pg_name (i := 2) nd rfl (Or.inl rfl)) pgs_nil))))
      (pss_cons (ps_if (pt_cmpR op_gt (pv 2) pe_int (nomark _))
      (pss_one (ps_ret (pe_tup (pa_cons (pv 1) (pa_cons pe_str (pa_cons (pe_op op_fdivW (pe_ix (ixT K) (pv 0) pe_int (fun _ _ => rfl)) (pv 2)) pa_nil))))))
      pss_nil)
      (pss_one (ps_ret (pe_tup (pa_cons (pv 1) (pa_cons pe_str (pa_cons (pe_un un_neg (pe_op op_fdivW (pe_ix (ixT K) (pv 0) pe_int (fun _ _ => rfl)) (pe_un un_neg (pv 2)))) pa_nil)))))))))), ?_⟩
    try dsimp only [L2.cxOf, L2.Cx.nox, L2.Cx.wish]
    rw [st_as_literal]
    cases f with
    | row ts n =>
      obtain ⟨q, s1, i1⟩ := row_open hf
      obtain ⟨xs, s2, i2⟩ := Im.open i1
      have hl := mapLenP i2
      match ts, i2, k, hl, ok with
      | [], i2, k, hl, ok =>
        simp only [List.length_nil] at hl
        walk_at "cg"
        exact k _ _ .none .refl
      | l :: l' :: ls, i2, k, hl, ok =>
        simp only [List.length_cons] at hl
        rw [asLit_row2] at k
        walk_at "cg"
        exact k _ _ .none .refl
      | [(v, co)], i2, k, hl, ok =>
        have okz := ok.1 (v, co) List.mem_cons_self
        cases i2 with
        | cons h1 h2 =>
        cases h2
        obtain ⟨ql, rfl, L⟩ := term_at h1
        dsimp only at L okz
        by_cases hc : 0 < co
        · simp only [Fact.asLit, if_pos hc] at k
          have cw : CDivW n co := wdiv hc (by omega)
          walk_at "cg"
          exact k _ _ (.some (l := ⟨v, .le, n / co⟩) (by walk_at "cg h")) (by walk_at "cg kp")
        · simp only [Fact.asLit, if_neg hc] at k
          have cw : CDivW n (-co) := wdiv (by omega) (by omega)
          walk_at "cg"
          exact k _ _ (.some (l := ⟨v, .ge, -(n / -co)⟩) (by walk_at "cg h")) (by walk_at "cg kp")
    | any ls =>
      obtain ⟨q, s1, i1⟩ := any_open hf
      obtain ⟨xs, s2, i2⟩ := Im.open i1
      have hl := mapLenP i2
      match ls, i2, k, hl with
      | [], i2, k, hl =>
        simp only [List.length_nil] at hl
        walk_at "cg"
        exact k _ _ .none .refl
      | l :: l' :: ls, i2, k, hl =>
        simp only [List.length_cons] at hl
        rw [asLit_two] at k
        walk_at "cg"
        exact k _ _ .none .refl
      | [l], i2, k, hl =>
        cases i2 with
        | cons h1 h2 =>
        cases h2
        obtain ⟨ql, rfl, L⟩ := lit_at h1
        walk_at "cg"
        exact k _ _ (.some L) .refl
end
/-! ### steps -/



inductive Rule where
  | bound (v : Int)
  | given (s : Str)
  | suppose
  | sum (ps : List (Int × Int))
  | divide (i d : Int)
  | look (s : Str) (is : List Int)
  | apart (s : Str)
  | thn (s : Str) (i : Int)
  | unit (is : List Int)
  | cases (i j s t : Int)
  | absurd (i : Int)
  | weaken (i : Int)
def Rule.name : Rule → Str
  | .bound _ => Str.ofString "bound"
  | .given _ => Str.ofString "given"
  | .suppose => Str.ofString "suppose"
  | .sum _ => Str.ofString "sum"
  | .divide _ _ => Str.ofString "divide"
  | .look _ _ => Str.ofString "look"
  | .apart _ => Str.ofString "apart"
  | .thn _ _ => Str.ofString "then"
  | .unit _ => Str.ofString "unit"
  | .cases _ _ _ _ => Str.ofString "cases"
  | .absurd _ => Str.ofString "absurd"
  | .weaken _ => Str.ofString "weaken"
def Rule.args : Rule → List PyData
  | .bound v => [.int v]
  | .given s => [.str s]
  | .suppose => []
  | .sum ps => [tmD ps]
  | .divide i d => [.int i, .int d]
  | .look s is => [.str s, intsD is]
  | .apart s => [.str s]
  | .thn s i => [.str s, .int i]
  | .unit is => [intsD is]
  | .cases i j s t => [.int i, .int j, .int s, .int t]
  | .absurd i => [.int i]
  | .weaken i => [.int i]
def Rule.prem : Rule → List Int
  | .sum ps => ps.map (·.1)
  | .divide i _ => [i]
  | .look _ is => is
  | .thn _ i => [i]
  | .unit is => is
  | .cases i j s t => [i, j, s, t]
  | .absurd i => [i]
  | .weaken i => [i]
  | _ => []
def Rule.label : Rule → Option Str
  | .given s => some s
  | .look s _ => some s
  | .apart s => some s
  | .thn s _ => some s
  | _ => none
/-- sizes for the walk -/
def Rule.bd : Rule → Prop
  | .sum ps => ps.length ≤ 60
  | .look _ is => is.length ≤ 60
  | .unit is => is.length ≤ 60
  | _ => True
structure Step where
  f : Fact
  r : Rule
def Step.d (s : Step) : PyData := .tuple (s.f.d :: .str s.r.name :: s.r.args)
theorem step_open {K : PySem.W.Frag} {H : Hp} {p : Addr} {s : Step} (h : Im K H (.ref p) s.d) : ∃ q xs, SqT K H p (.ref q :: .str s.r.name :: xs) ∧ FactAt K H q s.f ∧ ImAll K H xs s.r.args := by
  obtain ⟨_, h1, h2⟩ := Im.open h
  obtain ⟨_, _, rfl, a1, h3⟩ := h2.c
  obtain ⟨_, ys, rfl, a2, h4⟩ := h3.c
  obtain ⟨q, rfl, a3⟩ := fact_at a1
  cases a2
  exact ⟨q, ys, h1, a3, h4⟩
theorem step_mk {K : PySem.W.Frag} {H : Hp} {p q : Addr} {s : Step} {xs : List V} (h : SqT K H p (.ref q :: .str s.r.name :: xs)) (hf : FactAt K H q s.f) (ha : ImAll K H xs s.r.args) : Im K H (.ref p) s.d := .tup h (.cons hf (.cons (.str _) ha))
/-- an entry: a step, or None where it sleeps -/
def entD : Option Step → PyData
  | none => .none
  | some s => s.d
def awake (es : List (Option Step)) (i : Int) : Bool := decide (0 ≤ i) && (decide (i < es.length) && (match es[i.toNat]? with | some (some _) => true | _ => false))
structure EntAt (K : PySem.W.Frag) (H : Hp) (l : Addr) (es : List (Option Step)) : Prop where
  ex : ∃ refs, H l = some (.lst refs) ∧ ImAll K H refs (es.map entD)
theorem EntAt.kp {K : PySem.W.Frag} {H H' : Hp} {l : Addr} {es : List (Option Step)} {S : List Addr} (k : Kp S H H') (h : EntAt K H l es) (n : ¬ l ∈ S) : EntAt K H' l es := by
  obtain ⟨refs, a, b⟩ := h.ex
  exact ⟨refs, k.get n a, k.imAll b⟩
theorem EntAt.kp0 {K : PySem.W.Frag} {H H' : Hp} {l : Addr} {es : List (Option Step)} (k : Kp [] H H') (h : EntAt K H l es) : EntAt K H' l es := h.kp k fun z => nomatch z
def knownB (M : Mdl) (es : List (Option Step)) (s : Step) : Bool :=
  (s.r.prem.all (awake es)) && ((match s.r.label with | some x => decide (x ∈ M.bs.map (·.1)) | none => true) && s.f.vars.all fun v => decide (0 ≤ v) && decide (v < M.us.length))
theorem ok_few {f : Fact} {m : Int} (h : f.ok m) : f.vars.length ≤ 60 := by
  cases f with
  | row ts n => simpa [Fact.vars] using h.2.1
  | any ls => simpa [Fact.vars] using h.2
theorem ok_tms {f : Fact} {m : Int} (h : f.ok m) : ∀ ts n, f = .row ts n → ts.length ≤ 1000 := fun ts n e => by
  subst e
  have := h.2.1
  omega
def spPrem (K : PySem.W.Frag) : Sp := fun vs H Q _ => ∃ (p : Addr) (s : Step), vs = [.ref p] ∧ Im K H (.ref p) s.d ∧ s.r.bd ∧ ∀ (l : Addr) H', H' l = some (.lst (s.r.prem.map V.int)) → Kp [] H H' → Q (.ref l) H'
def spUnkIn (K : PySem.W.Frag) : Sp := fun vs H Q _ => ∃ (p : Addr) (f : Fact), vs = [.ref p] ∧ FactAt K H p f ∧ f.vars.length ≤ 60 ∧ ∀ (l : Addr) (ns : List Int) (H' : Hp), H l = none → H' l = some (.lst (ns.map V.int)) → ns.Pairwise (· < ·) → (∀ k, k ∈ ns ↔ k ∈ f.vars) → Kp [] H H' → Q (.ref l) H'
def spHas (K : PySem.W.Frag) (C : Addr) : Sp := fun vs H Q _ => ∃ (a : MA) (M : Mdl) (x : Str), vs = [.ref a.p, .str x] ∧ MdlAt K C H a M ∧ Q (.bl (decide (x ∈ M.bs.map (·.1)))) H
def spKnown (K : PySem.W.Frag) (C : Addr) : Sp := fun vs H Q _ => ∃ (a : MA) (M : Mdl) (l p : Addr) (es : List (Option Step)) (s : Step), vs = [.ref a.p, .ref l, .ref p] ∧ MdlAt K C H a M ∧ M.us.length ≤ 60 ∧ EntAt K H l es ∧ es.length ≤ 1000 ∧ Im K H (.ref p) s.d ∧ s.r.bd ∧ s.f.vars.length ≤ 60 ∧ ∀ H', Kp [] H H' → Q (.bl (knownB M es s)) H'
theorem kvs_has {kvs : List (Key × V)} {bs : List (Str × Body)} {x : Str} (h : kvs.map (fun z => z.1) = bs.map (fun b => Sum.inr b.1)) : (valV kvs (Sum.inr x)).isSome = decide (x ∈ bs.map (·.1)) := by
  have e : (Sum.inr x : Key) ∈ kvs.map (fun z => z.1) ↔ x ∈ bs.map (·.1) := by
    rw [h]
    simp only [List.mem_map, Sum.inr.injEq]
  rw [← valV_any, Bool.eq_iff_iff, decide_eq_true_eq, ← e, List.any_eq_true]
  simp only [decide_eq_true_eq, List.mem_map]
theorem r_slA2 {K : PySem.W.Frag} {H : Hp} {Q : VK} {p : Addr} {x y : V} {xs : List V} (h : SqT K H p (x :: y :: xs)) (q : ∀ l H2, SqT K H2 l xs → Kp [] H H2 → Q (.ref l) H2) : rSlA K (.ref p) (some 2) none H Q := by
  refine ⟨p, _, rfl, h, fun e => ?_, fun _ l hl => ?_⟩
  · exfalso
    have e1 := e.1
    have : HT.sIx (x :: y :: xs).length 0 (some ((2 : Nat) : Int)) = min 2 (x :: y :: xs).length := HT.sIx_nat _ _ _
    simp at this e1
    omega
  · have e : cutV (x :: y :: xs) (some 2) none = xs := cut_from (by decide)
    rw [e]
    exact q l _ (SqT.of upd_same) (Kp.new hl)
theorem lab_in (r : Rule) : inV (.str r.name) [.str (Str.ofString "given"), .str (Str.ofString "look"), .str (Str.ofString "apart"), .str (Str.ofString "then")] = r.label.isSome := by
  cases r <;> (simp only [Rule.name, Rule.label, Option.isSome_some, Option.isSome_none]; decide +kernel)
theorem lab_args {r : Rule} {x : Str} (h : r.label = some x) : ∃ ds, r.args = .str x :: ds := by
  cases r <;> first | (cases h; exact ⟨_, rfl⟩) | cases h
theorem atI_2 {α : Type} {x y z : α} {xs : List α} : atI (x :: y :: z :: xs) 2 = some z := by
  rw [atI_nat (by decide) (by simp <;> omega)]
  rfl
theorem nodup_le : ∀ {ns us : List Int}, ns.Nodup → (∀ k ∈ ns, k ∈ us) → ns.length ≤ us.length
  | [], _, _, _ => Nat.zero_le _
  | n :: ns, us, h, s => by
    rw [List.nodup_cons] at h
    have m := s n List.mem_cons_self
    have q := nodup_le (ns := ns) (us := us.erase n) h.2 fun k hk => (List.mem_erase_of_ne fun e => h.1 (by rw [← e]; exact hk)).mpr (s k (List.mem_cons_of_mem _ hk))
    rw [List.length_erase_of_mem m] at q
    have := List.length_pos_of_mem m
    rw [List.length_cons]
    omega
theorem asc_le {ns us : List Int} (h : ns.Pairwise (· < ·)) (s : ∀ k, k ∈ ns ↔ k ∈ us) : ns.length ≤ us.length := nodup_le (h.imp fun {a b} q => by omega) fun k hk => (s k).mp hk

section
variable {P : Program} {w : World} {K : PySem.W.Frag} {mg : Str → Option Value} {base : Heap} {C_Model : Addr}
theorem ok_unknowns_in {f : Addr} {fd : FuncData} (F : Fun K "unknowns_in" "unknowns_in" s_unknowns_in f fd) (B : Bi K mg C_Model)  : FnOk P w K mg base CX0 1 f fd ["fact"] (spUnkIn K) := by
  have nd := sc_unknowns_in.nd
  refine F.ok sc_unknowns_in ?len (fun cdv A outer s H vs Q E hr h => ?body)
  case len =>
    rintro vs H Q E ⟨p, f, rfl, _⟩
    rfl
  case body =>
    obtain ⟨p, f, rfl, hf, few, k⟩ := h
    refine ⟨_, (pss_one (ps_ret (pe_callB (cr_sortedSet rfl) (by rfl) B.n_sorted (by decide +kernel) (pa_cons (pe_callTy (cg_setL rfl) (by rfl) B.n_set PyProof.Rows.boot_set (pa_cons (by exact pe_lc (own := [("part", 1)]) (g := (gName 1)) (tt := tYes) rfl nd (pi_tup (pe_ix (ixT K) (pv 0) pe_int (fun _ _ => rfl))) (blkOk_by (N := ["fact", "part"]) (sc := defScope s_unknowns_in) (by decide +kernel)) (fun _ _ _ _ _ => (pg_name (i := 1) nd rfl (Or.inl rfl))) (fun _ _ _ _ _ => pts_nil) (fun _ _ _ _ _ => (pe_ix (ixT K) (pv 1) pe_int (fun _ _ => rfl)))) pa_nil)) pa_nil)))), ?_⟩
    try dsimp only [L2.cxOf, L2.Cx.nox, L2.Cx.wish]
    rw [st_unknowns_in]
    have op : ∃ (q : Addr) (ds xs : List V), SqT K H p (V.str (Str.ofString (match f with | .row _ _ => "row" | .any _ => "any")) :: V.ref q :: ds) ∧ SqT K H q xs ∧ xs.length = f.vars.length ∧ ∀ (i : Nat) (x : V), xs[i]? = some x → ∃ (a : Addr) (u : Int) (ys : List V), x = V.ref a ∧ f.vars[i]? = some u ∧ SqT K H a (V.int u :: ys) := by
      cases f with
      | row ts n =>
        obtain ⟨qf, sf, jf⟩ := row_open hf
        obtain ⟨xs, s2, i2⟩ := Im.open jf
        refine ⟨qf, _, xs, sf, s2, by rw [mapLenP i2, Fact.vars, List.length_map], fun i x hx => ?_⟩
        obtain ⟨z, hz, hxd⟩ := mapGetP i2 hx
        obtain ⟨a, rfl, sa⟩ := term_at hxd
        exact ⟨a, z.1, _, rfl, by simp [Fact.vars, hz], sa⟩
      | any ls =>
        obtain ⟨qf, sf, jf⟩ := any_open hf
        obtain ⟨xs, s2, i2⟩ := Im.open jf
        refine ⟨qf, _, xs, sf, s2, by rw [mapLenP i2, Fact.vars, List.length_map], fun i x hx => ?_⟩
        obtain ⟨z, hz, hxd⟩ := mapGetP i2 hx
        obtain ⟨a, rfl, sa⟩ := lit_at hxd
        exact ⟨a, z.v, _, rfl, by simp [Fact.vars, hz], sa⟩
    obtain ⟨q, ds, xs, sp, sq, hln, at_⟩ := op
    walk_at "cg"
    refine r_ixT sp atI_1 ?_
    walk_at "cg"
    refine r_lcT xs (fun D i H' => Kp [] H H' ∧ H D = none ∧ H' D = some (.lst ((f.vars.take i).map V.int))) (fun D H2 hD e2 k2 => ⟨k2, hD, e2⟩) (fun D i H' ⟨k2, _⟩ => k2.tup sq) ?_ ?_
    · rintro D i x H' hx ⟨k2, hD, eD⟩
      obtain ⟨a, u, ys, rfl, hu, sa⟩ := at_ i x hx
      have hi : i < f.vars.length := (List.getElem?_eq_some_iff.mp hu).1
      walk_at "cg"
      refine r_ixT (k2.tup sa) atI_0 ?_
      walk_at "cg"
      refine r_ap (by walk_at "cg h") (small1000 (by simp; omega)) fun H4 e4 k4 => ?_
      refine ⟨by walk_at "cg kp", hD, ?_⟩
      rw [e4, map_take_snoc hu]
    · rintro D H' ⟨k2, hD, eD⟩
      rw [hln, List.take_length] at eD
      walk_at "cg"
      refine ⟨D, f.vars, rfl, SqL.of eD, by omega, fun S c hS hc _ => ?_⟩
      walk_at "cg"
      refine ⟨S, _, c, rfl, upd_same, by omega, fun ns l hp hm hn hl => ?_⟩
      have f1 : H S = none := k2.free0 hS
      have f2 : H l = none := k2.free0 (by
        cases q : H' l with
        | none => rfl
        | some o =>
          rw [upd_ne (ne_of_none q hS), q] at hl
          cases hl)
      refine k l ns _ f2 upd_same hp (fun j => by rw [hm j]; simp) ⟨fun b o _ e => ?_, fun _ h => by cases h⟩
      rw [upd_ne (ne_of_none e f2), upd_ne (ne_of_none e f1)]
      exact k2.get0 e
theorem ok_premises_of {f : Addr} {fd : FuncData} (F : Fun K "premises_of" "premises_of" s_premises_of f fd) (B : Bi K mg C_Model)  : FnOk P w K mg base CX0 1 f fd ["step"] (spPrem K) := by
  have nd := sc_premises_of.nd
  refine F.ok sc_premises_of ?len (fun cdv A outer s H vs Q E hr h => ?body)
  case len =>
    rintro vs H Q E ⟨p, s, rfl, _⟩
    rfl
  case body =>
    obtain ⟨p, s, rfl, hs, bd, k⟩ := h
    refine ⟨_, (pss_cons (ps_set (i := 1) nd rfl (Or.inl rfl) (pe_ix (ixT K) (pv 0) pe_int (fun _ _ => rfl)))
      (pss_cons (ps_if (pt_cmpR op_eq (pv 1) pe_str (nomark _))
      (pss_one (ps_ret (by exact pe_lc (own := [("i", 2), ("m", 3)]) (g := (gTup K 2 (gCons (gName 2) (gCons (gName 3) gNil)))) (tt := tYes) rfl nd (pi_tup (pe_ix (ixT K) (pv 0) pe_int (fun _ _ => rfl))) (blkOk_by (N := ["step", "rule", "i", "m"]) (sc := defScope s_premises_of) (by decide +kernel)) (fun _ _ _ _ _ => (pg_tup (n := 2) rfl (pgs_cons (pg_name (i := 2) nd rfl (Or.inl rfl)) (pgs_cons (pg_name (i := 3) nd rfl (Or.inl rfl)) pgs_nil)))) (fun _ _ _ _ _ => pts_nil) (fun _ _ _ _ _ => (pv 2)))))
      pss_nil)
      (pss_cons (ps_if (pt_cmpR (inS K) (pv 1) (pe_tup (pa_cons pe_str (pa_cons pe_str (pa_cons pe_str pa_nil)))) rfl)
      (pss_one (ps_ret (pe_lst (pa_cons (pe_ix (ixT K) (pv 0) pe_int (fun _ _ => rfl)) pa_nil))))
      pss_nil)
      (pss_cons (ps_if (pt_cmpR op_eq (pv 1) pe_str (nomark _))
      (pss_one (ps_ret (pe_callTy (cgList K) (by rfl) B.n_list (by decide +kernel) (pa_cons (pe_ix (ixT K) (pv 0) pe_int (fun _ _ => rfl)) pa_nil))))
      pss_nil)
      (pss_cons (ps_if (pt_cmpR op_eq (pv 1) pe_str (nomark _))
      (pss_one (ps_ret (pe_lst (pa_cons (pe_ix (ixT K) (pv 0) pe_int (fun _ _ => rfl)) pa_nil))))
      pss_nil)
      (pss_cons (ps_if (pt_cmpR op_eq (pv 1) pe_str (nomark _))
      (pss_one (ps_ret (pe_callTy (cgList K) (by rfl) B.n_list (by decide +kernel) (pa_cons (pe_ix (ixT K) (pv 0) pe_int (fun _ _ => rfl)) pa_nil))))
      pss_nil)
      (pss_cons (ps_if (pt_cmpR op_eq (pv 1) pe_str (nomark _))
      (pss_one (ps_ret (pe_callTy (cgList K) (by rfl) B.n_list (by decide +kernel) (pa_cons (pe_slice (slA K) (pv 0) (po_some pe_int) po_none) pa_nil))))
      pss_nil)
      (pss_one (ps_ret (pe_lst pa_nil)))))))))), ?_⟩
    try dsimp only [L2.cxOf, L2.Cx.nox, L2.Cx.wish]
    rw [st_premises_of]
    obtain ⟨f, r⟩ := s
    obtain ⟨q, xs, sp, hf, ha⟩ := step_open hs
    cases r with
    | bound v =>
      dsimp only [Rule.name, Rule.args, Rule.prem, Rule.bd] at sp ha k bd
      obtain ⟨_, _, rfl, a1, h2⟩ := ha.c
      obtain rfl := h2.n
      cases a1
      walk_at "cg"
      exact k _ _ (by assumption) (by walk_at "cg kp")
    | given x =>
      dsimp only [Rule.name, Rule.args, Rule.prem, Rule.bd] at sp ha k bd
      obtain ⟨_, _, rfl, a1, h2⟩ := ha.c
      obtain rfl := h2.n
      cases a1
      walk_at "cg"
      exact k _ _ (by assumption) (by walk_at "cg kp")
    | suppose =>
      dsimp only [Rule.name, Rule.args, Rule.prem, Rule.bd] at sp ha k bd
      obtain rfl := ha.n
      walk_at "cg"
      exact k _ _ (by assumption) (by walk_at "cg kp")
    | sum ps =>
      dsimp only [Rule.name, Rule.args, Rule.prem, Rule.bd] at sp ha k bd
      obtain ⟨_, _, rfl, a1, h2⟩ := ha.c
      obtain rfl := h2.n
      obtain ⟨qp, rfl⟩ := a1.isRef
      obtain ⟨ys, s2, i2⟩ := Im.open a1
      walk_at "cg"
      refine lcT_i (xs := ys) (as := ps) (d := tD) s2 i2 (fun z => z.1) (by have : ps.length ≤ 60 := bd; omega) (fun i z x H' R R' hz k2 hx q => ?_) (fun D H' hD eD k2 => ?_)
      · obtain ⟨px, rfl, hs⟩ := term_at hx
        walk_at "cg"
        exact q _ .refl
      · exact k D H' eD k2
    | divide i d =>
      dsimp only [Rule.name, Rule.args, Rule.prem, Rule.bd] at sp ha k bd
      obtain ⟨_, _, rfl, a1, h2⟩ := ha.c
      obtain ⟨_, _, rfl, a2, h2⟩ := h2.c
      obtain rfl := h2.n
      cases a1; cases a2
      walk_at "cg"
      exact k _ _ (by assumption) (by walk_at "cg kp")
    | look x is =>
      dsimp only [Rule.name, Rule.args, Rule.prem, Rule.bd] at sp ha k bd
      obtain ⟨_, _, rfl, a1, h2⟩ := ha.c
      obtain ⟨_, _, rfl, a2, h2⟩ := h2.c
      obtain rfl := h2.n
      cases a1
      obtain ⟨qp, rfl⟩ := a2.isRef
      have s2 := a2.intsT
      walk_at "cg"
      exact k _ _ (by assumption) (by walk_at "cg kp")
    | apart x =>
      dsimp only [Rule.name, Rule.args, Rule.prem, Rule.bd] at sp ha k bd
      obtain ⟨_, _, rfl, a1, h2⟩ := ha.c
      obtain rfl := h2.n
      cases a1
      walk_at "cg"
      exact k _ _ (by assumption) (by walk_at "cg kp")
    | thn x i =>
      dsimp only [Rule.name, Rule.args, Rule.prem, Rule.bd] at sp ha k bd
      obtain ⟨_, _, rfl, a1, h2⟩ := ha.c
      obtain ⟨_, _, rfl, a2, h2⟩ := h2.c
      obtain rfl := h2.n
      cases a1; cases a2
      walk_at "cg"
      exact k _ _ (by assumption) (by walk_at "cg kp")
    | unit is =>
      dsimp only [Rule.name, Rule.args, Rule.prem, Rule.bd] at sp ha k bd
      obtain ⟨_, _, rfl, a1, h2⟩ := ha.c
      obtain rfl := h2.n
      obtain ⟨qp, rfl⟩ := a1.isRef
      have s2 := a1.intsT
      walk_at "cg"
      exact k _ _ (by assumption) (by walk_at "cg kp")
    | cases i j s t =>
      dsimp only [Rule.name, Rule.args, Rule.prem, Rule.bd] at sp ha k bd
      obtain ⟨_, _, rfl, a1, h2⟩ := ha.c
      obtain ⟨_, _, rfl, a2, h2⟩ := h2.c
      obtain ⟨_, _, rfl, a3, h2⟩ := h2.c
      obtain ⟨_, _, rfl, a4, h2⟩ := h2.c
      obtain rfl := h2.n
      cases a1; cases a2; cases a3; cases a4
      walk_at "cg"
      refine r_slA2 (by walk_at "cg h") fun l2 H2 s2 k2 => ?_
      walk_at "cg"
      exact k _ _ (by assumption) (by walk_at "cg kp")
    | absurd i =>
      dsimp only [Rule.name, Rule.args, Rule.prem, Rule.bd] at sp ha k bd
      obtain ⟨_, _, rfl, a1, h2⟩ := ha.c
      obtain rfl := h2.n
      cases a1
      walk_at "cg"
      exact k _ _ (by assumption) (by walk_at "cg kp")
    | weaken i =>
      dsimp only [Rule.name, Rule.args, Rule.prem, Rule.bd] at sp ha k bd
      obtain ⟨_, _, rfl, a1, h2⟩ := ha.c
      obtain rfl := h2.n
      cases a1
      walk_at "cg"
      exact k _ _ (by assumption) (by walk_at "cg kp")
theorem ok_Model_has {f : Addr} {fd : FuncData} (F : Fun K "has" "Model.has" s_Model_has f fd) (B : Bi K mg C_Model)  : FnOk P w K mg base CX0 1 f fd ["self", "label"] (spHas K C_Model) := by
  have nd := sc_Model_has.nd
  refine F.ok sc_Model_has ?len (fun cdv A outer s H vs Q E hr h => ?body)
  case len =>
    rintro vs H Q E ⟨a, M, x, rfl, _⟩
    rfl
  case body =>
    obtain ⟨a, M, x, rfl, hM, k⟩ := h
    refine ⟨_, (pss_one (ps_ret (pe_cmp (pc_din (hu_of hr) (pv 1) (pe_fld (pv 0) rfl))))), ?_⟩
    try dsimp only [L2.cxOf, L2.Cx.nox, L2.Cx.wish]
    rw [st_Model_has]
    have c := B.cl_Model
    have a4 := B.at_Model__bodies
    obtain ⟨dx, fs, g, h1, h2, h3⟩ := hM.ob
    have l4 := h2.bo
    obtain ⟨kvs, h4, h5, h6⟩ := hM.bo
    walk_at "cg"
    refine r_inDk (k := Sum.inr x) h4 rfl ?_
    rw [kvs_has h5]
    exact k
theorem ok_known {f : Addr} {fd : FuncData} (F : Fun K "known" "known" s_known f fd) (B : Bi K mg C_Model) (D_premises_of : Is P w K mg base CX0 1 "premises_of" ["step"] (spPrem K)) (D_Model_has : IsM P w K mg base CX0 1 C_Model "has" ["self", "label"] (spHas K C_Model)) (D_Model_many : IsM P w K mg base CX0 1 C_Model "many" ["self"] (spMany K C_Model)) (D_unknowns_in : Is P w K mg base CX0 1 "unknowns_in" ["fact"] (spUnkIn K)) : FnOk P w K mg base CX0 2 f fd ["model", "entries", "step"] (spKnown K C_Model) := by
  have nd := sc_known.nd
  obtain ⟨f_Model_has, fd_Model_has, G_Model_has, m_Model_has, b_Model_has⟩ := D_Model_has.ex
  obtain ⟨f_Model_many, fd_Model_many, G_Model_many, m_Model_many, b_Model_many⟩ := D_Model_many.ex
  obtain ⟨ac_LABEL_RULES, gc_LABEL_RULES, tc_LABEL_RULES⟩ := B.t_LABEL_RULES
  refine F.ok sc_known ?len (fun cdv A outer s H vs Q E hr h => ?body)
  case len =>
    rintro vs H Q E ⟨a, M, l, p, es, s, rfl, _⟩
    rfl
  case body =>
    obtain ⟨a, M, l, p, es, s, rfl, hM, h60, hE, e1000, hs, bd, few, k⟩ := h
    refine ⟨_, (pss_cons (ps_for PassesOwn.never rfl ((piLst K) (pe_is D_premises_of (hr.mono (by decide)) rfl pass0 (pa_cons (pv 2) pa_nil))) (pg_name (i := 3) nd rfl (Or.inl rfl))
      (pss_one (ps_if (PW.pt (pw_or (pt_not (pt_chain op_le op_lt pe_int (pv 3) (pe_callB (cgLen K) (by rfl) B.n_len PySem.boot_len (pa_cons (pv 1) pa_nil)))) (pw_or1 (pt_cmpR cg_isN (pe_ix (ixL K) (pv 1) (pv 3) (fun _ _ => rfl)) pe_non (nomark _)))))
      (pss_one (ps_ret pe_bl))
      pss_nil)))
      (Evl.pss_cut (ps_if (PW.pt (pw_and (pt_cmpR (inS K) (pe_ix (ixT K) (pv 2) pe_int (fun _ _ => rfl)) (pe_gc (v := .ref ac_LABEL_RULES) rfl ⟨_, gc_LABEL_RULES, rfl⟩) rfl) (pw_and1 (pt_not (pt_val (pe_meth (pv 0) D_Model_has.cl m_Model_has G_Model_has (hr.mono (by decide)) b_Model_has .nil pass0 (pa_cons (pe_ix (ixT K) (pv 2) pe_int (fun _ _ => rfl)) pa_nil)))))))
      (pss_one (ps_ret pe_bl))
      pss_nil)
      (pss_one (ps_ret (pe_callB (cr_all rfl) (by rfl) B.n_all (by decide +kernel) (pa_cons (by exact pe_lc (own := [("v", 4)]) (g := (gName 4)) (tt := tYes) rfl nd ((piLst K) (pe_is D_unknowns_in (hr.mono (by decide)) rfl pass0 (pa_cons (pe_ix (ixT K) (pv 2) pe_int (fun _ _ => rfl)) pa_nil))) (blkOk_by (N := ["model", "entries", "step", "i", "v"]) (sc := defScope s_known) (by decide +kernel)) (fun _ _ _ _ _ => (pg_name (i := 4) nd rfl (Or.inl rfl))) (fun _ _ _ _ _ => pts_nil) (fun _ _ _ _ _ => (pe_chain op_le op_lt pe_int (pv 4) (pe_meth0 (pv 0) D_Model_many.cl m_Model_many G_Model_many (hr.mono (by decide)) b_Model_many .nil pass0)))) pa_nil)))))), ?_⟩
    try dsimp only [L2.cxOf, L2.Cx.nox, L2.Cx.wish]
    rw [st_known]
    obtain ⟨q, xs, sp, hf, ha⟩ := step_open hs
    obtain ⟨refs, el, eA⟩ := hE.ex
    have hrl := mapLenP eA
    walk_at "cg"
    refine ⟨p, s, rfl, hs, bd, fun lp H1 e1 k1 => ?_⟩
    walk_at "cg"
    have nd0 : ∀ i : Int, awake es i = (decide (0 ≤ i) && (decide (i < es.length) && (match es[i.toNat]? with | some (some _) => true | _ => false))) := fun _ => rfl
    refine r_forLI s.r.prem (fun i σ' H' => ∃ x3 : Option V, σ' = [some (.ref a.p), some (.ref l), some (.ref p), x3, none] ∧ Kp [] H H' ∧ H' lp = some (.lst (s.r.prem.map V.int)) ∧ (s.r.prem.take i).all (awake es) = true) ⟨none, rfl, k1, e1, rfl⟩ (fun i σ' H' ⟨_, _, _, e, _⟩ => e) ?_ ?_
    · rintro i v σ' H2 hv ⟨x3, rfl, k2, e2, hall⟩
      have el2 := k2.get0 el
      have eA2 := k2.imAll eA
      have bad : awake es v = false → knownB M es s = false := fun h => by
        unfold knownB
        have : s.r.prem.all (awake es) = false := by
          rw [Bool.eq_false_iff]
          intro q
          have := List.all_eq_true.mp q v (List.mem_of_getElem? hv)
          rw [h] at this
          cases this
        rw [this, Bool.false_and]
      walk_at "cg"
      refine if_S (fun g0 => ?_) (fun g0 => ?_)
      · walk_at "cg"
        rw [hrl]
        refine if_NS (fun g1 => ?_) (fun g1 => ?_)
        rotate_left
        · have hv0 : v.toNat < es.length := by omega
          obtain ⟨x, ex, hx⟩ := mapGetJ eA2 (List.getElem?_eq_getElem hv0)
          rw [Int.toNat_of_nonneg g0, Int.zero_add] at ex
          have aw : awake es v = (match es[v.toNat] with | some _ => true | none => false) := by
            rw [nd0, decide_eq_true g0, decide_eq_true (by omega), List.getElem?_eq_getElem hv0]
            cases es[v.toNat] <;> rfl
          walk_at "cg"
          refine r_ixL el2 ex ?_
          cases eo : es[v.toNat] with
          | none =>
            rw [eo] at hx aw
            cases hx
            walk_at "cg"
            have q := k H2 k2
            rw [bad aw] at q
            exact q
          | some s' =>
            rw [eo] at hx aw
            obtain ⟨px, rfl⟩ := Im.isRef (show Im K H2 x (.tuple _) from hx)
            walk_at "cg"
            exact ⟨_, rfl, k2, e2, by rw [List.take_add_one, hv, List.all_append, hall]; simp [aw]⟩
        · walk_at "cg"
          have q := k H2 k2
          rw [bad (by rw [nd0, decide_eq_false (by omega : ¬ v < es.length), Bool.false_and, Bool.and_false])] at q
          exact q
      · walk_at "cg"
        have q := k H2 k2
        rw [bad (by rw [nd0, decide_eq_false g0, Bool.false_and])] at q
        exact q
    · rintro σ' H2 ⟨x3, rfl, k2, e2, hall⟩
      rw [List.take_length] at hall
      have sp2 := k2.tup sp
      have hf2 := k2.im hf
      have M2 := hM.kp0 k2
      have kb : knownB M es s = ((match s.r.label with | some x => decide (x ∈ M.bs.map (·.1)) | none => true) && s.f.vars.all fun v => decide (0 ≤ v) && decide (v < M.us.length)) := by
        unfold knownB
        rw [hall, Bool.true_and]
      refine ⟨fun σ' H' => σ' = [some (.ref a.p), some (.ref l), some (.ref p), x3, none] ∧ Kp [] H H' ∧ (match s.r.label with | some x => decide (x ∈ M.bs.map (·.1)) | none => true) = true, ?_, ?_⟩
      · walk_at "cg"
        refine r_ixT sp2 atI_1 ?_
        walk_at "cg"
        refine r_inT (b := s.r.label.isSome) tc_LABEL_RULES.sq rfl rfl (by rw [if_neg (by decide)]; exact lab_in s.r) ?_
        cases el0 : s.r.label with
        | none =>
          rw [Option.isSome_none]
          walk_at "cg"
          exact ⟨rfl, k2, rfl⟩
        | some x =>
          obtain ⟨ds, eds⟩ := lab_args el0
          have ha2 := k2.imAll ha
          rw [eds] at ha2
          obtain ⟨_, ys, rfl, a1, h2⟩ := ha2.c
          cases a1
          rw [Option.isSome_some]
          walk_at "cg"
          refine r_ixT sp2 atI_2 ?_
          walk_at "cg"
          refine ⟨a, M, x, rfl, M2, ?_⟩
          walk_at "cg"
          refine if_NS (fun g => ?_) (fun g => ?_)
          · walk_at "cg"
            have q := k H2 k2
            rw [kb, el0] at q
            simp only [decide_eq_false g, Bool.false_and] at q
            exact q
          · walk_at "cg"
            exact ⟨rfl, k2, decide_eq_true g⟩
      · rintro σ' H3 ⟨rfl, k3, hlab⟩
        rw [hlab, Bool.true_and] at kb
        have sp3 := k3.tup sp
        have hf3 := k3.im hf
        have M3 := hM.kp0 k3
        clear k2 sp2 hf2 M2 hall e2 e1 k1
        walk_at "cg"
        refine r_ixT sp3 atI_0 ?_
        walk_at "cg"
        refine ⟨q, s.f, rfl, hf3, few, fun ln ns H4 hln eln asc mem k4 => ?_⟩
        have hns : ns.length ≤ 10000 := by
          have := asc_le asc mem
          omega
        walk_at "cg"
        refine lcL_b (K := K) (xs := ns.map V.int) (as := ns) (d := PyData.int) eln (imInts ns) (fun v : Int => decide (0 ≤ v) && decide (v < M.us.length)) hns (fun i v x H' R R' hv k' hx q' => ?_) (fun D H5 hD eD k5 => ?_)
        · obtain rfl := hx.flat (y := .int v) rfl
          have M5 := (M3.kp0 k4).kp0 k'
          have q2 := q' H' .refl
          walk_at "cg"
          refine if_S (fun g => ?_) (fun g => ?_)
          · walk_at "cg"
            refine ⟨a, M, rfl, M5, h60, ?_⟩
            rw [decide_eq_true g, Bool.true_and] at q2
            walk_at "cg"
            exact q2
          · rw [decide_eq_false g, Bool.false_and] at q2
            walk_at "cg"
            exact q2
        · walk_at "cg"
          refine r_all eD ?_
          have e9 : (ns.map fun v : Int => decide (0 ≤ v) && decide (v < M.us.length)).all id = knownB M es s := by
            rw [kb, List.all_map, Bool.eq_iff_iff, List.all_eq_true, List.all_eq_true]
            exact ⟨fun h v hv => h v ((mem v).mpr hv), fun h v hv => h v ((mem v).mp hv)⟩
          rw [e9]
          exact k _ (Kp.tr0 k5 (Kp.tr0 k4 k3))

end

/-! ### the points of a box that a body can tell apart -/
theorem at_set (os : List Int) (i : Nat) (x : Int) (v : Int) : at_ (os.set i x) v = if v.toNat = i ∧ i < os.length then x else at_ os v := by
  unfold at_
  rw [List.getD_eq_getElem?_getD, List.getD_eq_getElem?_getD, List.getElem?_set]
  by_cases h1 : i = v.toNat
  · subst h1
    by_cases h2 : v.toNat < os.length
    · simp [h2]
    · simp [h2]
  · rw [if_neg h1, if_neg (fun e => h1 e.1.symm)]
theorem ixN_ok {n : Nat} {i : Int} (h0 : 0 ≤ i) (h1 : i < n) : ixN n i = some i.toNat := by simp [ixN, h0, h1]
def prF (f : Int → Int) : List Int → Int
  | [] => 1
  | n :: ns => f n * prF f ns
theorem prF_snoc (f : Int → Int) : ∀ (ns : List Int) (n : Int), prF f (ns ++ [n]) = prF f ns * f n
  | [], n => by simp [prF]
  | m :: ns, n => by
    show f m * prF f (ns ++ [n]) = f m * prF f ns * f n
    rw [prF_snoc f ns n, Int.mul_assoc]
theorem prF_take {f : Int → Int} {ns : List Int} {i : Nat} {n : Int} (h : ns[i]? = some n) : prF f (ns.take (i + 1)) = prF f (ns.take i) * f n := by
  rw [List.take_add_one, h]
  exact prF_snoc _ _ _
theorem prF_pos {f : Int → Int} : ∀ {ns : List Int}, (∀ n ∈ ns, 1 ≤ f n) → 1 ≤ prF f ns
  | [], _ => Int.le_refl _
  | n :: ns, h => by
    have h1 := h n List.mem_cons_self
    have h2 := prF_pos (ns := ns) fun m hm => h m (List.mem_cons_of_mem _ hm)
    show 1 ≤ f n * prF f ns
    have := Int.mul_le_mul h1 h2 (by omega) (by omega)
    omega
theorem prF_le4 {f : Int → Int} : ∀ {ns : List Int}, (∀ n ∈ ns, 1 ≤ f n ∧ f n ≤ 4) → 1 ≤ prF f ns ∧ prF f ns ≤ 4 ^ ns.length
  | [], _ => ⟨Int.le_refl _, Int.le_refl _⟩
  | n :: ns, h => by
    have h1 := h n List.mem_cons_self
    have h2 := prF_le4 (ns := ns) fun m hm => h m (List.mem_cons_of_mem _ hm)
    refine ⟨prF_pos fun m hm => (h m hm).1, ?_⟩
    show f n * prF f ns ≤ 4 ^ (ns.length + 1)
    rw [Int.pow_succ, Int.mul_comm (4 ^ ns.length) 4]
    exact Int.mul_le_mul h1.2 h2.2 (by omega) (by omega)
/-- the size of a side -/
def szV (los his : List Int) (v : Int) : Int := at_ his v - at_ los v + 1
/-- the values of a place, put into a point -/
def decP (los his : List Int) : List Int → Int → List Int → List Int
  | [], _, pt => pt
  | v :: ns, r, pt => decP los his ns (r / szV los his v) (pt.set v.toNat (at_ los v + r % szV los his v))
def codP (los his : List Int) (f : Pt) : List Int → Int
  | [] => 0
  | v :: ns => (f v - at_ los v) + szV los his v * codP los his f ns
theorem decP_len (los his : List Int) : ∀ (ns : List Int) (r : Int) (pt : List Int), (decP los his ns r pt).length = pt.length
  | [], _, _ => rfl
  | v :: ns, r, pt => by
    show (decP los his ns _ _).length = _
    rw [decP_len los his ns, List.length_set]
theorem decP_off (los his : List Int) : ∀ (ns : List Int) (r : Int) (pt : List Int) (u : Int), (∀ v ∈ ns, v.toNat ≠ u.toNat) → at_ (decP los his ns r pt) u = at_ pt u
  | [], _, _, _, _ => rfl
  | v :: ns, r, pt, u, h => by
    show at_ (decP los his ns _ _) u = _
    rw [decP_off los his ns _ _ u fun w hw => h w (List.mem_cons_of_mem _ hw), at_set, if_neg fun e => h v List.mem_cons_self e.1.symm]
theorem decP_on (los his : List Int) (f : Pt) : ∀ (ns : List Int) (pt : List Int), ns.Nodup → (∀ v ∈ ns, 0 ≤ v ∧ v < pt.length) → (∀ v ∈ ns, at_ los v ≤ f v ∧ f v ≤ at_ his v) → ∀ u ∈ ns, at_ (decP los his ns (codP los his f ns) pt) u = f u
  | [], _, _, _, _, u, hu => by cases hu
  | v :: ns, pt, nd, rg, bx, u, hu => by
    rw [List.nodup_cons] at nd
    have hv := rg v List.mem_cons_self
    have hb := bx v List.mem_cons_self
    have hs : 1 ≤ szV los his v := by unfold szV; omega
    have e1 : codP los his f (v :: ns) % szV los his v = f v - at_ los v := by
      show (f v - at_ los v + szV los his v * _) % szV los his v = _
      rw [Int.add_mul_emod_self_left]
      exact Int.emod_eq_of_lt (by omega) (by unfold szV; omega)
    have e2 : codP los his f (v :: ns) / szV los his v = codP los his f ns := by
      show (f v - at_ los v + szV los his v * _) / szV los his v = _
      rw [Int.add_mul_ediv_left _ _ (by omega), Int.ediv_eq_zero_of_lt (by omega) (by unfold szV; omega), Int.zero_add]
    show at_ (decP los his ns (codP los his f (v :: ns) / szV los his v) (pt.set v.toNat (at_ los v + codP los his f (v :: ns) % szV los his v))) u = _
    rw [e1, e2]
    rcases List.mem_cons.mp hu with rfl | hu
    · rw [decP_off _ _ _ _ _ _ fun w hw e => nd.1 (by have := rg w (List.mem_cons_of_mem _ hw); rw [show u = w by omega]; exact hw), at_set, if_pos ⟨rfl, by omega⟩]
      omega
    · exact decP_on los his f ns _ nd.2 (fun w hw => by rw [List.length_set]; exact rg w (List.mem_cons_of_mem _ hw)) (fun w hw => bx w (List.mem_cons_of_mem _ hw)) u hu
theorem codP_lt (los his : List Int) (f : Pt) : ∀ (ns : List Int), (∀ v ∈ ns, at_ los v ≤ f v ∧ f v ≤ at_ his v) → 0 ≤ codP los his f ns ∧ codP los his f ns < prF (szV los his) ns
  | [], _ => ⟨Int.le_refl _, by show (0 : Int) < 1; decide⟩
  | v :: ns, bx => by
    have hb := bx v List.mem_cons_self
    have ih := codP_lt los his f ns fun w hw => bx w (List.mem_cons_of_mem _ hw)
    have hs : 1 ≤ szV los his v := by unfold szV; omega
    have hd : f v - at_ los v ≤ szV los his v - 1 := by unfold szV; omega
    show 0 ≤ f v - at_ los v + szV los his v * codP los his f ns ∧ f v - at_ los v + szV los his v * codP los his f ns < szV los his v * prF (szV los his) ns
    have a := Int.mul_nonneg (show 0 ≤ szV los his v by omega) ih.1
    have b := Int.mul_le_mul_of_nonneg_left (show codP los his f ns + 1 ≤ prF (szV los his) ns by omega) (show 0 ≤ szV los his v by omega)
    rw [Int.mul_add, Int.mul_one] at b
    omega
/-- a point of the box -/
def inLH (los his pt : List Int) : Prop := pt.length = los.length ∧ ∀ v : Int, 0 ≤ v → v < los.length → at_ los v ≤ at_ pt v ∧ at_ pt v ≤ at_ his v
theorem decP_in {los his : List Int} : ∀ (ns : List Int) (r : Int) (pt : List Int), (∀ v ∈ ns, (0 ≤ v ∧ v < los.length) ∧ at_ los v ≤ at_ his v) → inLH los his pt → inLH los his (decP los his ns r pt)
  | [], _, _, _, h => h
  | v :: ns, r, pt, g, h => by
    have g0 := g v List.mem_cons_self
    have hs : 0 < szV los his v := by unfold szV; omega
    have m0 := Int.emod_nonneg r (show szV los his v ≠ 0 by omega)
    have m1 := Int.emod_lt_of_pos r hs
    refine decP_in ns _ _ (fun w hw => g w (List.mem_cons_of_mem _ hw)) ⟨by rw [List.length_set]; exact h.1, fun u h0 h1 => ?_⟩
    rw [at_set]
    by_cases e : u.toNat = v.toNat ∧ v.toNat < pt.length
    · rw [if_pos e]
      have e2 : u = v := by omega
      subst e2
      unfold szV at m1 m0 ⊢
      omega
    · rw [if_neg e]
      exact h.2 u h0 h1
/-- the box of the model's kind: whole sides -/
def bxOk (los his : List Int) : Prop := his.length = los.length ∧ ∀ v : Int, 0 ≤ v → v < los.length → at_ los v ≤ at_ his v
def bxBd (los his : List Int) : Prop := ∀ v : Int, -1000000 ≤ at_ los v ∧ at_ los v ≤ 1000000 ∧ -1000000 ≤ at_ his v ∧ at_ his v ≤ 1000000
theorem inLH_bd {los his pt : List Int} (h : inLH los his pt) (b : bxBd los his) (v : Int) (h0 : 0 ≤ v) (h1 : v < los.length) : -1000000 ≤ at_ pt v ∧ at_ pt v ≤ 1000000 := by
  have q := h.2 v h0 h1
  have r := b v
  omega
structure BoxAt (K : PySem.W.Frag) (H : Hp) (p : Addr) (los his : List Int) : Prop where
  ex : ∃ q1 q2 : Addr, SqT K H p [.ref q1, .ref q2] ∧ SqT K H q1 (los.map V.int) ∧ SqT K H q2 (his.map V.int)
theorem BoxAt.kp {K : PySem.W.Frag} {H H' : Hp} {p : Addr} {S : List Addr} {los his : List Int} (k : Kp S H H') (h : BoxAt K H p los his) : BoxAt K H' p los his := by
  obtain ⟨q1, q2, a, b, c⟩ := h.ex
  exact ⟨q1, q2, k.tup a, k.tup b, k.tup c⟩
local macro_rules | `(tactic| walk_at "cg h") => `(tactic| (first
  | ((with_reducible show BoxAt _ _ _ _ _); exact BoxAt.kp (by assumption) (by walk_at "cg h"))
  | fail))
local macro_rules | `(tactic| walk_at "cg h") => `(tactic| assumption)
def spCost (K : PySem.W.Frag) : Sp := fun vs H Q _ => ∃ (p q : Addr) (b : Body) (los his : List Int), vs = [.ref p, .ref q] ∧ BodyAt K H p b ∧ b.bd ∧ BoxAt K H q los his ∧ bxOk los his ∧ bxBd los his ∧ (∀ v ∈ b.vars, 0 ≤ v ∧ v < los.length) ∧ ∀ H', Kp [] H H' → Q (.int (prF (szV los his) (numsOf b.vars los.length))) H'
/-- some point of the box does -/
def suppP (b : Body) (los his : List Int) : Prop := ∃ pt, inLH los his pt ∧ b.h (at_ pt) = true
def spSupp (K : PySem.W.Frag) : Sp := fun vs H Q _ => ∃ (p q : Addr) (b : Body) (los his : List Int), vs = [.ref p, .ref q] ∧ BodyAt K H p b ∧ b.bd ∧ BoxAt K H q los his ∧ bxOk los his ∧ bxBd los his ∧ (∀ v ∈ b.vars, 0 ≤ v ∧ v < los.length) ∧ prF (szV los his) (numsOf b.vars los.length) ≤ 1000000 ∧ ∀ (r : Bool) H', (r = true ↔ suppP b los his) → Kp [] H H' → Q (.bl r) H'
theorem supp_some {b : Body} {los his : List Int} {r : Int} (ok : bxOk los his) (hv : ∀ v ∈ b.vars, 0 ≤ v ∧ v < los.length) (h : b.h (at_ (decP los his (numsOf b.vars los.length) r los)) = true) : suppP b los his :=
  ⟨_, decP_in _ _ _ (fun v hm => by have q := numsOf_mem.mp hm; exact ⟨q.1, ok.2 v q.1.1 q.1.2⟩) ⟨rfl, fun v h0 h1 => ⟨Int.le_refl _, ok.2 v h0 h1⟩⟩, h⟩
theorem supp_none {b : Body} {los his : List Int} (hv : ∀ v ∈ b.vars, 0 ≤ v ∧ v < los.length) (h : ∀ j : Nat, (j : Int) < prF (szV los his) (numsOf b.vars los.length) → b.h (at_ (decP los his (numsOf b.vars los.length) j los)) = false) : ¬ suppP b los his := by
  rintro ⟨pt, hin, hb⟩
  have bx : ∀ v ∈ numsOf b.vars los.length, at_ los v ≤ at_ pt v ∧ at_ pt v ≤ at_ his v := fun v hm => hin.2 v (numsOf_mem.mp hm).1.1 (numsOf_mem.mp hm).1.2
  have c := codP_lt los his (at_ pt) _ bx
  have q := h (codP los his (at_ pt) (numsOf b.vars los.length)).toNat (by omega)
  rw [Int.toNat_of_nonneg c.1] at q
  have e : b.h (at_ (decP los his (numsOf b.vars los.length) (codP los his (at_ pt) (numsOf b.vars los.length)) los)) = b.h (at_ pt) := Body.h_congr fun v hm =>
    decP_on los his (at_ pt) _ los ((numsOf_asc _ _).imp fun {a b} h => by omega) (fun u hu => (numsOf_mem.mp hu).1) bx v (numsOf_mem.mpr ⟨hv v hm, hm⟩)
  rw [q, hb] at e
  cases e

/-! ### range(a, b); lists of lists of ints -/
def isR2 (vs : List V) (H : Hp) (R : It → Hp → Prop) : Prop := ∃ i j : Int, vs = [.int i, .int j] ∧ (-(2 ^ 62) ≤ i ∧ i < 2 ^ 62 ∧ -(2 ^ 62) ≤ j ∧ j < 2 ^ 62) ∧ R (Itr i (j - i).toNat) H
instance s_iR2 {ta : TA} {σ : St} {H : Hp} {R : It → Hp → Prop} : Stp (iRng2 ta σ H R) (ta σ H fun vs H1 => isR2 vs H1 R) := ⟨id⟩
theorem r_isR2 {i j : Int} {H : Hp} {R : It → Hp → Prop} (h1 : -1000000000 ≤ i ∧ i ≤ 1000000000) (h2 : -1000000000 ≤ j ∧ j ≤ 1000000000) (q : R (Itr i (j - i).toNat) H) : isR2 [.int i, .int j] H R := ⟨i, j, rfl, by omega, q⟩
local macro_rules | `(tactic| walk_at "cg s") => `(tactic| ((with_reducible apply r_isR2); (focus (first | omega | (constructor <;> decide))); (focus (first | omega | (constructor <;> decide)))))
inductive Els (H : Hp) : List V → List (List Int) → Prop
  | nil : Els H [] []
  | cons {p : Addr} {pt : List Int} {xs : List V} {L : List (List Int)} : H p = some (.lst (pt.map V.int)) → Els H xs L → Els H (.ref p :: xs) (pt :: L)
theorem Els.length {H : Hp} : ∀ {xs : List V} {L : List (List Int)}, Els H xs L → xs.length = L.length
  | _, _, .nil => rfl
  | _, _, .cons _ a => by rw [List.length_cons, List.length_cons, a.length]
theorem Els.kp {S : List Addr} {H H' : Hp} (k : Kp S H H') : ∀ {xs : List V} {L : List (List Int)}, Els H xs L → (∀ p, p ∈ S → V.ref p ∉ xs) → Els H' xs L
  | _, _, .nil, _ => .nil
  | _, _, .cons (p := p) h a, n => .cons (k.k p _ (fun hp => n p hp List.mem_cons_self) h) (a.kp k fun q hq hm => n q hq (List.mem_cons_of_mem _ hm))
theorem Els.kp0 {H H' : Hp} {xs : List V} {L : List (List Int)} (k : Kp [] H H') (h : Els H xs L) : Els H' xs L := h.kp k fun _ hp => nomatch hp
theorem Els.off {H : Hp} {D : Addr} (hD : H D = none) : ∀ {xs : List V} {L : List (List Int)}, Els H xs L → V.ref D ∉ xs
  | _, _, .nil, h => by cases h
  | _, _, .cons h a, m => by
    rcases List.mem_cons.mp m with e | m
    · cases e
      rw [hD] at h
      cases h
    · exact a.off hD m
theorem Els.snoc {H : Hp} {p : Addr} {pt : List Int} (h' : H p = some (.lst (pt.map V.int))) : ∀ {xs : List V} {L : List (List Int)}, Els H xs L → Els H (xs ++ [.ref p]) (L ++ [pt])
  | _, _, .nil => .cons h' .nil
  | _, _, .cons h a => .cons h (a.snoc h')
theorem Els.get {H : Hp} : ∀ {xs : List V} {L : List (List Int)} {i : Nat} {x : V}, Els H xs L → xs[i]? = some x → ∃ p pt, x = .ref p ∧ L[i]? = some pt ∧ H p = some (.lst (pt.map V.int))
  | _, _, _, _, .nil, e => by simp at e
  | _, _, 0, _, .cons (p := p) (pt := pt) h _, e => by simp at e; subst e; exact ⟨p, pt, rfl, rfl, h⟩
  | _, _, i + 1, _, .cons _ a, e => by
    obtain ⟨p, pt, h1, h2, h3⟩ := a.get (i := i) (by simpa using e)
    exact ⟨p, pt, h1, by simpa using h2, h3⟩
/-- all points of the first i sides -/
def extP (a b : Int) (pt : List Int) : List (List Int) := (rgI a b).map fun x => pt ++ [x]
def ptsL (los his : List Int) : Nat → List (List Int)
  | 0 => [[]]
  | i + 1 => (ptsL los his i).flatMap (extP (at_ los i) (at_ his i + 1))
theorem rgI_succ (a : Int) (k : Nat) (n : Nat) (h : k < n) : ((List.range (k + 1)).map fun i => a + ((i : Nat) : Int)) = ((List.range k).map fun i => a + ((i : Nat) : Int)) ++ [a + (k : Int)] := by
  rw [List.range_succ, List.map_append]
  rfl
theorem at_snoc_lt {pt : List Int} {x v : Int} (h0 : 0 ≤ v) (h : v < pt.length) : at_ (pt ++ [x]) v = at_ pt v := by
  unfold at_
  rw [List.getD_eq_getElem?_getD, List.getD_eq_getElem?_getD, List.getElem?_append_left (by omega)]
theorem at_snoc_eq {pt : List Int} {x v : Int} (h : v = pt.length) : at_ (pt ++ [x]) v = x := by
  subst h
  unfold at_
  rw [Int.toNat_natCast, List.getD_eq_getElem?_getD, List.getElem?_append_right (Nat.le_refl _), Nat.sub_self]
  rfl
theorem ptsL_mem (los his : List Int) : ∀ (i : Nat) (pt : List Int), pt ∈ ptsL los his i ↔ pt.length = i ∧ ∀ v : Int, 0 ≤ v → v < i → at_ los v ≤ at_ pt v ∧ at_ pt v ≤ at_ his v
  | 0, pt => by
    show pt ∈ [[]] ↔ _
    rw [List.mem_singleton]
    constructor
    · rintro rfl
      exact ⟨rfl, fun v h0 h1 => by omega⟩
    · exact fun h => List.length_eq_zero_iff.mp h.1
  | i + 1, pt => by
    show pt ∈ (ptsL los his i).flatMap (extP (at_ los i) (at_ his i + 1)) ↔ _
    rw [List.mem_flatMap]
    constructor
    · rintro ⟨z, hz, hp⟩
      obtain ⟨x, hx, rfl⟩ := List.mem_map.mp hp
      have q := (ptsL_mem los his i z).mp hz
      have r := rgI_mem.mp hx
      refine ⟨by rw [List.length_append, q.1]; rfl, fun v h0 h1 => ?_⟩
      by_cases e : v < i
      · rw [at_snoc_lt h0 (by omega)]
        exact q.2 v h0 e
      · have e2 : v = i := by omega
        subst e2
        rw [at_snoc_eq (by omega)]
        omega
    · rintro ⟨hl, hb⟩
      rcases List.eq_nil_or_concat pt with rfl | ⟨z, x, rfl⟩
      · simp at hl
      rw [List.concat_eq_append] at hl hb ⊢
      rw [List.length_append] at hl
      have hzl : z.length = i := by simpa using hl
      have hx := hb i (by omega) (by omega)
      rw [at_snoc_eq (by omega)] at hx
      refine ⟨z, (ptsL_mem los his i z).mpr ⟨hzl, fun v h0 h1 => ?_⟩, List.mem_map.mpr ⟨x, rgI_mem.mpr (by omega), rfl⟩⟩
      have q := hb v h0 (by omega)
      rw [at_snoc_lt h0 (by omega)] at q
      exact q
theorem ptsL_suppP {los his : List Int} {b : Body} : ((ptsL los his los.length).any fun pt => b.h (at_ pt)) = true ↔ suppP b los his := by
  rw [List.any_eq_true]
  constructor
  · rintro ⟨pt, hm, hb⟩
    exact ⟨pt, (ptsL_mem _ _ _ _).mp hm, hb⟩
  · rintro ⟨pt, hm, hb⟩
    exact ⟨pt, (ptsL_mem _ _ _ _).mpr hm, hb⟩
theorem flat_take {α β : Type} {l : List α} {f : α → List β} {i : Nat} {x : α} (h : l[i]? = some x) : (l.take (i + 1)).flatMap f = (l.take i).flatMap f ++ f x := by
  rw [List.take_add_one, h, List.flatMap_append]
  simp
theorem ptsL_le {los his : List Int} : ∀ i : Nat, i ≤ los.length → bxOk los his → (∀ v : Int, 0 ≤ v → v < los.length → szV los his v ≤ 4) → (ptsL los his i).length ≤ 4 ^ i
  | 0, _, _, _ => Nat.le_refl _
  | i + 1, hi, ok, h => by
    have ih := ptsL_le i (by omega) ok h
    have hs := h i (by omega) (by omega)
    have e : ∀ L : List (List Int), (L.flatMap (extP (at_ los i) (at_ his i + 1))).length ≤ L.length * 4 := fun L => by
      induction L with
      | nil => exact Nat.le_refl _
      | cons z L ih =>
        rw [List.flatMap_cons, List.length_append, List.length_cons]
        have : (extP (at_ los i) (at_ his i + 1) z).length ≤ 4 := by
          unfold extP
          rw [List.length_map, rgI_len]
          unfold szV at hs
          omega
        omega
    show ((ptsL los his i).flatMap _).length ≤ _
    rw [Nat.pow_succ]
    exact Nat.le_trans (e _) (Nat.mul_le_mul_right 4 ih)
/-- the sides that are drawn for these bounds -/
def sidesOk (us : List Un) (ls hs : List Int) : Prop := ls.length = hs.length ∧ ∀ (j : Nat) u a b, us[j]? = some u → ls[j]? = some a → hs[j]? = some b → u.2.1 ≤ a ∧ a ≤ b ∧ b ≤ u.2.2
theorem sidesOk.snoc {us : List Un} {ls hs : List Int} {u : Un} {a b : Int} (h : sidesOk us ls hs) (hu : us[ls.length]? = some u) (hb : u.2.1 ≤ a ∧ a ≤ b ∧ b ≤ u.2.2) : sidesOk us (ls ++ [a]) (hs ++ [b]) := by
  refine ⟨by simp [h.1], fun j v x y hv hx hy => ?_⟩
  rcases Nat.lt_trichotomy j ls.length with e | e | e
  · rw [List.getElem?_append_left e] at hx
    rw [List.getElem?_append_left (by rw [← h.1]; exact e)] at hy
    exact h.2 j v x y hv hx hy
  · subst e
    rw [hu] at hv
    rw [List.getElem?_append_right (Nat.le_refl _), Nat.sub_self] at hx
    rw [h.1, List.getElem?_append_right (Nat.le_refl _), Nat.sub_self] at hy
    simp at hv hx hy
    subst hv hx hy
    exact hb
  · rw [List.getElem?_eq_none (by simp; omega)] at hx
    cases hx
theorem sidesOk.at {us : List Un} {ls hs : List Int} (h : sidesOk us ls hs) (hl : ls.length = us.length) {i : Nat} {u : Un} (hu : us[i]? = some u) : u.2.1 ≤ at_ ls i ∧ at_ ls i ≤ at_ hs i ∧ at_ hs i ≤ u.2.2 := by
  have hi := (List.getElem?_eq_some_iff.mp hu).1
  have h1 : ls[i]? = some (at_ ls i) := by
    unfold at_
    rw [Int.toNat_natCast, List.getD_eq_getElem?_getD, List.getElem?_eq_getElem (by omega)]
    rfl
  have h2 : hs[i]? = some (at_ hs i) := by
    unfold at_
    rw [Int.toNat_natCast, List.getD_eq_getElem?_getD, List.getElem?_eq_getElem (by have := h.1; omega)]
    rfl
  exact h.2 i u _ _ hu h1 h2
theorem lst_snoc {H : Hp} {D : Addr} {ls : List Int} {x : Int} (h : H D = some (.lst (ls.map V.int ++ [.int x]))) : H D = some (.lst ((ls ++ [x]).map V.int)) := by
  rw [h, List.map_append]
  rfl
structure LtB (m : Int) : Prop where
  h : m < bigB
theorem LtB.of {m : Int} (h : m ≤ 1000000) : LtB m := ⟨by
  have e : (1000000 : Int) < bigB := by decide
  exact Int.lt_of_le_of_lt h e⟩
local macro_rules | `(tactic| walk_at "cg dr") => `(tactic| ((with_reducible refine spDraw_i (c := ?c) ?h ?h1 ?h2 ?_); (case h => walk_at "cg h"); (case h1 => first | omega | decide); (case h2 => first | (exact LtB.h (by with_reducible assumption)) | (with_reducible assumption) | decide)))
def spLawBox (K : PySem.W.Frag) : Sp := fun vs H Q _ => ∃ (t c l : Addr) (refs : List V) (us : List Un), vs = [.ref t, .ref l] ∧ Tp t c H ∧ H l = some (.lst refs) ∧ l ≠ t ∧ ImAll K H refs (us.map unD) ∧ us.length ≤ 1000 ∧ (∀ u ∈ us, -10000 ≤ u.2.1 ∧ u.2.1 ≤ u.2.2 ∧ u.2.2 ≤ 10000) ∧
  ∀ (p : Addr) (los his : List Int) H', BoxAt K H' p los his → los.length = us.length → sidesOk us los his → Tp t c H' → Kp [t] H H' → Q (.ref p) H'
def spLawPoints (K : PySem.W.Frag) : Sp := fun vs H Q _ => ∃ (p : Addr) (los his : List Int), vs = [.ref p] ∧ BoxAt K H p los his ∧ bxOk los his ∧ bxBd los his ∧ los.length ≤ 5 ∧ (∀ v : Int, 0 ≤ v → v < los.length → szV los his v ≤ 4) ∧
  ∀ (P : Addr) (refs : List V) H', H' P = some (.lst refs) → Els H' refs (ptsL los his los.length) → Kp [] H H' → Q (.ref P) H'

/-! ### boxes of a model -/
def lowQ (us : List Un) : List Int := us.map (·.2.1)
def highQ (us : List Un) : List Int := us.map (·.2.2)
abbrev LH := List Int × List Int
def restS (b : LH) : Option Lit → LH
  | some ⟨v, .le, a⟩ => (b.1, b.2.set v.toNat (if a < at_ b.2 v then a else at_ b.2 v))
  | some ⟨v, .ge, a⟩ => (b.1.set v.toNat (if a > at_ b.1 v then a else at_ b.1 v), b.2)
  | _ => b
def restF (b : LH) (fs : List Fact) : LH := fs.foldl (fun b f => restS b f.asLit) b
theorem restF_take {b : LH} {fs : List Fact} {i : Nat} {f : Fact} (h : fs[i]? = some f) : restF b (fs.take (i + 1)) = restS (restF b (fs.take i)) f.asLit := by
  unfold restF
  rw [List.take_add_one, h, List.foldl_append]
  rfl
theorem restS_len (b : LH) (o : Option Lit) : (restS b o).1.length = b.1.length ∧ (restS b o).2.length = b.2.length := by
  match o with
  | none => exact ⟨rfl, rfl⟩
  | some ⟨v, .le, a⟩ => exact ⟨rfl, List.length_set⟩
  | some ⟨v, .ge, a⟩ => exact ⟨List.length_set, rfl⟩
  | some ⟨v, .eq, a⟩ => exact ⟨rfl, rfl⟩
  | some ⟨v, .ne, a⟩ => exact ⟨rfl, rfl⟩
theorem restF_len (b : LH) : ∀ fs : List Fact, (restF b fs).1.length = b.1.length ∧ (restF b fs).2.length = b.2.length := fun fs => by
  unfold restF
  induction fs generalizing b with
  | nil => exact ⟨rfl, rfl⟩
  | cons f fs ih =>
    rw [List.foldl_cons]
    have a := ih (restS b f.asLit)
    have c := restS_len b f.asLit
    omega
def badLH (b : LH) : Bool := (List.range b.1.length).any fun i => decide (at_ b.1 (i : Int) > at_ b.2 (i : Int))
def restR (us : List Un) (fs : List Fact) : Option LH := if badLH (restF (lowQ us, highQ us) fs) = true then none else some (restF (lowQ us, highQ us) fs)
def lhD : Option LH → PyData
  | none => .none
  | some b => .tuple [intsD b.1, intsD b.2]
theorem lhD_shp (o : Option LH) : Shp 2 (lhD o) := by
  cases o with
  | none => exact .none
  | some b => exact .tup (shp_cons (intsD_shp _) (shp_cons (intsD_shp _) shp_nil))
theorem lh_im {K : PySem.W.Frag} {H : Hp} {p : Addr} {los his : List Int} (h : BoxAt K H p los his) : Im K H (.ref p) (lhD (some (los, his))) := by
  obtain ⟨q1, q2, a, b, c⟩ := h.ex
  exact .tup a (.cons (intsT_im b) (.cons (intsT_im c) .nil))
def spWholeBox (K : PySem.W.Frag) (C : Addr) : Sp := fun vs H Q _ => ∃ (a : MA) (M : Mdl), vs = [.ref a.p] ∧ MdlAt K C H a M ∧ M.us.length ≤ 60 ∧ ∀ x H', BoxAt K H' x (lowQ M.us) (highQ M.us) → Kp [] H H' → Q (.ref x) H'
def inLHb (los his : List Int) (f : Pt) : Bool := (List.range los.length).all fun i => decide (at_ los (i : Int) ≤ f (i : Int)) && decide (f (i : Int) ≤ at_ his (i : Int))
def spInBox (K : PySem.W.Frag) : Sp := fun vs H Q _ => ∃ (p q : Addr) (los his : List Int) (f : Pt), vs = [.ref p, .ref q] ∧ BoxAt K H p los his ∧ his.length = los.length ∧ los.length ≤ 60 ∧ PtAt K H q f (fun v => 0 ≤ v ∧ v < los.length) ∧ ∀ H', Kp [] H H' → Q (.bl (inLHb los his f)) H'
def spRestA (K : PySem.W.Frag) (C : Addr) : Sp := fun vs H Q _ => ∃ (a : MA) (M : Mdl) (l : Addr) (refs : List V) (fs : List Fact), vs = [.ref a.p, .ref l] ∧ MdlAt K C H a M ∧ M.us.length ≤ 60 ∧ H l = some (.lst refs) ∧ ImAll K H refs (fs.map Fact.d) ∧ (∀ f ∈ fs, f.ok M.us.length) ∧
  ∀ x H', Im K H' x (lhD (restR M.us fs)) → Kp [] H H' → Q x H'
def clsL (us : List Un) (los his : List Int) (v : Int) : List Lit := (if at_ los v > at_ (lowQ us) v then [⟨v, .le, at_ los v - 1⟩] else []) ++ (if at_ his v < at_ (highQ us) v then [⟨v, .ge, at_ his v + 1⟩] else [])
def spClause (K : PySem.W.Frag) (C : Addr) : Sp := fun vs H Q _ => ∃ (a : MA) (M : Mdl) (p l : Addr) (los his ks : List Int), vs = [.ref a.p, .ref p, .ref l] ∧ MdlAt K C H a M ∧ M.us.length ≤ 60 ∧ BoxAt K H p los his ∧ los.length = M.us.length ∧ his.length = M.us.length ∧ H l = some (.lst (ks.map V.int)) ∧ ks.length ≤ 60 ∧ (∀ v ∈ ks, 0 ≤ v ∧ v < M.us.length) ∧
  ∀ x H', FactAt K H' x (.any (ks.flatMap (clsL M.us los his))) → Kp [] H H' → Q (.ref x) H'
theorem lhAt_lo {us : List Un} {v : Int} {u : Un} (h : us[v.toNat]? = some u) : at_ (lowQ us) v = u.2.1 := by
  unfold at_ lowQ
  rw [List.getD_eq_getElem?_getD, List.getElem?_map, h]
  rfl
theorem lhAt_hi {us : List Un} {v : Int} {u : Un} (h : us[v.toNat]? = some u) : at_ (highQ us) v = u.2.2 := by
  unfold at_ highQ
  rw [List.getD_eq_getElem?_getD, List.getElem?_map, h]
  rfl

/-! ### facts: when equal -/
theorem litsD_inj (a b : List Lit) (h : litsD a = litsD b) : a = b := by
  simp only [litsD, PyData.tuple.injEq] at h
  exact map_inj Lit.d_inj h
theorem litsD_nb (a : List Lit) : nb (litsD a) = true := by
  simp only [litsD, nb]
  exact nbAll_of fun d hd => by
    obtain ⟨z, _, rfl⟩ := List.mem_map.mp hd
    rfl
theorem litsD_eqv (a b : List Lit) : PyData.eqv (litsD a) (litsD b) = decide (a = b) := eqv_dec litsD_inj litsD_nb (fun a => (litsD_shp a).lay) a b
theorem Fact.d_inj (a b : Fact) (h : a.d = b.d) : a = b := by
  cases a with
  | row ts n =>
    cases b with
    | row us m =>
      simp only [Fact.d, PyData.tuple.injEq, List.cons.injEq, PyData.int.injEq, and_true, true_and] at h
      rw [tmD_inj _ _ h.1, h.2]
    | any ls => simp [Fact.d] at h
  | any ls =>
    cases b with
    | row us m => simp [Fact.d] at h
    | any ms =>
      simp only [Fact.d, PyData.tuple.injEq, List.cons.injEq, and_true, true_and] at h
      rw [litsD_inj _ _ h]
theorem Fact.d_nb (a : Fact) : nb a.d = true := by
  cases a with
  | row ts n => simp only [Fact.d, nb, nbAll, tmD_nb, Bool.and_self]
  | any ls => simp only [Fact.d, nb, nbAll, litsD_nb, Bool.and_self]
theorem Fact.eqv (a b : Fact) : PyData.eqv a.d b.d = decide (a = b) := eqv_dec Fact.d_inj Fact.d_nb (fun a => (Fact.shp a).lay) a b
theorem r_eqF {K : PySem.W.Frag} {H : Hp} {Q : VK} {x y : V} {a b : Fact} (h1 : Im K H x a.d) (h2 : Im K H y b.d) (q : Q (.bl (decide (a = b))) H) : rEqD K x y H Q := by
  refine ⟨_, _, Im.dp h1, Im.dp h2, (Fact.shp _).ok, (Fact.shp _).ok, ?_⟩
  rw [Fact.eqv]
  exact q
theorem factsL_shp (fs : List Fact) : Shp 4 (.list (fs.map Fact.d)) := .list fun d hd => by
  obtain ⟨z, _, rfl⟩ := List.mem_map.mp hd
  exact Fact.shp z
/-- f in a list of facts -/
theorem r_inF {K : PySem.W.Frag} {H : Hp} {Q : VK} {x : V} {l : Addr} {refs : List V} {f : Fact} {fs : List Fact} (hx : Im K H x f.d) (h : H l = some (.lst refs)) (hA : ImAll K H refs (fs.map Fact.d)) (q : Q (.bl (decide (f ∈ fs))) H) : rInD K x (.ref l) H Q := by
  refine ⟨f.d, fs.map Fact.d, Im.dp hx, .lst (SqL.of h) hA.dp, (Fact.shp _).ok, (factsL_shp fs).ok, ?_⟩
  rw [any_in Fact.eqv]
  exact q
/-- the rows of a linear condition -/
def rowsOf (ts : Tms) (r : Rel) (n : Int) : List Fact := (if r = .ge then [] else [.row ts n]) ++ (if r = .le then [] else [.row (negT ts) (-n)])
def spRowsOf (K : PySem.W.Frag) : Sp := fun vs H Q _ => ∃ (p : Addr) (ts : Tms) (r : Rel) (n : Int), vs = [.ref p, .str r.s, .int n] ∧ Im K H (.ref p) (tmD ts) ∧ ts.length ≤ 1000 ∧ ∀ (l : Addr) (refs : List V) (H' : Hp), H l = none → H' l = some (.lst refs) → ImAll K H' refs ((rowsOf ts r n).map Fact.d) → Kp [] H H' → Q (.ref l) H'

theorem tms1 {K : PySem.W.Frag} {H : Hp} {p q : Addr} {v c : Int} (h : SqT K H p [.ref q]) (h2 : SqT K H q [.int v, .int c]) : Im K H (.ref p) (tmD [(v, c)]) := .tup h (.cons (.tup h2 (.cons (.int _) (.cons (.int _) .nil))) .nil)
theorem r_eqTm {K : PySem.W.Frag} {H : Hp} {Q : VK} {x y : V} {a b : Tms} (h1 : Im K H x (tmD a)) (h2 : Im K H y (tmD b)) (q : Q (.bl (decide (a = b))) H) : rEqD K x y H Q := by
  refine ⟨_, _, Im.dp h1, Im.dp h2, (tmD_shp _).ok, (tmD_shp _).ok, ?_⟩
  rw [tmD_eqv]
  exact q

/-! ### d[k] -/
def dgetS (x y : V) (H : Hp) (Q : VK) : Prop := ∃ a v, x = .ref a ∧ DGet H a y (some v) ∧ Q v H
instance s_dGet {td ty : TE} {σ : St} {H : Hp} {Q : VK} : Stp (tDGet td ty σ H Q) (td σ H fun x H1 => ty σ H1 fun y H2 => dgetS x y H2 Q) := ⟨id⟩
theorem r_getD {H : Hp} {Q : VK} {a : Addr} {kvs : List (Key × V)} {k : Key} {v : V} (h : H a = some (.dK kvs)) (e : valV kvs k = some v) (q : Q v H) : dgetS (.ref a) (kV k) H Q := ⟨a, v, rfl, e ▸ DGet.k h, q⟩
theorem valV_at {κ : Type} [DecidableEq κ] : ∀ {kvs : List (κ × V)} {i : Nat} {k : κ} {v : V}, (kvs.map (·.1)).Nodup → kvs[i]? = some (k, v) → valV kvs k = some v
  | [], _, _, _, _, h => by simp at h
  | p :: r, 0, k, v, _, h => by
    simp at h
    subst h
    exact valV_pos rfl
  | p :: r, i + 1, k, v, nd, h => by
    rw [List.map_cons, List.nodup_cons] at nd
    have h : r[i]? = some (k, v) := by simpa using h
    rw [valV_neg fun e => nd.1 (List.mem_map.mpr ⟨_, List.mem_of_getElem? h, e.symm⟩)]
    exact valV_at nd.2 h
def notInDk (x y : V) (H : Hp) (Q : VK) : Prop := ∃ a o, x = .ref a ∧ DGet H a y o ∧ Q (.bl (!o.isSome)) H
instance s_dNotIn {td ty : TE} {σ : St} {H : Hp} {Q : VK} : Stp (tDNotIn ty td σ H Q) (ty σ H fun y H1 => td σ H1 fun x H2 => notInDk x y H2 Q) := ⟨id⟩
theorem r_notInDk1 {H : Hp} {Q : VK} {a : Addr} {kvs : List (Key × V)} {k : Key} {v : V} (h : H a = some (.dK kvs)) (e : valV kvs k = some v) (q : Q (.bl false) H) : notInDk (.ref a) (kV k) H Q := ⟨a, some v, rfl, e ▸ DGet.k h, q⟩
theorem r_notInDk0 {H : Hp} {Q : VK} {a : Addr} {kvs : List (Key × V)} {k : Key} (h : H a = some (.dK kvs)) (e : valV kvs k = none) (q : Q (.bl true) H) : notInDk (.ref a) (kV k) H Q := ⟨a, none, rfl, e ▸ DGet.k h, q⟩

/-! ### facts as rows -/
def Fact.asRow : Fact → Option (Tms × Int)
  | .row ts n => some (ts, n)
  | .any [⟨v, .le, a⟩] => some ([(v, 1)], a)
  | .any [⟨v, .ge, a⟩] => some ([(v, -1)], -a)
  | _ => none
theorem asRow_two (l l' : Lit) (ls : List Lit) : (Fact.any (l :: l' :: ls)).asRow = none := by
  obtain ⟨v, r, a⟩ := l
  cases r <;> rfl
inductive RowO (K : PySem.W.Frag) (H : Hp) : V → Option (Tms × Int) → Prop
  | none : RowO K H .non Option.none
  | some {p : Addr} {ts : Tms} {n : Int} (h : FactAt K H p (.row ts n)) : RowO K H (.ref p) (Option.some (ts, n))
theorem RowO.kp0 {K : PySem.W.Frag} {H H' : Hp} {x : V} {o : Option (Tms × Int)} (k : Kp [] H H') (h : RowO K H x o) : RowO K H' x o := by
  cases h with
  | none => exact .none
  | some h => exact .some (k.im h)
theorem RowO.kp {K : PySem.W.Frag} {H H' : Hp} {x : V} {o : Option (Tms × Int)} {S : List Addr} (k : Kp S H H') (h : RowO K H x o) : RowO K H' x o := by
  cases h with
  | none => exact .none
  | some h => exact .some (k.im h)
def spAsRow (K : PySem.W.Frag) : Sp := fun vs H Q _ => ∃ (p : Addr) (f : Fact), vs = [.ref p] ∧ FactAt K H p f ∧ ∀ (x : V) (H' : Hp), RowO K H' x f.asRow → Kp [] H H' → Q x H'
theorem asRow_ok {m : Int} {f : Fact} {ts : Tms} {n : Int} (ok : f.ok m) (h : f.asRow = some (ts, n)) : Fact.ok m (.row ts n) := by
  cases f with
  | row us k =>
    simp only [Fact.asRow, Option.some.injEq, Prod.mk.injEq] at h
    rw [← h.1, ← h.2]
    exact ok
  | any ls =>
    match ls, h, ok with
    | [], h, _ => cases h
    | l :: l' :: ls, h, _ => rw [asRow_two] at h; cases h
    | [⟨v, r, a⟩], h, ok =>
      have q := ok.1 ⟨v, r, a⟩ List.mem_cons_self
      simp only at q
      cases r with
      | le =>
        simp only [Fact.asRow, Option.some.injEq, Prod.mk.injEq] at h
        rw [← h.1, ← h.2]
        refine ⟨fun z hz => ?_, by simp, by omega, by omega⟩
        rw [List.mem_singleton] at hz
        subst hz
        simp only
        omega
      | ge =>
        simp only [Fact.asRow, Option.some.injEq, Prod.mk.injEq] at h
        rw [← h.1, ← h.2]
        refine ⟨fun z hz => ?_, by simp, by omega, by omega⟩
        rw [List.mem_singleton] at hz
        subst hz
        simp only
        omega
      | eq => cases h
      | ne => cases h
theorem asRow_h {f : Fact} {ts : Tms} {n : Int} {g : Pt} (h : f.asRow = some (ts, n)) : f.h g = decide (sumF ts g ≤ n) := by
  cases f with
  | row us k =>
    simp only [Fact.asRow, Option.some.injEq, Prod.mk.injEq] at h
    rw [← h.1, ← h.2]
    rfl
  | any ls =>
    match ls, h with
    | [], h => cases h
    | l :: l' :: ls, h => rw [asRow_two] at h; cases h
    | [⟨v, r, a⟩], h =>
      cases r with
      | le =>
        simp only [Fact.asRow, Option.some.injEq, Prod.mk.injEq] at h
        rw [← h.1, ← h.2]
        simp [Fact.h, Lit.h, Rel.h, sumF]
      | ge =>
        simp only [Fact.asRow, Option.some.injEq, Prod.mk.injEq] at h
        rw [← h.1, ← h.2]
        simp only [Fact.h, Lit.h, Rel.h, sumF, List.any_cons, List.any_nil, Bool.or_false, List.map_cons, List.map_nil, List.sum_cons, List.sum_nil]
        rw [Bool.eq_iff_iff, decide_eq_true_eq, decide_eq_true_eq]
        omega
      | eq => cases h
      | ne => cases h

/-! ### implications between facts (points as functions) -/
def impB (v1 : Int) (r1 : Rel) (n1 v2 : Int) (r2 : Rel) (n2 : Int) : Bool :=
  if v1 = v2 then (match r1 with | .eq => r2.h n1 n2 | .ne => decide (r2 = .ne) && decide (n1 = n2) | .le => (match r2 with | .le => decide (n1 ≤ n2) | .ne => !decide (n2 ≤ n1) | _ => false) | .ge => (match r2 with | .ge => decide (n2 ≤ n1) | .ne => !decide (n1 ≤ n2) | _ => false)) else false
theorem impB_sound {v1 : Int} {r1 : Rel} {n1 v2 : Int} {r2 : Rel} {n2 : Int} (h : impB v1 r1 n1 v2 r2 n2 = true) : v1 = v2 ∧ ∀ x, r1.h x n1 = true → r2.h x n2 = true := by
  unfold impB at h
  by_cases hv : v1 = v2
  · rw [if_pos hv] at h
    refine ⟨hv, fun x hx => ?_⟩
    cases r1 <;> cases r2 <;> simp [Rel.h] at h hx ⊢ <;> omega
  · rw [if_neg hv] at h
    cases h
def spImp (K : PySem.W.Frag) : Sp := fun vs H Q _ => ∃ (p q : Addr) (v1 : Int) (r1 : Rel) (n1 v2 : Int) (r2 : Rel) (n2 : Int), vs = [.ref p, .ref q] ∧ LitAt K H p v1 r1 n1 ∧ LitAt K H q v2 r2 n2 ∧ Q (.bl (impB v1 r1 n1 v2 r2 n2)) H
theorem spImp_i {K : PySem.W.Frag} {H : Hp} {Q : VK} {E : XK} {p q : Addr} {v1 : Int} {r1 : Rel} {n1 v2 : Int} {r2 : Rel} {n2 : Int} (h1 : LitAt K H p v1 r1 n1) (h2 : LitAt K H q v2 r2 n2) (k : Q (.bl (impB v1 r1 n1 v2 r2 n2)) H) : spImp K [.ref p, .ref q] H Q E :=
  ⟨p, q, v1, r1, n1, v2, r2, n2, rfl, h1, h2, k⟩
def Fact.isCon : Fact → Bool
  | .row ts n => ts.isEmpty && decide (n < 0)
  | .any ls => ls.isEmpty
def impL (l m : Lit) : Bool := impB l.v l.r l.a m.v m.r m.a
def litsImp (f g : Fact) : Bool := match f.asLit with
  | none => false
  | some l => match g with
    | .any ls => ls.any fun m => impL l m
    | g => match g.asLit with
      | none => false
      | some m => impL l m
def midF (f g : Fact) : Bool := match g with
  | .row ts n => (match f.asRow with | some (us, k) => decide (us = ts) && decide (k ≤ n) | none => false)
  | .any ms => (match f with | .any ls => ls.all fun l => decide (l ∈ ms) | _ => false)
def implF (f g : Fact) : Bool := f.isCon || (midF f g || litsImp f g)
def spCon (K : PySem.W.Frag) : Sp := fun vs H Q _ => ∃ (p : Addr) (f : Fact), vs = [.ref p] ∧ FactAt K H p f ∧ Q (.bl f.isCon) H
theorem litsImp_any {f : Fact} {l : Lit} {ms : List Lit} (h : f.asLit = some l) : litsImp f (.any ms) = (ms.map fun m => impL l m).any id := by
  unfold litsImp
  rw [h]
  simp only [List.any_map]
  rfl
theorem litsImp_row {f : Fact} {l : Lit} {ts : Tms} {n : Int} (h : f.asLit = some l) : litsImp f (.row ts n) = (match (Fact.row ts n).asLit with | none => false | some m => impL l m) := by
  unfold litsImp
  rw [h]
theorem litsImp_none {f g : Fact} (h : f.asLit = none) : litsImp f g = false := by
  unfold litsImp
  rw [h]
def spImpl (K : PySem.W.Frag) (b : Fact → Fact → Bool) : Sp := fun vs H Q _ => ∃ (p q : Addr) (f g : Fact) (m : Int), vs = [.ref p, .ref q] ∧ FactAt K H p f ∧ FactAt K H q g ∧ f.ok m ∧ g.ok m ∧ ∀ (H' : Hp), Kp [] H H' → Q (.bl (b f g)) H'
theorem asLit_sound {f : Fact} {l : Lit} {m : Int} {g : Pt} (ok : f.ok m) (e : f.asLit = some l) : f.h g = l.h g := by
  cases f with
  | row ts n =>
    match ts, e, ok with
    | [], e, _ => cases e
    | z :: z' :: ts, e, _ =>
      rw [asLit_row2] at e
      cases e
    | [(v, c)], e, ok =>
      have okz := ok.1 (v, c) List.mem_cons_self
      simp only [Fact.asLit] at e
      dsimp only at okz
      by_cases hc : 0 < c
      · rw [if_pos hc] at e
        cases e
        simp only [Fact.h, Lit.h, Rel.h, sumF, List.map_cons, List.map_nil, List.sum_cons, List.sum_nil]
        rw [Bool.eq_iff_iff]
        simp only [decide_eq_true_eq]
        rw [Int.le_ediv_iff_mul_le hc, Int.mul_comm]
        omega
      · rw [if_neg hc] at e
        cases e
        simp only [Fact.h, Lit.h, Rel.h, sumF, List.map_cons, List.map_nil, List.sum_cons, List.sum_nil]
        rw [Bool.eq_iff_iff]
        simp only [decide_eq_true_eq]
        generalize g v = x
        have q : -x ≤ n / -c ↔ -x * -c ≤ n := Int.le_ediv_iff_mul_le (by omega)
        have e2 : -x * -c = c * x := by rw [Int.neg_mul_neg, Int.mul_comm]
        rw [e2] at q
        omega
  | any ls =>
    match ls, e with
    | [], e => cases e
    | l :: l' :: ls, e =>
      rw [asLit_two] at e
      cases e
    | [k], e =>
      cases e
      simp [Fact.h]
theorem impL_sound {l m : Lit} {g : Pt} (h : impL l m = true) (hl : l.h g = true) : m.h g = true := by
  obtain ⟨e, q⟩ := impB_sound h
  unfold Lit.h at *
  rw [← e]
  exact q _ hl
theorem implF_sound {f g : Fact} {m : Int} {pt : Pt} (okf : f.ok m) (okg : g.ok m) (h : implF f g = true) (hf : f.h pt = true) : g.h pt = true := by
  unfold implF at h
  rw [Bool.or_eq_true, Bool.or_eq_true] at h
  rcases h with h | h | h
  · cases f with
    | row ts n =>
      simp only [Fact.isCon, Bool.and_eq_true, decide_eq_true_eq, List.isEmpty_iff] at h
      obtain ⟨rfl, h⟩ := h
      simp [Fact.h, sumF] at hf
      omega
    | any ls =>
      simp only [Fact.isCon, List.isEmpty_iff] at h
      subst h
      simp [Fact.h] at hf
  · cases g with
    | row ts n =>
      cases e1 : f.asRow with
      | none => simp [midF, e1] at h
      | some z =>
        obtain ⟨us, k⟩ := z
        simp only [midF, e1, Bool.and_eq_true, decide_eq_true_eq] at h
        rw [asRow_h e1] at hf
        obtain ⟨rfl, h⟩ := h
        simp only [Fact.h, decide_eq_true_eq] at *
        omega
    | any ms =>
      cases f with
      | row us k => simp [midF] at h
      | any ls =>
        simp only [midF, List.all_eq_true, decide_eq_true_eq] at h
        simp only [Fact.h, List.any_eq_true] at *
        obtain ⟨l, hl, q⟩ := hf
        exact ⟨l, h l hl, q⟩
  · cases e1 : f.asLit with
    | none =>
      rw [litsImp_none e1] at h
      cases h
    | some l =>
      rw [asLit_sound okf e1] at hf
      cases g with
      | any ms =>
        rw [litsImp_any e1, List.any_map] at h
        obtain ⟨m', hm, q⟩ := List.any_eq_true.mp h
        exact List.any_eq_true.mpr ⟨m', hm, impL_sound q hf⟩
      | row ts n =>
        rw [litsImp_row e1] at h
        cases e2 : (Fact.row ts n).asLit with
        | none => simp [e2] at h
        | some l2 =>
          simp only [e2] at h
          rw [asLit_sound okg e2]
          exact impL_sound h hf


/-! ### negations of facts -/
def Lit.ngt (l : Lit) : Lit := ⟨l.v, l.r.neg, l.r.nnum l.a⟩
def Fact.ngt : Fact → Option Fact
  | .row ts n => some (.row (negT ts) (-n - 1))
  | .any [l] => some (.any [l.ngt])
  | _ => none
theorem ngt_two (l l' : Lit) (ls : List Lit) : (Fact.any (l :: l' :: ls)).ngt = none := rfl
inductive FactO (K : PySem.W.Frag) (H : Hp) : V → Option Fact → Prop
  | none : FactO K H .non Option.none
  | some {p : Addr} {f : Fact} (h : FactAt K H p f) : FactO K H (.ref p) (Option.some f)
theorem FactO.kp {K : PySem.W.Frag} {H H' : Hp} {x : V} {o : Option Fact} {S : List Addr} (k : Kp S H H') (h : FactO K H x o) : FactO K H' x o := by
  cases h with
  | none => exact .none
  | some h => exact .some (k.im h)
def factOD : Option Fact → PyData
  | none => .none
  | some f => f.d
theorem FactO.im {K : PySem.W.Frag} {H : Hp} {x : V} {o : Option Fact} (h : FactO K H x o) : Im K H x (factOD o) := by
  cases h with
  | none => exact .non
  | some h => exact h
theorem factOD_shp (o : Option Fact) : Shp 3 (factOD o) := by
  cases o with
  | none => exact .none
  | some f => exact Fact.shp f
theorem factOD_eqv (a b : Option Fact) : PyData.eqv (factOD a) (factOD b) = decide (a = b) := eqv_dec (fun a b h => by
  cases a with
  | none =>
    cases b with
    | none => rfl
    | some g => cases g <;> cases h
  | some f =>
    cases b with
    | none => cases f <;> cases h
    | some g => rw [Fact.d_inj f g h]) (fun a => by
  cases a with
  | none => rfl
  | some f => exact Fact.d_nb f) (fun a => (factOD_shp a).lay) a b
theorem r_eqFO {K : PySem.W.Frag} {H : Hp} {Q : VK} {x y : V} {a b : Option Fact} (h1 : Im K H x (factOD a)) (h2 : Im K H y (factOD b)) (q : Q (.bl (decide (a = b))) H) : rEqD K x y H Q := by
  refine ⟨_, _, Im.dp h1, Im.dp h2, (factOD_shp _).ok, (factOD_shp _).ok, ?_⟩
  rw [factOD_eqv]
  exact q
theorem r_neFO {K : PySem.W.Frag} {H : Hp} {Q : VK} {x y : V} {a b : Option Fact} (h1 : Im K H x (factOD a)) (h2 : Im K H y (factOD b)) (q : Q (.bl (!decide (a = b))) H) : rNeD K x y H Q := by
  refine ⟨_, _, Im.dp h1, Im.dp h2, (factOD_shp _).ok, (factOD_shp _).ok, ?_⟩
  rw [factOD_eqv]
  exact q
theorem ngt_h {f g : Fact} {p : Pt} (h : f.ngt = some g) : g.h p = !f.h p := by
  cases f with
  | row ts n =>
    cases h
    show decide (sumF (negT ts) p ≤ -n - 1) = !decide (sumF ts p ≤ n)
    have e : ∀ ts : Tms, sumF (negT ts) p = -sumF ts p := fun ts => by
      induction ts with
      | nil => rfl
      | cons z ts ih =>
        have e1 : sumF (negT (z :: ts)) p = (-z.2) * p z.1 + sumF (negT ts) p := by simp [sumF, negT]
        have e2 : sumF (z :: ts) p = z.2 * p z.1 + sumF ts p := by simp [sumF]
        rw [e1, e2, ih, Int.neg_mul]
        omega
    rw [e, Bool.eq_iff_iff]
    simp
    omega
  | any ls =>
    match ls, h with
    | [], h => cases h
    | l :: l' :: ls, h => cases h
    | [l], h =>
      cases h
      show ([l.ngt].any fun z => z.h p) = !([l].any fun z => z.h p)
      simp only [List.any_cons, List.any_nil, Bool.or_false, Lit.h, Lit.ngt]
      exact Rel.neg_h _ _ _
def spNegF (K : PySem.W.Frag) : Sp := fun vs H Q _ => ∃ (p : Addr) (f : Fact), vs = [.ref p] ∧ FactAt K H p f ∧ (∀ ts n, f = .row ts n → ts.length ≤ 1000) ∧ ∀ (x : V) (H' : Hp), FactO K H' x f.ngt → Kp [] H H' → Q x H'

/-! ### rule given -/
def givenB (b : Body) (f : Fact) : Bool := match b with
  | .row ts r n => decide (f ∈ rowsOf ts r n)
  | .any ls => decide (f = .any ls)
  | _ => false
def spBody (K : PySem.W.Frag) (C : Addr) : Sp := fun vs H Q _ => ∃ (a : MA) (M : Mdl) (x : Str) (b : Body), vs = [.ref a.p, .str x] ∧ MdlAt K C H a M ∧ (M.bs.map (·.1)).Nodup ∧ (x, b) ∈ M.bs ∧ ∀ p, BodyAt K H p b → Q (.ref p) H
def spGiven (K : PySem.W.Frag) : Sp := fun vs H Q _ => ∃ (p q : Addr) (b : Body) (f : Fact), vs = [.ref p, .ref q] ∧ BodyAt K H p b ∧ b.bd ∧ FactAt K H q f ∧ ∀ H', Kp [] H H' → Q (.bl (givenB b f)) H'
theorem Body.isTup (b : Body) : ∃ ds, b.d = .tuple ds := by cases b <;> exact ⟨_, rfl⟩
theorem body_at {K : PySem.W.Frag} {H : Hp} {x : V} {b : Body} (h : Im K H x b.d) : ∃ p, x = .ref p ∧ BodyAt K H p b := by
  obtain ⟨ds, e⟩ := b.isTup
  have h' := h
  rw [e] at h'
  obtain ⟨p, rfl⟩ := h'.isRef
  exact ⟨p, rfl, h⟩

/-! ### rule bound -/
def boundB (M : Mdl) (v : Int) : Fact → Bool
  | .row ts n => (decide (0 ≤ v) && decide (v < M.us.length)) && (if ts = [(v, 1)] then decide (n ≥ at_ (highQ M.us) v) else (decide (ts = [(v, -1)]) && decide (n ≥ -at_ (lowQ M.us) v)))
  | .any _ => false
def spBound (K : PySem.W.Frag) (C : Addr) : Sp := fun vs H Q _ => ∃ (a : MA) (M : Mdl) (p : Addr) (f : Fact) (v : Int), vs = [.ref a.p, .ref p, .int v] ∧ MdlAt K C H a M ∧ M.us.length ≤ 60 ∧ FactAt K H p f ∧ ∀ H', Kp [] H H' → Q (.bl (boundB M v f)) H'

/-! ### rule divide -/
def divT (ts : Tms) (d : Int) : Tms := ts.map fun z => (z.1, z.2 / d)
def divAll (ts : Tms) (d : Int) : Bool := ts.all fun z => decide (z.2 - z.2 / d * d = 0)
def divideB (f pr : Fact) (d : Int) : Bool := match pr.asRow with
  | none => false
  | some (ts, n) => match f with
    | .any _ => false
    | .row us k => decide (1 ≤ d) && (divAll ts d && (decide (us = divT ts d) && decide (n / d ≤ k)))
def spDivide (K : PySem.W.Frag) : Sp := fun vs H Q _ => ∃ (p q : Addr) (f pr : Fact) (d m : Int), vs = [.ref p, .ref q, .int d] ∧ FactAt K H p f ∧ FactAt K H q pr ∧ pr.ok m ∧ d ≤ 1000000 ∧ ∀ H', Kp [] H H' → Q (.bl (divideB f pr d)) H'
theorem divide_sound {f pr : Fact} {d : Int} {g : Pt} (h : divideB f pr d = true) (hp : pr.h g = true) : f.h g = true := by
  unfold divideB at h
  cases e : pr.asRow with
  | none =>
    rw [e] at h
    cases h
  | some o =>
    obtain ⟨ts, n⟩ := o
    rw [e] at h
    cases f with
    | any ls => cases h
    | row us k =>
      simp only [Bool.and_eq_true, decide_eq_true_eq] at h
      obtain ⟨h1, h2, h3, h4⟩ := h
      rw [asRow_h e, decide_eq_true_eq] at hp
      subst h3
      have es : ∀ ts : Tms, divAll ts d = true → sumF (divT ts d) g * d = sumF ts g := fun ts => by
        induction ts with
        | nil => intro _; simp [divT, sumF]
        | cons z ts ih =>
          intro ha
          unfold divAll at ha
          rw [List.all_cons, Bool.and_eq_true, decide_eq_true_eq] at ha
          have i2 := ih ha.2
          have e1 : sumF (divT (z :: ts) d) g = z.2 / d * g z.1 + sumF (divT ts d) g := by simp [sumF, divT]
          have e2 : sumF (z :: ts) g = z.2 * g z.1 + sumF ts g := by simp [sumF]
          rw [e1, e2, Int.add_mul, i2]
          have e3 : z.2 / d * g z.1 * d = z.2 * g z.1 := by
            have e4 : z.2 / d * d = z.2 := by omega
            calc z.2 / d * g z.1 * d = (z.2 / d * d) * g z.1 := by rw [Int.mul_assoc, Int.mul_comm (g z.1) d, ← Int.mul_assoc]
              _ = z.2 * g z.1 := by rw [e4]
          rw [e3]
      show decide (sumF (divT ts d) g ≤ k) = true
      rw [decide_eq_true_eq]
      have q := es ts h2
      refine Int.le_trans ?_ h4
      exact (Int.le_ediv_iff_mul_le (by omega)).mpr (by omega)

/-! ### the rules apart and then -/
def apartB (b : Body) (f : Fact) : Bool := match b, f with
  | .diff us, .any [l, m] => decide (l.r = .ne) && (decide (m.r = .ne) && (decide (l.a = m.a) && (!decide (l.v = m.v) && (decide (l.v ∈ us) && decide (m.v ∈ us)))))
  | _, _ => false
def thenB (b : Body) (f pr : Fact) : Bool := match b with
  | .when l ts r n => implF pr (.any [l]) && decide (f ∈ rowsOf ts r n)
  | _ => false
theorem apart_row (b : Body) (ts : Tms) (n : Int) : apartB b (.row ts n) = false := by cases b <;> rfl
theorem apart_nil (b : Body) : apartB b (.any []) = false := by cases b <;> rfl
theorem apart_one (b : Body) (l : Lit) : apartB b (.any [l]) = false := by cases b <;> rfl
theorem apart_more (b : Body) (l m k : Lit) (ls : List Lit) : apartB b (.any (l :: m :: k :: ls)) = false := by cases b <;> rfl
theorem apart_two (us : List Int) (l m : Lit) : apartB (.diff us) (.any [l, m]) = (decide (l.r = .ne) && (decide (m.r = .ne) && (decide (l.a = m.a) && (!decide (l.v = m.v) && (decide (l.v ∈ us) && decide (m.v ∈ us)))))) := rfl
theorem rs_ne (r : Rel) : decide (r.s = Str.ofString "!=") = decide (r = .ne) := by cases r <;> decide +kernel
def spApart (K : PySem.W.Frag) : Sp := fun vs H Q _ => ∃ (p q : Addr) (b : Body) (f : Fact), vs = [.ref p, .ref q] ∧ BodyAt K H p b ∧ FactAt K H q f ∧ Q (.bl (apartB b f)) H
def spThen (K : PySem.W.Frag) : Sp := fun vs H Q _ => ∃ (p q u : Addr) (b : Body) (f pr : Fact) (m : Int), vs = [.ref p, .ref q, .ref u] ∧ BodyAt K H p b ∧ b.fit m ∧ m ≤ 60 ∧ FactAt K H q f ∧ FactAt K H u pr ∧ pr.ok m ∧ ∀ H', Kp [] H H' → Q (.bl (thenB b f pr)) H'

/-! ### the entries that a law draws -/
def spLawEnts (K : PySem.W.Frag) : Sp := fun vs H Q _ => ∃ (t c : Addr) (m k : Int), vs = [.ref t, .int m, .int k] ∧ Tp t c H ∧ 1 ≤ m ∧ m ≤ 60 ∧ 1 ≤ k ∧ k ≤ 9 ∧ ∀ (l : Addr) (es : List (Option Step)) (H' : Hp), H l = none → EntAt K H' l es → 1 ≤ es.length → (es.length : Int) ≤ k → (∀ s, some s ∈ es → s.f.ok m ∧ s.r = .suppose ∧ s.f.le 1001) → Tp t c H' → Kp [t] H H' → Q (.ref l) H'
def spNumber (K : PySem.W.Frag) : Sp := fun vs H Q _ => ∃ (t c l : Addr) (es : List (Option Step)), vs = [.ref t, .ref l] ∧ Tp t c H ∧ EntAt K H l es ∧ l ≠ t ∧ 1 ≤ es.length ∧ es.length ≤ 1000 ∧ ∀ (i : Int) (H' : Hp), Tp t c H' → Kp [t] H H' → Q (.int i) H'
def spThere (K : PySem.W.Frag) : Sp := fun vs H Q _ => ∃ (l p : Addr) (es : List (Option Step)) (is : List Int), vs = [.ref l, .ref p] ∧ EntAt K H l es ∧ H p = some (.lst (is.map V.int)) ∧ Q (.bl (is.all (awake es))) H
theorem ix_any3 {K : PySem.W.Frag} {p : Addr} {H : Hp} {Q : VK} {d a b c : Int} (h : H p = some (.lst [.int a, .int b, .int c])) (h0 : 0 ≤ d) (h1 : d < 3) (q : ∀ n : Int, n = a ∨ n = b ∨ n = c → Q (.int n) H) : rIxL K (.ref p) (.int d) H Q := by
  have e : d = 0 ∨ d = 1 ∨ d = 2 := by omega
  rcases e with rfl | rfl | rfl
  · exact r_ixL h rfl (q _ (.inl rfl))
  · exact r_ixL h rfl (q _ (.inr (.inl rfl)))
  · exact r_ixL h rfl (q _ (.inr (.inr rfl)))
theorem awake_none {es : List (Option Step)} {i : Int} (h0 : 0 ≤ i) (h1 : i < es.length) : awake es i = (match es[i.toNat]? with | some (some _) => true | _ => false) := by
  unfold awake
  rw [decide_eq_true h0, decide_eq_true h1]
  rfl
theorem imAll_set {K : PySem.W.Frag} {H : Hp} : ∀ {xs : List V} {ds : List PyData} {i : Nat} {x : V} {d : PyData}, ImAll K H xs ds → Im K H x d → ImAll K H (xs.set i x) (ds.set i d)
  | _, _, _, _, _, .nil, _ => .nil
  | _, _, 0, _, _, .cons _ a, h => .cons h a
  | _, _, _ + 1, _, _, .cons h' a, h => .cons h' (imAll_set a h)

section
variable {P : Program} {w : World} {K : PySem.W.Frag} {mg : Str → Option Value} {base : Heap} {C_Model : Addr}
theorem ok_negated_terms {f : Addr} {fd : FuncData} (F : Fun K "negated_terms" "negated_terms" s_negated_terms f fd) (B : Bi K mg C_Model)  : FnOk P w K mg base CX0 1 f fd ["terms"] (spNegT K) := by
  have nd := sc_negated_terms.nd
  refine F.ok sc_negated_terms ?len (fun cdv A outer s H vs Q E hr h => ?body)
  case len =>
    rintro vs H Q E ⟨p, ts, rfl, _⟩
    rfl
  case body =>
    obtain ⟨p, ts, rfl, hI, hl, k⟩ := h
    refine ⟨_, (pss_one (ps_ret (pe_callTy (cgTuple K) (by rfl) B.n_tuple (by decide +kernel) (pa_cons (by exact pe_lc (own := [("v", 1), ("c", 2)]) (g := (gTup K 2 (gCons (gName 1) (gCons (gName 2) gNil)))) (tt := tYes) rfl nd (pi_tup (pv 0)) (blkOk_by (N := ["terms", "v", "c"]) (sc := defScope s_negated_terms) (by decide +kernel)) (fun _ _ _ _ _ => (pg_tup (n := 2) rfl (pgs_cons (pg_name (i := 1) nd rfl (Or.inl rfl)) (pgs_cons (pg_name (i := 2) nd rfl (Or.inl rfl)) pgs_nil)))) (fun _ _ _ _ _ => pts_nil) (fun _ _ _ _ _ => (pe_tup (pa_cons (pv 1) (pa_cons (pe_un un_neg (pv 2)) pa_nil))))) pa_nil)))), ?_⟩
    try dsimp only [L2.cxOf, L2.Cx.nox, L2.Cx.wish]
    rw [st_negated_terms]
    obtain ⟨xs, h1, h2⟩ := hI.open
    walk_at "cg"
    refine lcT_m h1 h2 (fun z => tD (z.1, -z.2)) (by omega) (fun i z x H' R R' hz k2 hx q => ?_) (fun D H' acc hD eD hA k2 => ?_)
    · obtain ⟨px, rfl, hs⟩ := term_at hx
      walk_at "cg"
      exact q _ _ (.tup (by assumption) (.cons (.int _) (.cons (.int _) .nil))) (by walk_at "cg kp")
    · walk_at "cg"
      refine k _ _ (.tup (by assumption) ?_) (by walk_at "cg kp")
      rw [negT, List.map_map]
      exact Kp.imAll (by assumption) hA

theorem ok_rows_of {f : Addr} {fd : FuncData} (F : Fun K "rows_of" "rows_of" s_rows_of f fd) (B : Bi K mg C_Model) (D_negated_terms : Is P w K mg base CX0 1 "negated_terms" ["terms"] (spNegT K)) : FnOk P w K mg base CX0 2 f fd ["terms", "relation", "rhs"] (spRowsOf K) := by
  have nd := sc_rows_of.nd
  refine F.ok sc_rows_of ?len (fun cdv A outer s H vs Q E hr h => ?body)
  case len =>
    rintro vs H Q E ⟨p, ts, r, n, rfl, _⟩
    rfl
  case body =>
    obtain ⟨p, ts, r, n, rfl, hI, hl, k⟩ := h
    refine ⟨_, (pss_cons (ps_set (i := 3) nd rfl (Or.inl rfl) (pe_lst pa_nil))
      (pss_cons (ps_if (pt_cmpR op_ne (pv 1) pe_str (nomark _))
      (pss_one (ps_expr (pe_bm PySem.F.plainAttrs_list PySem.F.slot_list_append PySem.F.type_list_append mt_append (pv 3) (pa_cons (pe_tup (pa_cons pe_str (pa_cons (pv 0) (pa_cons (pv 2) pa_nil)))) pa_nil))))
      pss_nil)
      (pss_cons (ps_if (pt_cmpR op_ne (pv 1) pe_str (nomark _))
      (pss_one (ps_expr (pe_bm PySem.F.plainAttrs_list PySem.F.slot_list_append PySem.F.type_list_append mt_append (pv 3) (pa_cons (pe_tup (pa_cons pe_str (pa_cons (pe_is D_negated_terms (hr.mono (by decide)) rfl pass0 (pa_cons (pv 0) pa_nil)) (pa_cons (pe_un un_neg (pv 2)) pa_nil)))) pa_nil))))
      pss_nil)
      (pss_one (ps_ret (pv 3)))))), ?_⟩
    try dsimp only [L2.cxOf, L2.Cx.nox, L2.Cx.wish]
    rw [st_rows_of]
    cases r
    · walk_at "cg"
      exact k _ _ _ (by assumption) (by assumption) (.cons (.tup (by walk_at "cg h") (.cons (.str _) (.cons (by walk_at "cg h") (.cons (.int _) .nil)))) .nil) (by walk_at "cg kp")
    · walk_at "cg"
      refine ⟨p, ts, rfl, by walk_at "cg h", hl, fun p' H' I' k' => ?_⟩
      walk_at "cg"
      exact k _ _ _ (by assumption) (by assumption) (.cons (.tup (by walk_at "cg h") (.cons (.str _) (.cons (by walk_at "cg h") (.cons (.int _) .nil)))) .nil) (by walk_at "cg kp")
    all_goals
      walk_at "cg"
      refine ⟨p, ts, rfl, by walk_at "cg h", hl, fun p' H' I' k' => ?_⟩
      walk_at "cg"
      exact k _ _ _ (by assumption) (by assumption) (.cons (.tup (by walk_at "cg h") (.cons (.str _) (.cons (by walk_at "cg h") (.cons (.int _) .nil)))) (.cons (.tup (by walk_at "cg h") (.cons (.str _) (.cons (by walk_at "cg h") (.cons (.int _) .nil)))) .nil)) (by walk_at "cg kp")

theorem ok_as_row {f : Addr} {fd : FuncData} (F : Fun K "as_row" "as_row" s_as_row f fd) (B : Bi K mg C_Model)  : FnOk P w K mg base CX0 1 f fd ["fact"] (spAsRow K) := by
  have nd := sc_as_row.nd
  refine F.ok sc_as_row ?len (fun cdv A outer s H vs Q E hr h => ?body)
  case len =>
    rintro vs H Q E ⟨p, f, rfl, _⟩
    rfl
  case body =>
    obtain ⟨p, f, rfl, hf, k⟩ := h
    refine ⟨_, (pss_cons (ps_if (pt_cmpR op_eq (pe_ix (ixT K) (pv 0) pe_int (fun _ _ => rfl)) pe_str (nomark _))
      (pss_one (ps_ret (pv 0)))
      pss_nil)
      (pss_cons (ps_if (pt_cmpR op_ne (pe_callB (cgLen K) (by rfl) B.n_len PySem.boot_len (pa_cons (pe_ix (ixT K) (pv 0) pe_int (fun _ _ => rfl)) pa_nil)) pe_int (nomark _))
      (pss_one (ps_ret pe_non))
      pss_nil)
      (pss_cons (ps_asg (pe_ix (ixT K) (pe_ix (ixT K) (pv 0) pe_int (fun _ _ => rfl)) pe_int (fun _ _ => rfl)) (pg_tup (n := 3) rfl (pgs_cons (pg_name (i := 1) nd rfl (Or.inl rfl)) (pgs_cons (pg_name (i := 2) nd rfl (Or.inl rfl)) (pgs_cons (pg_name (i := 3) nd rfl (Or.inl rfl)) pgs_nil)))))
      (pss_cons (ps_if (pt_cmpR op_eq (pv 2) pe_str (nomark _))
      (pss_one (ps_ret (pe_tup (pa_cons pe_str (pa_cons (pe_tup (pa_cons (pe_tup (pa_cons (pv 1) (pa_cons pe_int pa_nil))) pa_nil)) (pa_cons (pv 3) pa_nil))))))
      pss_nil)
      (pss_cons (ps_if (pt_cmpR op_eq (pv 2) pe_str (nomark _))
      (pss_one (ps_ret (pe_tup (pa_cons pe_str (pa_cons (pe_tup (pa_cons (pe_tup (pa_cons (pv 1) (pa_cons (pe_un un_neg pe_int) pa_nil))) pa_nil)) (pa_cons (pe_un un_neg (pv 3)) pa_nil))))))
      pss_nil)
      (pss_one (ps_ret pe_non))))))), ?_⟩
    try dsimp only [L2.cxOf, L2.Cx.nox, L2.Cx.wish]
    rw [st_as_row]
    cases f with
    | row ts n =>
      obtain ⟨q, s1, i1⟩ := row_open hf
      walk_at "cg"
      exact k _ _ (.some hf) .refl
    | any ls =>
      obtain ⟨q, s1, i1⟩ := any_open hf
      obtain ⟨xs, s2, i2⟩ := Im.open i1
      have hl := mapLenP i2
      match ls, i2, k, hl with
      | [], i2, k, hl =>
        simp only [List.length_nil] at hl
        walk_at "cg"
        exact k _ _ .none .refl
      | l :: l' :: ls, i2, k, hl =>
        simp only [List.length_cons] at hl
        rw [asRow_two] at k
        walk_at "cg"
        exact k _ _ .none .refl
      | [⟨v, r, a⟩], i2, k, hl =>
        cases i2 with
        | cons h1 h2 =>
        cases h2
        obtain ⟨ql, rfl, L⟩ := lit_at h1
        dsimp only at L
        cases r
        · walk_at "cg"
          exact k _ _ (.some (row_mk (by assumption) (.tup (by walk_at "cg h") (.cons (.tup (by walk_at "cg h") (.cons (.int _) (.cons (.int _) .nil))) .nil)))) (by walk_at "cg kp")
        · walk_at "cg"
          exact k _ _ (.some (row_mk (by assumption) (.tup (by walk_at "cg h") (.cons (.tup (by walk_at "cg h") (.cons (.int _) (.cons (.int _) .nil))) .nil)))) (by walk_at "cg kp")
        · walk_at "cg"
          exact k _ _ .none .refl
        · walk_at "cg"
          exact k _ _ .none .refl
theorem ok_literal_implies {f : Addr} {fd : FuncData} (F : Fun K "literal_implies" "literal_implies" s_literal_implies f fd) (B : Bi K mg C_Model) (D_relation_holds : Is P w K mg base CX0 1 "relation_holds" ["relation", "left", "right"] spRel) : FnOk P w K mg base CX0 2 f fd ["first", "second"] (spImp K) := by
  have nd := sc_literal_implies.nd
  refine F.ok sc_literal_implies ?len (fun cdv A outer s H vs Q E hr h => ?body)
  case len =>
    rintro vs H Q E ⟨p, q, v1, r1, n1, v2, r2, n2, rfl, _⟩
    rfl
  case body =>
    obtain ⟨p, q, v1, r1, n1, v2, r2, n2, rfl, L1, L2, k⟩ := h
    refine ⟨_, (pss_cons (ps_if (pt_cmpR op_ne (pe_ix (ixT K) (pv 0) pe_int (fun _ _ => rfl)) (pe_ix (ixT K) (pv 1) pe_int (fun _ _ => rfl)) (nomark _))
      (pss_one (ps_ret pe_bl))
      pss_nil)
      (pss_cons (ps_set (i := 2) nd rfl (Or.inl rfl) (pe_ix (ixT K) (pv 0) pe_int (fun _ _ => rfl)))
      (pss_cons (ps_set (i := 3) nd rfl (Or.inl rfl) (pe_ix (ixT K) (pv 0) pe_int (fun _ _ => rfl)))
      (pss_cons (ps_set (i := 4) nd rfl (Or.inl rfl) (pe_ix (ixT K) (pv 1) pe_int (fun _ _ => rfl)))
      (pss_cons (ps_set (i := 5) nd rfl (Or.inl rfl) (pe_ix (ixT K) (pv 1) pe_int (fun _ _ => rfl)))
      (pss_cons (ps_if (pt_cmpR op_eq (pv 2) pe_str (nomark _))
      (pss_one (ps_ret (pe_is D_relation_holds (hr.mono (by decide)) rfl pass0 (pa_cons (pv 4) (pa_cons (pv 3) (pa_cons (pv 5) pa_nil))))))
      pss_nil)
      (pss_cons (ps_if (pt_cmpR op_eq (pv 2) pe_str (nomark _))
      (pss_one (ps_ret (pe_and (pe_cmpR op_eq (pv 4) pe_str (nomark _)) (pe_one (pe_cmpR op_eq (pv 3) (pv 5) (nomark _))))))
      pss_nil)
      (pss_cons (ps_if (pt_cmpR op_eq (pv 4) (pv 2) (nomark _))
      (pss_one (ps_ret (pe_is D_relation_holds (hr.mono (by decide)) rfl pass0 (pa_cons (pv 2) (pa_cons (pv 3) (pa_cons (pv 5) pa_nil))))))
      pss_nil)
      (pss_cons (ps_if (pt_cmpR op_eq (pv 4) pe_str (nomark _))
      (pss_one (ps_ret (pe_not (pe_is D_relation_holds (hr.mono (by decide)) rfl pass0 (pa_cons (pv 2) (pa_cons (pv 5) (pa_cons (pv 3) pa_nil)))))))
      pss_nil)
      (pss_one (ps_ret pe_bl))))))))))), ?_⟩
    try dsimp only [L2.cxOf, L2.Cx.nox, L2.Cx.wish]
    rw [st_literal_implies]
    walk_at "cg"
    by_cases hv : v1 = v2
    · subst hv
      cases r1 <;> cases r2
      all_goals
        walk_at "cg"
        simp [impB, Rel.h] at k
        first | exact k | (simp [Rel.h]; exact k)
    · walk_at "cg"
      unfold impB at k
      rw [if_neg hv] at k
      exact k
theorem ok_is_contradiction {f : Addr} {fd : FuncData} (F : Fun K "is_contradiction" "is_contradiction" s_is_contradiction f fd) (B : Bi K mg C_Model)  : FnOk P w K mg base CX0 1 f fd ["fact"] (spCon K) := by
  have nd := sc_is_contradiction.nd
  refine F.ok sc_is_contradiction ?len (fun cdv A outer s H vs Q E hr h => ?body)
  case len =>
    rintro vs H Q E ⟨p, f, rfl, _⟩
    rfl
  case body =>
    obtain ⟨p, f, rfl, hf, k⟩ := h
    refine ⟨_, (pss_cons (ps_if (pt_cmpR op_eq (pe_ix (ixT K) (pv 0) pe_int (fun _ _ => rfl)) pe_str (nomark _))
      (pss_one (ps_ret (pe_and (pe_cmpR op_eq (pe_callB (cgLen K) (by rfl) B.n_len PySem.boot_len (pa_cons (pe_ix (ixT K) (pv 0) pe_int (fun _ _ => rfl)) pa_nil)) pe_int (nomark _)) (pe_one (pe_cmpR op_lt (pe_ix (ixT K) (pv 0) pe_int (fun _ _ => rfl)) pe_int (nomark _))))))
      pss_nil)
      (pss_one (ps_ret (pe_cmpR op_eq (pe_callB (cgLen K) (by rfl) B.n_len PySem.boot_len (pa_cons (pe_ix (ixT K) (pv 0) pe_int (fun _ _ => rfl)) pa_nil)) pe_int (nomark _))))), ?_⟩
    try dsimp only [L2.cxOf, L2.Cx.nox, L2.Cx.wish]
    rw [st_is_contradiction]
    cases f with
    | row ts n =>
      obtain ⟨q, s1, i1⟩ := row_open hf
      obtain ⟨xs, s2, i2⟩ := Im.open i1
      have hl := mapLenP i2
      have e : decide ((xs.length : Int) = 0) = ts.isEmpty := by
        rw [hl]
        cases ts <;> simp <;> omega
      walk_at "cg"
      rw [e]
      refine if_B (fun e1 => ?_) (fun e1 => ?_)
      · walk_at "cg"
        simp only [Fact.isCon, e1, Bool.true_and] at k
        exact k
      · walk_at "cg"
        simp only [Fact.isCon, e1, Bool.false_and] at k
        exact k
    | any ls =>
      obtain ⟨q, s1, i1⟩ := any_open hf
      obtain ⟨xs, s2, i2⟩ := Im.open i1
      have hl := mapLenP i2
      have e : decide ((xs.length : Int) = 0) = ls.isEmpty := by
        rw [hl]
        cases ls <;> simp <;> omega
      walk_at "cg"
      rw [e]
      exact k
theorem ok_literals_imply {f : Addr} {fd : FuncData} (F : Fun K "literals_imply" "literals_imply" s_literals_imply f fd) (B : Bi K mg C_Model) (D_as_literal : Is P w K mg base CX0 1 "as_literal" ["fact"] (spAsLit K)) (D_literal_implies : Is P w K mg base CX0 2 "literal_implies" ["first", "second"] (spImp K)) : FnOk P w K mg base CX0 3 f fd ["first", "second"] (spImpl K litsImp) := by
  have nd := sc_literals_imply.nd
  refine F.ok sc_literals_imply ?len (fun cdv A outer s H vs Q E hr h => ?body)
  case len =>
    rintro vs H Q E ⟨p, q, f, g, m, rfl, _⟩
    rfl
  case body =>
    obtain ⟨p, q, f, g, m, rfl, hf, hg, okf, okg, k⟩ := h
    refine ⟨_, (pss_cons (ps_set (i := 2) nd rfl (Or.inr rfl) (pe_is D_as_literal (hr.mono (by decide)) rfl pass0 (pa_cons (pv 0) pa_nil)))
      (pss_cons (ps_if (pt_cmpR cg_isN (pv 2) pe_non (nomark _))
      (pss_one (ps_ret pe_bl))
      pss_nil)
      (pss_cons (ps_if (pt_cmpR op_eq (pe_ix (ixT K) (pv 1) pe_int (fun _ _ => rfl)) pe_str (nomark _))
      (pss_one (ps_ret (pe_callB (cr_any rfl) (by rfl) B.n_any (by decide +kernel) (pa_cons (by exact pe_lc (own := [("other", 3)]) (g := (gName 3)) (tt := tYes) rfl nd (pi_tup (pe_ix (ixT K) (pv 1) pe_int (fun _ _ => rfl))) (blkOk_by (N := ["first", "second", "literal", "other"]) (sc := defScope s_literals_imply) (by decide +kernel)) (fun _ _ _ _ _ => (pg_name (i := 3) nd rfl (Or.inl rfl))) (fun _ _ _ _ _ => pts_nil) (fun _ _ _ _ _ => (pe_is D_literal_implies (hr.mono (by decide)) rfl pass0 (pa_cons (pv 2) (pa_cons (pv 3) pa_nil))))) pa_nil))))
      pss_nil)
      (pss_cons (ps_set (i := 3) nd rfl (Or.inl rfl) (pe_is D_as_literal (hr.mono (by decide)) rfl pass0 (pa_cons (pv 1) pa_nil)))
      (pss_one (ps_ret (pe_and (pe_cmpR cg_notN (pv 3) pe_non (nomark _)) (pe_one (pe_is D_literal_implies (hr.mono (by decide)) rfl pass0 (pa_cons (pv 2) (pa_cons (pv 3) pa_nil))))))))))), ?_⟩
    try dsimp only [L2.cxOf, L2.Cx.nox, L2.Cx.wish]
    rw [st_literals_imply]
    walk_at "cg"
    refine ⟨p, f, m, rfl, hf, okf, fun x H1 L1 k1 => ?_⟩
    cases e1 : f.asLit with
    | none =>
      rw [e1] at L1
      rw [litsImp_none e1] at k
      cases L1
      walk_at "cg"
      exact k _ k1
    | some l =>
      rw [e1] at L1
      cases L1 with
      | some L1 =>
      rename_i pl
      cases g with
      | any ms =>
        rw [litsImp_any e1] at k
        obtain ⟨qm, s1, i1⟩ := any_open (k1.im hg)
        obtain ⟨xs, s2, i2⟩ := Im.open i1
        have hln := mapLenP i2
        have hm := okg.2
        walk_at "cg"
        refine r_lcT xs (fun D i H' => Kp [] H1 H' ∧ H1 D = none ∧ H' D = some (.lst (((ms.take i).map fun m => impL l m).map V.bl))) (fun D H2 hD e2 k2 => ⟨k2, hD, e2⟩) (fun D i H' ⟨k2, _⟩ => k2.tup s2) ?_ ?_
        · rintro D i x H' hx ⟨k2, hD, eD⟩
          obtain ⟨m', hm', hxm⟩ := mapGetP i2 hx
          obtain ⟨qx, rfl, Lx⟩ := lit_at hxm
          walk_at "cg"
          refine spImp_i (by walk_at "cg h") (by walk_at "cg h") ?_
          walk_at "cg"
          have hi : i < ms.length := (List.getElem?_eq_some_iff.mp hm').1
          refine r_ap (by walk_at "cg h") (small1000 (by simp; omega)) fun H4 e4 k4 => ?_
          refine ⟨by walk_at "cg kp", hD, ?_⟩
          rw [e4, map_take_snoc hm', List.map_append]
          rfl
        · rintro D H' ⟨k2, hD, eD⟩
          walk_at "cg"
          refine r_any eD ?_
          rw [hln, List.take_length]
          exact k _ (by walk_at "cg kp")
      | row ts n =>
        rw [litsImp_row e1] at k
        have hg1 := k1.im hg
        obtain ⟨qm, s1, i1⟩ := row_open hg1
        walk_at "cg"
        refine ⟨q, _, m, rfl, hg1, okg, fun x H2 L2 k2 => ?_⟩
        cases e2 : (Fact.row ts n).asLit with
        | none =>
          rw [e2] at L2 k
          cases L2
          walk_at "cg"
          exact k _ (by walk_at "cg kp")
        | some l2 =>
          rw [e2] at L2 k
          cases L2 with
          | some L2 =>
          walk_at "cg"
          refine spImp_i (by walk_at "cg h") (by walk_at "cg h") ?_
          exact k _ (by walk_at "cg kp")
theorem ok_implies {f : Addr} {fd : FuncData} (F : Fun K "implies" "implies" s_implies f fd) (B : Bi K mg C_Model) (D_is_contradiction : Is P w K mg base CX0 1 "is_contradiction" ["fact"] (spCon K)) (D_literals_imply : Is P w K mg base CX0 3 "literals_imply" ["first", "second"] (spImpl K litsImp)) (D_as_row : Is P w K mg base CX0 1 "as_row" ["fact"] (spAsRow K)) : FnOk P w K mg base CX0 4 f fd ["first", "second"] (spImpl K implF) := by
  have nd := sc_implies.nd
  refine F.ok sc_implies ?len (fun cdv A outer s H vs Q E hr h => ?body)
  case len =>
    rintro vs H Q E ⟨p, q, f, g, m, rfl, _⟩
    rfl
  case body =>
    obtain ⟨p, q, f, g, m, rfl, hf, hg, okf, okg, k⟩ := h
    refine ⟨_, (pss_cons (ps_if (pt_val (pe_is D_is_contradiction (hr.mono (by decide)) rfl pass0 (pa_cons (pv 0) pa_nil)))
      (pss_one (ps_ret pe_bl))
      pss_nil)
      (pss_cons (ps_if (pt_cmpR op_eq (pe_ix (ixT K) (pv 1) pe_int (fun _ _ => rfl)) pe_str (nomark _))
      (pss_cons (ps_set (i := 2) nd rfl (Or.inl rfl) (pe_is D_as_row (hr.mono (by decide)) rfl pass0 (pa_cons (pv 0) pa_nil)))
      (pss_one (ps_if (PW.pt (pw_and (pt_cmpR cg_notN (pv 2) pe_non (nomark _)) (pw_and (pt_cmpR (eqD K hr) (pe_ix (ixT K) (pv 2) pe_int (fun _ _ => rfl)) (pe_ix (ixT K) (pv 1) pe_int (fun _ _ => rfl)) (nomark _)) (pw_and1 (pt_cmpR op_le (pe_ix (ixT K) (pv 2) pe_int (fun _ _ => rfl)) (pe_ix (ixT K) (pv 1) pe_int (fun _ _ => rfl)) (nomark _))))))
      (pss_one (ps_ret pe_bl))
      pss_nil)))
      (pss_one (ps_if (PW.pt (pw_and (pt_cmpR op_eq (pe_ix (ixT K) (pv 0) pe_int (fun _ _ => rfl)) pe_str (nomark _)) (pw_and1 (pt_val (pe_callB (cr_all rfl) (by rfl) B.n_all (by decide +kernel) (pa_cons (by exact pe_lc (own := [("literal", 3)]) (g := (gName 3)) (tt := tYes) rfl nd (pi_tup (pe_ix (ixT K) (pv 0) pe_int (fun _ _ => rfl))) (blkOk_by (N := ["first", "second", "row", "literal"]) (sc := defScope s_implies) (by decide +kernel)) (fun _ _ _ _ _ => (pg_name (i := 3) nd rfl (Or.inl rfl))) (fun _ _ _ _ _ => pts_nil) (fun _ _ _ _ _ => (pe_cmpR (inDT K hr) (pv 3) (pe_ix (ixT K) (pv 1) pe_int (fun _ _ => rfl)) rfl))) pa_nil))))))
      (pss_one (ps_ret pe_bl))
      pss_nil)))
      (pss_one (ps_ret (pe_is D_literals_imply (hr.mono (by decide)) rfl pass0 (pa_cons (pv 0) (pa_cons (pv 1) pa_nil))))))), ?_⟩
    try dsimp only [L2.cxOf, L2.Cx.nox, L2.Cx.wish]
    rw [st_implies]
    walk_at "cg"
    refine ⟨p, f, rfl, hf, ?_⟩
    walk_at "cg"
    have fin : ∀ H', Kp [] H H' → midF f g = false → f.isCon = false → spImpl K litsImp [.ref p, .ref q] H' Q E0 := fun H' k1 e1 e2 => by
      refine ⟨p, q, f, g, m, rfl, k1.im hf, k1.im hg, okf, okg, fun H2 k2 => ?_⟩
      have q := k H2 (by walk_at "cg kp")
      rw [implF, e2, e1, Bool.false_or, Bool.false_or] at q
      exact q
    have fin2 : ∀ H', Kp [] H H' → midF f g = true → Q (.bl true) H' := fun H' k1 e1 => by
      have q := k H' k1
      rw [implF, e1, Bool.true_or, Bool.or_true] at q
      exact q
    refine if_B (fun e0 => ?_) (fun e0 => ?_)
    · walk_at "cg"
      have q := k H .refl
      rw [implF, e0, Bool.true_or] at q
      exact q
    · cases g with
      | row ts n =>
        obtain ⟨qg, sg, ig⟩ := row_open hg
        walk_at "cg"
        refine ⟨p, f, rfl, hf, fun x H1 R1 k1 => ?_⟩
        cases e1 : f.asRow with
        | none =>
          rw [e1] at R1
          cases R1
          walk_at "cg"
          exact fin _ (by walk_at "cg kp") (by simp [midF, e1]) e0
        | some z =>
          obtain ⟨us, n1⟩ := z
          rw [e1] at R1
          cases R1 with
          | some R1 =>
          obtain ⟨qr, sr, ir⟩ := row_open R1
          walk_at "cg"
          refine ⟨tmD us, tmD ts, ir.dp, Im.dp (by walk_at "cg h"), (tmD_shp _).ok, (tmD_shp _).ok, ?_⟩
          rw [tmD_eqv]
          walk_at "cg"
          refine if_S (fun e2 => ?_) (fun e2 => ?_)
          · walk_at "cg"
            refine if_S (fun e3 => ?_) (fun e3 => ?_)
            · walk_at "cg"
              exact fin2 _ (by walk_at "cg kp") (by simp [midF, e1, e2, e3])
            · walk_at "cg"
              exact fin _ (by walk_at "cg kp") (by simp [midF, e1, e3]) e0
          · walk_at "cg"
            exact fin _ (by walk_at "cg kp") (by simp [midF, e1, e2]) e0
      | any ms =>
        obtain ⟨qg, sg, ig⟩ := any_open hg
        walk_at "cg"
        cases f with
        | row us n1 =>
          obtain ⟨qf, sf, jf⟩ := row_open hf
          walk_at "cg"
          exact fin _ (by walk_at "cg kp") rfl e0
        | any ls =>
          obtain ⟨qf, sf, jf⟩ := any_open hf
          obtain ⟨xs, s2, i2⟩ := Im.open jf
          have hln := mapLenP i2
          have hm := okf.2
          walk_at "cg"
          refine r_lcT xs (fun D i H' => Kp [] H H' ∧ H D = none ∧ H' D = some (.lst (((ls.take i).map fun l => decide (l ∈ ms)).map V.bl))) (fun D H2 hD e2 k2 => ⟨k2, hD, e2⟩) (fun D i H' ⟨k2, _⟩ => k2.tup s2) ?_ ?_
          · rintro D i x H' hx ⟨k2, hD, eD⟩
            obtain ⟨l, hl', hxm⟩ := mapGetP i2 hx
            walk_at "cg"
            refine ⟨l.d, ms.map Lit.d, Im.dp (k2.im hxm), Im.dp (k2.im ig), (Lit.shp l).ok, (litsD_shp ms).ok, ?_⟩
            have e5 : ((ms.map Lit.d).any fun z => PyData.eqv z l.d) = decide (l ∈ ms) := by
              rw [List.any_map]
              have e6 : ((fun z => PyData.eqv z l.d) ∘ Lit.d) = fun m => decide (m = l) := by
                funext m
                exact Lit.eqv m l
              rw [e6, Bool.eq_iff_iff]
              simp
            rw [e5]
            walk_at "cg"
            have hi : i < ls.length := (List.getElem?_eq_some_iff.mp hl').1
            refine r_ap (by walk_at "cg h") (small1000 (by simp; omega)) fun H4 e4 k4 => ?_
            refine ⟨by walk_at "cg kp", hD, ?_⟩
            rw [e4, map_take_snoc hl', List.map_append]
            rfl
          · rintro D H' ⟨k2, hD, eD⟩
            walk_at "cg"
            refine r_all eD ?_
            rw [hln, List.take_length]
            walk_at "cg"
            have e5 : midF (.any ls) (.any ms) = (ls.map fun l => decide (l ∈ ms)).all id := by
              simp only [midF, List.all_map]
              rfl
            refine if_B (fun e6 => ?_) (fun e6 => ?_)
            · walk_at "cg"
              exact fin2 _ (by walk_at "cg kp") (by rw [e5, e6])
            · walk_at "cg"
              exact fin _ (by walk_at "cg kp") (by rw [e5, e6]) e0

theorem ok_negated {f : Addr} {fd : FuncData} (F : Fun K "negated" "negated" s_negated f fd) (B : Bi K mg C_Model)  : FnOk P w K mg base CX0 1 f fd ["literal"] (spNeg K) := by
  have nd := sc_negated.nd
  refine F.ok sc_negated ?len (fun cdv A outer s H vs Q E hr h => ?body)
  case len =>
    rintro vs H Q E ⟨p, v, r, a, rfl, _⟩
    rfl
  case body =>
    obtain ⟨p, v, r, a, rfl, hL, q⟩ := h
    refine ⟨_, (pss_cons (ps_asg (pv 0) (pg_tup (n := 3) rfl (pgs_cons (pg_name (i := 1) nd rfl (Or.inl rfl)) (pgs_cons (pg_name (i := 2) nd rfl (Or.inl rfl)) (pgs_cons (pg_name (i := 3) nd rfl (Or.inl rfl)) pgs_nil)))))
      (pss_cons (ps_if (pt_cmpR op_eq (pv 2) pe_str (nomark _))
      (pss_one (ps_ret (pe_tup (pa_cons (pv 1) (pa_cons pe_str (pa_cons (pe_op op_add (pv 3) pe_int) pa_nil))))))
      pss_nil)
      (pss_cons (ps_if (pt_cmpR op_eq (pv 2) pe_str (nomark _))
      (pss_one (ps_ret (pe_tup (pa_cons (pv 1) (pa_cons pe_str (pa_cons (pe_op op_sub (pv 3) pe_int) pa_nil))))))
      pss_nil)
      (pss_cons (ps_if (pt_cmpR op_eq (pv 2) pe_str (nomark _))
      (pss_one (ps_ret (pe_tup (pa_cons (pv 1) (pa_cons pe_str (pa_cons (pv 3) pa_nil))))))
      pss_nil)
      (pss_one (ps_ret (pe_tup (pa_cons (pv 1) (pa_cons pe_str (pa_cons (pv 3) pa_nil)))))))))), ?_⟩
    try dsimp only [L2.cxOf, L2.Cx.nox, L2.Cx.wish]
    rw [st_negated]
    cases r
    all_goals
      walk_at "cg"
      exact q _ _ (by assumption) (by walk_at "cg kp")

theorem ok_negation {f : Addr} {fd : FuncData} (F : Fun K "negation" "negation" s_negation f fd) (B : Bi K mg C_Model) (D_negated_terms : Is P w K mg base CX0 1 "negated_terms" ["terms"] (spNegT K)) (D_negated : Is P w K mg base CX0 1 "negated" ["literal"] (spNeg K)) : FnOk P w K mg base CX0 2 f fd ["fact"] (spNegF K) := by
  have nd := sc_negation.nd
  refine F.ok sc_negation ?len (fun cdv A outer s H vs Q E hr h => ?body)
  case len =>
    rintro vs H Q E ⟨p, f, rfl, _⟩
    rfl
  case body =>
    obtain ⟨p, f, rfl, hf, few, k⟩ := h
    refine ⟨_, (pss_cons (ps_if (pt_cmpR op_eq (pe_ix (ixT K) (pv 0) pe_int (fun _ _ => rfl)) pe_str (nomark _))
      (pss_one (ps_ret (pe_tup (pa_cons pe_str (pa_cons (pe_is D_negated_terms (hr.mono (by decide)) rfl pass0 (pa_cons (pe_ix (ixT K) (pv 0) pe_int (fun _ _ => rfl)) pa_nil)) (pa_cons (pe_op op_sub (pe_un un_neg (pe_ix (ixT K) (pv 0) pe_int (fun _ _ => rfl))) pe_int) pa_nil))))))
      pss_nil)
      (pss_cons (ps_if (pt_cmpR op_ne (pe_callB (cgLen K) (by rfl) B.n_len PySem.boot_len (pa_cons (pe_ix (ixT K) (pv 0) pe_int (fun _ _ => rfl)) pa_nil)) pe_int (nomark _))
      (pss_one (ps_ret pe_non))
      pss_nil)
      (pss_one (ps_ret (pe_tup (pa_cons pe_str (pa_cons (pe_tup (pa_cons (pe_is D_negated (hr.mono (by decide)) rfl pass0 (pa_cons (pe_ix (ixT K) (pe_ix (ixT K) (pv 0) pe_int (fun _ _ => rfl)) pe_int (fun _ _ => rfl)) pa_nil)) pa_nil)) pa_nil))))))), ?_⟩
    try dsimp only [L2.cxOf, L2.Cx.nox, L2.Cx.wish]
    rw [st_negation]
    cases f with
    | row ts n =>
      obtain ⟨q, s1, i1⟩ := row_open hf
      walk_at "cg"
      refine ⟨q, ts, rfl, i1, few ts n rfl, fun p2 H2 I2 k2 => ?_⟩
      walk_at "cg"
      exact k _ _ (.some (f := .row (negT ts) (-n - 1)) (row_mk (by assumption) (by walk_at "cg h"))) (by walk_at "cg kp")
    | any ls =>
      obtain ⟨q, s1, i1⟩ := any_open hf
      obtain ⟨xs, s2, i2⟩ := Im.open i1
      have hl := mapLenP i2
      match ls, i2, k, hl with
      | [], i2, k, hl =>
        simp only [List.length_nil] at hl
        walk_at "cg"
        exact k _ _ .none .refl
      | l :: l' :: ls, i2, k, hl =>
        simp only [List.length_cons] at hl
        rw [ngt_two] at k
        walk_at "cg"
        exact k _ _ .none .refl
      | [l], i2, k, hl =>
        cases i2 with
        | cons h1 h2 =>
        cases h2
        obtain ⟨ql, rfl, L⟩ := lit_at h1
        walk_at "cg"
        refine ⟨ql, l.v, l.r, l.a, rfl, L, fun p3 H3 L3 k3 => ?_⟩
        walk_at "cg"
        rename_i p4 H4 hp4 s4 k4 p5 H5 hp5 s5 k5
        exact k _ _ (.some (f := .any [l.ngt]) (any_mk s5 (.tup (k5.tup s4) (.cons (lit_mk (k5.tup (k4.tup L3))) .nil)))) (by walk_at "cg kp")
theorem ok_Model_body {f : Addr} {fd : FuncData} (F : Fun K "body" "Model.body" s_Model_body f fd) (B : Bi K mg C_Model)  : FnOk P w K mg base CX0 1 f fd ["self", "label"] (spBody K C_Model) := by
  have nd := sc_Model_body.nd
  refine F.ok sc_Model_body ?len (fun cdv A outer s H vs Q E hr h => ?body)
  case len =>
    rintro vs H Q E ⟨a, M, x, b, rfl, _⟩
    rfl
  case body =>
    obtain ⟨a, M, x, b, rfl, hM, nd9, hm, k⟩ := h
    refine ⟨_, (pss_cons (ps_if (pt_cmp (pc_dnotin (hu_of hr) (pv 1) (pe_fld (pv 0) rfl)))
      (pss_one ps_never)
      pss_nil)
      (pss_one (ps_ret (pe_dget (hu_of hr) (pe_fld (pv 0) rfl) (pv 1) (fun _ _ => rfl))))), ?_⟩
    try dsimp only [L2.cxOf, L2.Cx.nox, L2.Cx.wish]
    rw [st_Model_body]
    have c := B.cl_Model
    have a4 := B.at_Model__bodies
    obtain ⟨dx, fs, g, h1, h2, h3⟩ := hM.ob
    have l4 := h2.bo
    obtain ⟨kvs, h4, h5, h6⟩ := hM.bo
    obtain ⟨i, hi⟩ := List.getElem?_of_mem hm
    have hkl : kvs.length = M.bs.length := by
      have := congrArg List.length h5
      simpa using this
    have hil := (List.getElem?_eq_some_iff.mp hi).1
    obtain ⟨kv, hkv⟩ : ∃ kv, kvs[i]? = some kv := ⟨_, List.getElem?_eq_getElem (by omega)⟩
    have e1 : kv.1 = Sum.inr x := by
      have := congrArg (fun l => l[i]?) h5
      simp only [List.getElem?_map, hkv, hi, Option.map_some] at this
      exact Option.some.inj this
    obtain ⟨y, hy, hb⟩ := h6.get (i := i) (x := kv.2) (by rw [List.getElem?_map, hkv]; rfl)
    rw [List.getElem?_map, hi] at hy
    cases hy
    obtain ⟨p, e2, hp⟩ := body_at hb
    have hv : valV kvs (Sum.inr x) = some (.ref p) := valV_at (i := i) (by
      rw [show kvs.map (·.1) = kvs.map (fun z => z.1) from rfl, h5, show M.bs.map (fun b => (Sum.inr b.1 : Key)) = (M.bs.map (·.1)).map Sum.inr by rw [List.map_map]; rfl]
      exact List.Pairwise.map _ (fun a b h e => h (Sum.inr.inj e)) nd9) (by rw [hkv, ← e1, ← e2])
    walk_at "cg"
    refine r_notInDk1 (k := Sum.inr x) h4 hv ?_
    walk_at "cg"
    refine r_getD (k := Sum.inr x) h4 hv ?_
    exact k p hp
theorem ok_follows_given {f : Addr} {fd : FuncData} (F : Fun K "follows_given" "follows_given" s_follows_given f fd) (B : Bi K mg C_Model) (D_rows_of : Is P w K mg base CX0 2 "rows_of" ["terms", "relation", "rhs"] (spRowsOf K)) : FnOk P w K mg base CX0 3 f fd ["body", "fact"] (spGiven K) := by
  have nd := sc_follows_given.nd
  refine F.ok sc_follows_given ?len (fun cdv A outer s H vs Q E hr h => ?body)
  case len =>
    rintro vs H Q E ⟨p, q, b, f, rfl, _⟩
    rfl
  case body =>
    obtain ⟨p, q, b, f, rfl, hb, bd, hf, k⟩ := h
    refine ⟨_, (pss_cons (ps_if (pt_cmpR op_eq (pe_ix (ixT K) (pv 0) pe_int (fun _ _ => rfl)) pe_str (nomark _))
      (pss_one (ps_ret (pe_cmpR (inDL K hr) (pv 1) (pe_is D_rows_of (hr.mono (by decide)) rfl pass0 (pa_cons (pe_ix (ixT K) (pv 0) pe_int (fun _ _ => rfl)) (pa_cons (pe_ix (ixT K) (pv 0) pe_int (fun _ _ => rfl)) (pa_cons (pe_ix (ixT K) (pv 0) pe_int (fun _ _ => rfl)) pa_nil)))) rfl)))
      pss_nil)
      (pss_one (ps_ret (pe_and (pe_cmpR op_eq (pe_ix (ixT K) (pv 0) pe_int (fun _ _ => rfl)) pe_str (nomark _)) (pe_one (pe_cmpR (eqD K hr) (pv 1) (pe_tup (pa_cons pe_str (pa_cons (pe_ix (ixT K) (pv 0) pe_int (fun _ _ => rfl)) pa_nil))) (nomark _))))))), ?_⟩
    try dsimp only [L2.cxOf, L2.Cx.nox, L2.Cx.wish]
    rw [st_follows_given]
    cases b with
    | row ts r n =>
      obtain ⟨q1, s1, i1⟩ := b_row hb
      walk_at "cg"
      refine ⟨q1, ts, r, n, rfl, i1, by have := bd.2; omega, fun l refs H1 hl el hA k1 => ?_⟩
      refine r_inF (k1.im hf) el hA ?_
      exact k _ k1
    | any ls =>
      obtain ⟨q1, s1, i1⟩ := b_any hb
      walk_at "cg"
      rename_i p2 H2 hp2 s2 k2
      refine r_eqF (b := .any ls) (k2.im hf) (any_mk s2 (k2.im i1)) ?_
      exact k _ k2
    | when l ts r n =>
      obtain ⟨q1, q2, s1, L, i1⟩ := b_when hb
      walk_at "cg"
      exact k _ .refl
    | diff us =>
      obtain ⟨q1, s1, s2⟩ := b_diff hb
      walk_at "cg"
      exact k _ .refl
    | table us rows =>
      obtain ⟨q1, q2, s1, s2, i2⟩ := b_table hb
      walk_at "cg"
      exact k _ .refl
    | elem x es y =>
      obtain ⟨q1, s1, s2⟩ := b_elem hb
      walk_at "cg"
      exact k _ .refl
    | times x y z =>
      have s1 := b_times hb
      walk_at "cg"
      exact k _ .refl

theorem ok_follows_bound {f : Addr} {fd : FuncData} (F : Fun K "follows_bound" "follows_bound" s_follows_bound f fd) (B : Bi K mg C_Model) (D_Model_high : IsM P w K mg base CX0 2 C_Model "high" ["self", "v"] (spHigh K C_Model)) (D_Model_many : IsM P w K mg base CX0 1 C_Model "many" ["self"] (spMany K C_Model)) (D_Model_low : IsM P w K mg base CX0 2 C_Model "low" ["self", "v"] (spLow K C_Model)) : FnOk P w K mg base CX0 3 f fd ["model", "fact", "v"] (spBound K C_Model) := by
  have nd := sc_follows_bound.nd
  obtain ⟨f_Model_high, fd_Model_high, G_Model_high, m_Model_high, b_Model_high⟩ := D_Model_high.ex
  obtain ⟨f_Model_many, fd_Model_many, G_Model_many, m_Model_many, b_Model_many⟩ := D_Model_many.ex
  obtain ⟨f_Model_low, fd_Model_low, G_Model_low, m_Model_low, b_Model_low⟩ := D_Model_low.ex
  refine F.ok sc_follows_bound ?len (fun cdv A outer s H vs Q E hr h => ?body)
  case len =>
    rintro vs H Q E ⟨a, M, p, f, v, rfl, _⟩
    rfl
  case body =>
    obtain ⟨a, M, p, f, v, rfl, hM, h60, hf, k⟩ := h
    refine ⟨_, (pss_cons (ps_if (PW.pt (pw_or (pt_cmpR op_ne (pe_ix (ixT K) (pv 1) pe_int (fun _ _ => rfl)) pe_str (nomark _)) (pw_or1 (pt_not (pt_chain op_le op_lt pe_int (pv 2) (pe_meth0 (pv 0) D_Model_many.cl m_Model_many G_Model_many (hr.mono (by decide)) b_Model_many .nil pass0))))))
      (pss_one (ps_ret pe_bl))
      pss_nil)
      (pss_cons (ps_if (pt_cmpR (eqD K hr) (pe_ix (ixT K) (pv 1) pe_int (fun _ _ => rfl)) (pe_tup (pa_cons (pe_tup (pa_cons (pv 2) (pa_cons pe_int pa_nil))) pa_nil)) (nomark _))
      (pss_one (ps_ret (pe_cmpR op_ge (pe_ix (ixT K) (pv 1) pe_int (fun _ _ => rfl)) (pe_meth (pv 0) D_Model_high.cl m_Model_high G_Model_high (hr.mono (by decide)) b_Model_high .nil pass0 (pa_cons (pv 2) pa_nil)) (nomark _))))
      pss_nil)
      (pss_one (ps_ret (pe_and (pe_cmpR (eqD K hr) (pe_ix (ixT K) (pv 1) pe_int (fun _ _ => rfl)) (pe_tup (pa_cons (pe_tup (pa_cons (pv 2) (pa_cons (pe_un un_neg pe_int) pa_nil))) pa_nil)) (nomark _)) (pe_one (pe_cmpR op_ge (pe_ix (ixT K) (pv 1) pe_int (fun _ _ => rfl)) (pe_un un_neg (pe_meth (pv 0) D_Model_low.cl m_Model_low G_Model_low (hr.mono (by decide)) b_Model_low .nil pass0 (pa_cons (pv 2) pa_nil))) (nomark _)))))))), ?_⟩
    try dsimp only [L2.cxOf, L2.Cx.nox, L2.Cx.wish]
    rw [st_follows_bound]
    cases f with
    | any ls =>
      obtain ⟨q, s1, i1⟩ := any_open hf
      walk_at "cg"
      exact k _ .refl
    | row ts n =>
      obtain ⟨q, s1, i1⟩ := row_open hf
      have kf : boundB M v (.row ts n) = ((decide (0 ≤ v) && decide (v < M.us.length)) && (if ts = [(v, 1)] then decide (n ≥ at_ (highQ M.us) v) else (decide (ts = [(v, -1)]) && decide (n ≥ -at_ (lowQ M.us) v)))) := rfl
      walk_at "cg"
      refine if_S (fun g0 => ?_) (fun g0 => ?_)
      · walk_at "cg"
        refine ⟨a, M, rfl, hM, h60, ?_⟩
        walk_at "cg"
        refine if_NS (fun g1 => ?_) (fun g1 => ?_)
        · walk_at "cg"
          have q2 := k H .refl
          rw [kf, decide_eq_false g1, Bool.and_false, Bool.false_and] at q2
          exact q2
        · rw [decide_eq_true g0, decide_eq_true g1, Bool.and_self, Bool.true_and] at kf
          obtain ⟨u, hu⟩ : ∃ u, M.us[v.toNat]? = some u := ⟨_, List.getElem?_eq_getElem (by omega)⟩
          have el := lhAt_lo hu
          have eh := lhAt_hi hu
          walk_at "cg"
          rename_i q3 H3 hq3 s3 k3 q4 H4 hq4 s4 k4
          refine r_eqTm (a := ts) (b := [(v, 1)]) (by walk_at "cg h") (tms1 s4 (by walk_at "cg h")) ?_
          have K4 := Kp.tr0 k4 k3
          have M4 := hM.kp0 K4
          have s14 := K4.tup s1
          have i14 := K4.im i1
          clear k3 k4 s3 s4
          walk_at "cg"
          refine if_S (fun g2 => ?_) (fun g2 => ?_)
          · walk_at "cg"
            refine ⟨a, M, v, u, rfl, M4, h60, g0, hu, ?_⟩
            walk_at "cg"
            have q2 := k H4 K4
            rw [kf, if_pos g2, eh] at q2
            exact q2
          · rw [if_neg g2] at kf
            walk_at "cg"
            rename_i q5 H5 hq5 s5 k5 q6 H6 hq6 s6 k6
            refine r_eqTm (a := ts) (b := [(v, -1)]) (by walk_at "cg h") (tms1 s6 (by walk_at "cg h")) ?_
            have K6 := Kp.tr0 k6 (Kp.tr0 k5 K4)
            have M6 := hM.kp0 K6
            have s16 := K6.tup s1
            clear k5 k6 s5 s6
            have q2 := k H6 K6
            rw [kf, el] at q2
            walk_at "cg"
            refine if_S (fun g3 => ?_) (fun g3 => ?_)
            · rw [decide_eq_true g3, Bool.true_and] at q2
              walk_at "cg"
              refine ⟨a, M, v, u, rfl, M6, h60, g0, hu, ?_⟩
              walk_at "cg"
              exact q2
            · rw [decide_eq_false g3, Bool.false_and] at q2
              walk_at "cg"
              exact q2
      · walk_at "cg"
        have q2 := k H .refl
        rw [kf, decide_eq_false g0, Bool.false_and, Bool.false_and] at q2
        exact q2

theorem ok_follows_divide {f : Addr} {fd : FuncData} (F : Fun K "follows_divide" "follows_divide" s_follows_divide f fd) (B : Bi K mg C_Model) (D_as_row : Is P w K mg base CX0 1 "as_row" ["fact"] (spAsRow K)) : FnOk P w K mg base CX0 2 f fd ["fact", "premise", "d"] (spDivide K) := by
  have nd := sc_follows_divide.nd
  refine F.ok sc_follows_divide ?len (fun cdv A outer s H vs Q E hr h => ?body)
  case len =>
    rintro vs H Q E ⟨p, q, f, pr, d, m, rfl, _⟩
    rfl
  case body =>
    obtain ⟨p, q, f, pr, d, m, rfl, hf, hp, ok, dm, k⟩ := h
    refine ⟨_, (pss_cons (ps_set (i := 3) nd rfl (Or.inl rfl) (pe_is D_as_row (hr.mono (by decide)) rfl pass0 (pa_cons (pv 1) pa_nil)))
      (pss_cons (ps_if (PW.pt (pw_or (pt_cmpR cg_isN (pv 3) pe_non (nomark _)) (pw_or (pt_cmpR op_lt (pv 2) pe_int (nomark _)) (pw_or1 (pt_cmpR op_ne (pe_ix (ixT K) (pv 0) pe_int (fun _ _ => rfl)) pe_str (nomark _))))))
      (pss_one (ps_ret pe_bl))
      pss_nil)
      (pss_cons (ps_if (pt_not (pt_val (pe_callB (cr_all rfl) (by rfl) B.n_all (by decide +kernel) (pa_cons (by exact pe_lc (own := [("v", 5), ("c", 6)]) (g := (gTup K 2 (gCons (gName 5) (gCons (gName 6) gNil)))) (tt := tYes) rfl nd (pi_tup (pe_ix (ixT K) (pv 3) pe_int (fun _ _ => rfl))) (blkOk_by (N := ["fact", "premise", "d", "row", "terms", "v", "c"]) (sc := defScope s_follows_divide) (by decide +kernel)) (fun _ _ _ _ _ => (pg_tup (n := 2) rfl (pgs_cons (pg_name (i := 5) nd rfl (Or.inl rfl)) (pgs_cons (pg_name (i := 6) nd rfl (Or.inl rfl)) pgs_nil)))) (fun _ _ _ _ _ => pts_nil) (fun _ _ _ _ _ => (pe_cmpR op_eq (pe_op op_sub (pv 6) (pe_op op_mul (pe_op op_fdiv (pv 6) (pv 2)) (pv 2))) pe_int (nomark _)))) pa_nil))))
      (pss_one (ps_ret pe_bl))
      pss_nil)
      (pss_cons (ps_set (i := 4) nd rfl (Or.inl rfl) (pe_callTy (cgTuple K) (by rfl) B.n_tuple (by decide +kernel) (pa_cons (by exact pe_lc (own := [("v", 5), ("c", 6)]) (g := (gTup K 2 (gCons (gName 5) (gCons (gName 6) gNil)))) (tt := tYes) rfl nd (pi_tup (pe_ix (ixT K) (pv 3) pe_int (fun _ _ => rfl))) (blkOk_by (N := ["fact", "premise", "d", "row", "terms", "v", "c"]) (sc := defScope s_follows_divide) (by decide +kernel)) (fun _ _ _ _ _ => (pg_tup (n := 2) rfl (pgs_cons (pg_name (i := 5) nd rfl (Or.inl rfl)) (pgs_cons (pg_name (i := 6) nd rfl (Or.inl rfl)) pgs_nil)))) (fun _ _ _ _ _ => pts_nil) (fun _ _ _ _ _ => (pe_tup (pa_cons (pv 5) (pa_cons (pe_op op_fdiv (pv 6) (pv 2)) pa_nil))))) pa_nil)))
      (pss_one (ps_ret (pe_and (pe_cmpR (eqD K hr) (pe_ix (ixT K) (pv 0) pe_int (fun _ _ => rfl)) (pv 4) (nomark _)) (pe_one (pe_cmpR op_ge (pe_ix (ixT K) (pv 0) pe_int (fun _ _ => rfl)) (pe_op op_fdiv (pe_ix (ixT K) (pv 3) pe_int (fun _ _ => rfl)) (pv 2)) (nomark _)))))))))), ?_⟩
    try dsimp only [L2.cxOf, L2.Cx.nox, L2.Cx.wish]
    rw [st_follows_divide]
    walk_at "cg"
    refine ⟨q, pr, rfl, hp, fun x H1 hx k1 => ?_⟩
    have F1 := k1.im hf
    cases e : pr.asRow with
    | none =>
      rw [e] at hx
      cases hx
      walk_at "cg"
      have q2 := k H1 k1
      unfold divideB at q2
      rw [e] at q2
      exact q2
    | some o =>
      obtain ⟨ts, n⟩ := o
      rw [e] at hx
      have okr := asRow_ok ok e
      cases hx with
      | some h =>
      rename_i pr2
      obtain ⟨qt, s1, i1⟩ := row_open h
      obtain ⟨xs, h1, h2⟩ := i1.open
      have tl := okr.2.1
      walk_at "cg"
      cases f with
      | any ls =>
        obtain ⟨qf, sf, jf⟩ := any_open F1
        have q2 := k H1 k1
        unfold divideB at q2
        rw [e] at q2
        refine if_S (fun g => ?_) (fun g => ?_)
        · walk_at "cg"
          exact q2
        · walk_at "cg"
          exact q2
      | row us ku =>
        obtain ⟨qf, sf, jf⟩ := row_open F1
        have q2 : ∀ H', Kp [] H H' → Q (.bl (decide (1 ≤ d) && (divAll ts d && (decide (us = divT ts d) && decide (n / d ≤ ku))))) H' := fun H' k' => by
          have := k H' k'
          unfold divideB at this
          rw [e] at this
          exact this
        refine if_S (fun g => ?_) (fun g => ?_)
        · walk_at "cg"
          have := q2 H1 k1
          rw [decide_eq_false (by omega : ¬ 1 ≤ d), Bool.false_and] at this
          exact this
        · have d1 : 1 ≤ d := by omega
          have dd : ∀ i : Int, L2.CDiv i d := fun i => ⟨by omega, by omega⟩
          have dmu : ∀ i : Int, L2.CMul i d := fun i => .inr ⟨by omega, by omega⟩
          rw [decide_eq_true d1, Bool.true_and] at q2
          walk_at "cg"
          refine lcT_b (xs := xs) (as := ts) (d := tD) (by walk_at "cg h") (by walk_at "cg h") (fun z => decide (z.2 - z.2 / d * d = 0)) (by omega) (fun i z x H' R R' hz k2 hx q' => ?_) (fun D H2 hD eD k2 => ?_)
          · obtain ⟨px, rfl, hs⟩ := term_at hx
            walk_at "cg"
            exact q' _ .refl
          · walk_at "cg"
            refine r_all eD ?_
            have ea : ((ts.map fun z => decide (z.2 - z.2 / d * d = 0)).all id) = divAll ts d := by
              rw [List.all_map]
              rfl
            rw [ea]
            have K2 := Kp.tr0 k2 k1
            walk_at "cg"
            cases ed : divAll ts d
            · rw [ed, Bool.false_and] at q2
              walk_at "cg"
              exact q2 H2 K2
            · rw [ed, Bool.true_and] at q2
              have h12 := k2.tup h1
              have h22 := k2.imAll h2
              have s12 := k2.tup s1
              have sf2 := k2.tup sf
              have jf2 := k2.im jf
              clear k2 h1 h2 s1 sf jf eD
              walk_at "cg"
              refine lcT_m (xs := xs) (as := ts) (d := tD) (by walk_at "cg h") (by walk_at "cg h") (fun z => tD (z.1, z.2 / d)) (by omega) (fun i z x H' R R' hz k2 hx q' => ?_) (fun D2 H3 acc hD2 eD2 hA k3 => ?_)
              · obtain ⟨px, rfl, hs⟩ := term_at hx
                walk_at "cg"
                exact q' _ _ (.tup (by assumption) (.cons (.int _) (.cons (.int _) .nil))) (by walk_at "cg kp")
              · have hN : ImAll K H3 acc ((divT ts d).map tD) := by
                  rw [divT, List.map_map]
                  exact hA
                walk_at "cg"
                rename_i p4 H4 hp4 s4 k4
                have K4 : Kp [] H H4 := Kp.tr0 k4 (Kp.tr0 k3 K2)
                have s14 := k4.tup (k3.tup s12)
                have sf4 := k4.tup (k3.tup sf2)
                refine r_eqTm (a := us) (b := divT ts d) (k4.im (k3.im jf2)) (.tup s4 (k4.imAll hN)) ?_
                clear k4 k3 hA hN eD2 s12 sf2
                walk_at "cg"
                refine if_S (fun g2 => ?_) (fun g2 => ?_)
                · rw [decide_eq_true g2, Bool.true_and] at q2
                  walk_at "cg"
                  exact q2 _ K4
                · rw [decide_eq_false g2, Bool.false_and] at q2
                  walk_at "cg"
                  exact q2 _ K4

theorem ok_follows_apart {f : Addr} {fd : FuncData} (F : Fun K "follows_apart" "follows_apart" s_follows_apart f fd) (B : Bi K mg C_Model)  : FnOk P w K mg base CX0 1 f fd ["body", "fact"] (spApart K) := by
  have nd := sc_follows_apart.nd
  refine F.ok sc_follows_apart ?len (fun cdv A outer s H vs Q E hr h => ?body)
  case len =>
    rintro vs H Q E ⟨p, q, b, f, rfl, _⟩
    rfl
  case body =>
    obtain ⟨p, q, b, f, rfl, hb, hf, k⟩ := h
    refine ⟨_, (pss_cons (ps_if (PW.pt (pw_or (pt_cmpR op_ne (pe_ix (ixT K) (pv 0) pe_int (fun _ _ => rfl)) pe_str (nomark _)) (pw_or (pt_cmpR op_ne (pe_ix (ixT K) (pv 1) pe_int (fun _ _ => rfl)) pe_str (nomark _)) (pw_or1 (pt_cmpR op_ne (pe_callB (cgLen K) (by rfl) B.n_len PySem.boot_len (pa_cons (pe_ix (ixT K) (pv 1) pe_int (fun _ _ => rfl)) pa_nil)) pe_int (nomark _))))))
      (pss_one (ps_ret pe_bl))
      pss_nil)
      (pss_cons (ps_asg (pe_ix (ixT K) (pe_ix (ixT K) (pv 1) pe_int (fun _ _ => rfl)) pe_int (fun _ _ => rfl)) (pg_tup (n := 3) rfl (pgs_cons (pg_name (i := 2) nd rfl (Or.inl rfl)) (pgs_cons (pg_name (i := 3) nd rfl (Or.inl rfl)) (pgs_cons (pg_name (i := 4) nd rfl (Or.inl rfl)) pgs_nil)))))
      (pss_cons (ps_asg (pe_ix (ixT K) (pe_ix (ixT K) (pv 1) pe_int (fun _ _ => rfl)) pe_int (fun _ _ => rfl)) (pg_tup (n := 3) rfl (pgs_cons (pg_name (i := 5) nd rfl (Or.inl rfl)) (pgs_cons (pg_name (i := 6) nd rfl (Or.inl rfl)) (pgs_cons (pg_name (i := 7) nd rfl (Or.inl rfl)) pgs_nil)))))
      (pss_one (ps_ret (pe_and (pe_cmpR op_eq (pv 3) pe_str (nomark _)) (pe_and (pe_cmpR op_eq (pv 6) pe_str (nomark _)) (pe_and (pe_cmpR op_eq (pv 4) (pv 7) (nomark _)) (pe_and (pe_cmpR op_ne (pv 2) (pv 5) (nomark _)) (pe_and (pe_cmpR (inS K) (pv 2) (pe_ix (ixT K) (pv 0) pe_int (fun _ _ => rfl)) rfl) (pe_one (pe_cmpR (inS K) (pv 5) (pe_ix (ixT K) (pv 0) pe_int (fun _ _ => rfl)) rfl)))))))))))), ?_⟩
    try dsimp only [L2.cxOf, L2.Cx.nox, L2.Cx.wish]
    rw [st_follows_apart]
    have no : apartB b f = false → Q (.bl false) H := fun e => by rw [e] at k; exact k
    cases b with
    | row ts r n =>
      obtain ⟨q1, s1, i1⟩ := b_row hb
      walk_at "cg"
      exact no rfl
    | any ls =>
      obtain ⟨q1, s1, i1⟩ := b_any hb
      walk_at "cg"
      exact no rfl
    | when l ts r n =>
      obtain ⟨q1, q2, s1, L, i1⟩ := b_when hb
      walk_at "cg"
      exact no rfl
    | table us rows =>
      obtain ⟨q1, q2, s1, s2, i2⟩ := b_table hb
      walk_at "cg"
      exact no rfl
    | elem x es y =>
      obtain ⟨q1, s1, s2⟩ := b_elem hb
      walk_at "cg"
      exact no rfl
    | times x y z =>
      have s1 := b_times hb
      walk_at "cg"
      exact no rfl
    | diff us =>
      obtain ⟨q1, s1, s2⟩ := b_diff hb
      cases f with
      | row ts n =>
        obtain ⟨qf, sf, jf⟩ := row_open hf
        walk_at "cg"
        exact no rfl
      | any ls =>
        obtain ⟨qf, sf, jf⟩ := any_open hf
        obtain ⟨xs, h1, h2⟩ := jf.open
        have hln := mapLenP h2
        match ls, h2, hln, no, k with
        | [], h2, hln, no, k =>
          simp only [List.length_nil] at hln
          walk_at "cg"
          exact no rfl
        | [l], h2, hln, no, k =>
          simp only [List.length_cons, List.length_nil] at hln
          walk_at "cg"
          exact no rfl
        | l :: m :: o :: ls, h2, hln, no, k =>
          simp only [List.length_cons] at hln
          walk_at "cg"
          exact no rfl
        | [l, m], h2, hln, no, k =>
          obtain ⟨x1, _, rfl, a1, h3⟩ := h2.c
          obtain ⟨x2, _, rfl, a2, h4⟩ := h3.c
          obtain rfl := h4.n
          obtain ⟨p1, rfl, L1⟩ := lit_at a1
          obtain ⟨p2, rfl, L2⟩ := lit_at a2
          rw [apart_two] at k
          walk_at "cg"
          rw [rs_ne]
          refine if_S (fun g => ?_) (fun g => ?_)
          · rw [decide_eq_true g, Bool.true_and] at k
            walk_at "cg"
            rw [rs_ne]
            refine if_S (fun g2 => ?_) (fun g2 => ?_)
            · rw [decide_eq_true g2, Bool.true_and] at k
              walk_at "cg"
              refine if_S (fun g3 => ?_) (fun g3 => ?_)
              · rw [decide_eq_true g3, Bool.true_and] at k
                walk_at "cg"
                refine if_S (fun g4 => ?_) (fun g4 => ?_)
                · rw [decide_eq_false g4, Bool.not_false, Bool.true_and] at k
                  walk_at "cg"
                  refine r_inT (b := decide (l.v ∈ us)) s2 rfl (flat_ints us) (inV_ints _ _) ?_
                  walk_at "cg"
                  refine if_S (fun g5 => ?_) (fun g5 => ?_)
                  · rw [decide_eq_true g5, Bool.true_and] at k
                    walk_at "cg"
                    refine r_inT (b := decide (m.v ∈ us)) s2 rfl (flat_ints us) (inV_ints _ _) ?_
                    exact k
                  · rw [decide_eq_false g5, Bool.false_and] at k
                    exact k
                · rw [decide_eq_true (Decidable.of_not_not g4), Bool.not_true, Bool.false_and] at k
                  exact k
              · rw [decide_eq_false g3, Bool.false_and] at k
                exact k
            · rw [decide_eq_false g2, Bool.false_and] at k
              exact k
          · rw [decide_eq_false g, Bool.false_and] at k
            exact k

theorem ok_follows_then {f : Addr} {fd : FuncData} (F : Fun K "follows_then" "follows_then" s_follows_then f fd) (B : Bi K mg C_Model) (D_rows_of : Is P w K mg base CX0 2 "rows_of" ["terms", "relation", "rhs"] (spRowsOf K)) (D_implies : Is P w K mg base CX0 4 "implies" ["first", "second"] (spImpl K implF)) : FnOk P w K mg base CX0 5 f fd ["body", "fact", "premise"] (spThen K) := by
  have nd := sc_follows_then.nd
  refine F.ok sc_follows_then ?len (fun cdv A outer s H vs Q E hr h => ?body)
  case len =>
    rintro vs H Q E ⟨p, q, u, b, f, pr, m, rfl, _⟩
    rfl
  case body =>
    obtain ⟨p, q, u, b, f, pr, m, rfl, hb, fit, m60, hf, hp, okp, k⟩ := h
    refine ⟨_, (pss_cons (ps_if (PW.pt (pw_or (pt_cmpR op_ne (pe_ix (ixT K) (pv 0) pe_int (fun _ _ => rfl)) pe_str (nomark _)) (pw_or1 (pt_not (pt_val (pe_is D_implies (hr.mono (by decide)) rfl pass0 (pa_cons (pv 2) (pa_cons (pe_tup (pa_cons pe_str (pa_cons (pe_tup (pa_cons (pe_ix (ixT K) (pv 0) pe_int (fun _ _ => rfl)) pa_nil)) pa_nil))) pa_nil))))))))
      (pss_one (ps_ret pe_bl))
      pss_nil)
      (pss_one (ps_ret (pe_cmpR (inDL K hr) (pv 1) (pe_is D_rows_of (hr.mono (by decide)) rfl pass0 (pa_cons (pe_ix (ixT K) (pv 0) pe_int (fun _ _ => rfl)) (pa_cons (pe_ix (ixT K) (pv 0) pe_int (fun _ _ => rfl)) (pa_cons (pe_ix (ixT K) (pv 0) pe_int (fun _ _ => rfl)) pa_nil)))) rfl)))), ?_⟩
    try dsimp only [L2.cxOf, L2.Cx.nox, L2.Cx.wish]
    rw [st_follows_then]
    have no : thenB b f pr = false → ∀ H', Kp [] H H' → Q (.bl false) H' := fun e H' k' => by have := k H' k'; rw [e] at this; exact this
    cases b with
    | row ts r n =>
      obtain ⟨q1, s1, i1⟩ := b_row hb
      walk_at "cg"
      exact no rfl _ .refl
    | any ls =>
      obtain ⟨q1, s1, i1⟩ := b_any hb
      walk_at "cg"
      exact no rfl _ .refl
    | diff us =>
      obtain ⟨q1, s1, s2⟩ := b_diff hb
      walk_at "cg"
      exact no rfl _ .refl
    | table us rows =>
      obtain ⟨q1, q2, s1, s2, i2⟩ := b_table hb
      walk_at "cg"
      exact no rfl _ .refl
    | elem x es y =>
      obtain ⟨q1, s1, s2⟩ := b_elem hb
      walk_at "cg"
      exact no rfl _ .refl
    | times x y z =>
      have s1 := b_times hb
      walk_at "cg"
      exact no rfl _ .refl
    | when l ts r n =>
      obtain ⟨q1, q2, s1, L, i1⟩ := b_when hb
      have lf := fit.1
      have tl := fit.2.1.1
      have okl : Fact.ok m (.any [l]) := by
        refine ⟨fun z hz => ?_, by simp⟩
        rw [List.mem_singleton] at hz
        subst hz
        unfold litFit at lf
        omega
      have ek : thenB (.when l ts r n) f pr = (implF pr (.any [l]) && decide (f ∈ rowsOf ts r n)) := rfl
      rw [ek] at k
      walk_at "cg"
      rename_i p3 H3 hp3 s3 k3 p4 H4 hp4 s4 k4
      refine ⟨u, p4, pr, .any [l], m, rfl, k4.im (k3.im hp), any_mk s4 (.tup (k4.tup s3) (.cons (lit_mk (k4.tup (k3.tup L))) .nil)), okp, okl, fun H5 k5 => ?_⟩
      have K5 := Kp.tr0 k5 (Kp.tr0 k4 k3)
      have s15 := K5.tup s1
      have i15 := K5.im i1
      have f5 := K5.im hf
      clear k3 k4 k5 s3 s4 hp3 hp4 s1 i1 hf hb hp L
      cases e1 : implF pr (.any [l])
      · rw [e1, Bool.false_and] at k
        walk_at "cg"
        exact k _ K5
      · rw [e1, Bool.true_and] at k
        walk_at "cg"
        refine ⟨q2, ts, r, n, rfl, i15, by omega, fun l6 refs H6 hl6 el6 hA6 k6 => ?_⟩
        refine r_inF (k6.im f5) el6 hA6 ?_
        exact k _ (Kp.tr0 k6 K5)

end
/-! ### dicts with numbers as keys -/
def ents (ks : List Int) (f : Int → V) : List (Key × V) := ks.map fun v => (Sum.inl v, f v)
theorem valV_ents {ks : List Int} {f : Int → V} {v : Int} : valV (ents ks f) (Sum.inl v) = if v ∈ ks then some (f v) else none := by
  unfold valV ents
  induction ks with
  | nil => rfl
  | cons u ks ih =>
    rw [List.map_cons, List.find?_cons]
    by_cases e : u = v
    · subst e
      simp
    · have e2 : decide ((Sum.inl u : Key) = Sum.inl v) = false := by
        rw [decide_eq_false_iff_not]
        intro z
        cases z
        exact e rfl
      simp only [e2]
      rw [ih]
      have e3 : (v ∈ u :: ks) ↔ v ∈ ks := by
        rw [List.mem_cons]
        exact ⟨fun h => h.resolve_left fun z => e z.symm, .inr⟩
      simp only [e3]
theorem any_ents {ks : List Int} {f : Int → V} {v : Int} : ((ents ks f).any fun kv => decide (kv.1 = Sum.inl v)) = decide (v ∈ ks) := by
  rw [valV_any, valV_ents]
  by_cases h : v ∈ ks
  · rw [if_pos h, decide_eq_true h]
    rfl
  · rw [if_neg h, decide_eq_false h]
    rfl
theorem putK_ents {ks : List Int} {f : Int → V} {v : Int} {x : V} : putK (ents ks f) (Sum.inl v) x = ents (if v ∈ ks then ks else ks ++ [v]) (fun u => if u = v then x else f u) := by
  unfold putK
  rw [any_ents]
  by_cases h : v ∈ ks
  · rw [decide_eq_true h, if_pos rfl, if_pos h]
    unfold ents
    rw [List.map_map]
    refine List.map_congr_left fun u _ => ?_
    show (if (Sum.inl u : Key) = Sum.inl v then (Sum.inl u, x) else (Sum.inl u, f u)) = _
    by_cases e : u = v
    · rw [if_pos (by rw [e])]
      show _ = (Sum.inl u, if u = v then x else f u)
      rw [if_pos e]
    · rw [if_neg (fun z => by cases z; exact e rfl)]
      show _ = (Sum.inl u, if u = v then x else f u)
      rw [if_neg e]
  · rw [decide_eq_false h, if_neg (by decide), if_neg h]
    unfold ents
    rw [List.map_append]
    have e1 : ks.map (fun u => ((Sum.inl u : Key), f u)) = ks.map (fun u => ((Sum.inl u : Key), if u = v then x else f u)) := List.map_congr_left fun u hu => by simp only [if_neg (show ¬ u = v from fun e => h (e ▸ hu))]
    rw [e1]
    simp
section
variable {td ty tx : TE} {σ : St} {H : Hp} {Q : VK} {a : Addr} {ks : List Int} {f : Int → V} {v : Int} {x y z : V} {kvs : List (Key × V)}
def isDk (x : V) (H : Hp) (R : Addr → Prop) : Prop := ∃ a, x = .ref a ∧ IsD H a ∧ R a
def dgD (a : Addr) (y z : V) (H : Hp) (Q : VK) : Prop := ∃ o, DGet H a y o ∧ Q (o.getD z) H
instance s_dg2 : Stp (tDGet2 td ty tx σ H Q) (td σ H fun x H1 => isDk x H1 fun a => ty σ H1 fun y H2 => tx σ H2 fun z H3 => dgD a y z H3 Q) := ⟨id⟩
theorem r_isDk {R : Addr → Prop} (h : H a = some (.dK kvs)) (q : R a) : isDk (.ref a) H R := ⟨a, rfl, .inl ⟨kvs, .inl h⟩, q⟩
theorem r_dgD (h : H a = some (.dK (ents ks f))) (q : Q (if v ∈ ks then f v else z) H) : dgD a (.int v) z H Q := by
  refine ⟨_, DGet.k (k := Sum.inl v) h, ?_⟩
  rw [valV_ents]
  by_cases e : v ∈ ks
  · rw [if_pos e] at q ⊢
    exact q
  · rw [if_neg e] at q ⊢
    exact q
theorem r_putE {R : Hp → Prop} (h : H a = some (.dK (ents ks f))) (few : ks.length ≤ 10000) (q : ∀ H2, H2 a = some (.dK (ents (if v ∈ ks then ks else ks ++ [v]) fun u => if u = v then x else f u)) → Kp [a] H H2 → R H2) : putD (.ref a) (.int v) x H R :=
  r_putD (k := Sum.inl v) h (by unfold ents; rw [List.length_map]; exact few) fun H2 e2 k2 => q H2 (by rw [e2, putK_ents]) k2
theorem r_ixDK {H : Hp} {Q : VK} {a : Addr} (h : H a = some (.dK (ents ks f))) (hv : v ∈ ks) (q : Q (f v) H) : rIxDK (.ref a) (.int v) H Q := ⟨a, _, v, f v, rfl, rfl, h, by rw [valV_ents, if_pos hv], q⟩
def rSortDI : List V → Hp → VK → Prop := fun xs H Q => ∃ (a : Addr) (kvs : List (Key × V)) (ks : List Int), xs = [.ref a] ∧ Rd H a (.dK kvs) ∧ kvs.map (·.1) = ks.map Sum.inl ∧ ks.length < 64 ∧ ∀ (ys : List Int) (p : Addr), ys.Perm ks → ys.Pairwise (· ≤ ·) → H p = none → Q (.ref p) (upd H p (.lst (ys.map V.int)))
theorem cg_sortDI {X : Cx} (hc : X.calm = true) : CallR X (.builtin "sorted") rSortDI := call_sortedDI hc
theorem r_sortDI (h : H a = some (.dK (ents ks f))) (nd : ks.Nodup) (h64 : ks.length < 64) (q : ∀ (ys : List Int) p H2, ys.Pairwise (· < ·) → (∀ k, k ∈ ys ↔ k ∈ ks) → H p = none → H2 p = some (.lst (ys.map V.int)) → Kp [] H H2 → Q (.ref p) H2) : rSortDI [.ref a] H Q := by
  refine ⟨a, _, ks, rfl, .inl h, ?_, h64, fun ys p hp hs hn => q ys p _ ?_ (fun k => hp.mem_iff) hn upd_same (Kp.new hn)⟩
  · unfold ents
    rw [List.map_map]
    rfl
  · have nd2 : ys.Nodup := hp.nodup_iff.mpr nd
    refine List.Pairwise.imp₂ (fun a b (h1 : a ≤ b) (h2 : a ≠ b) => (by omega : a < b)) hs nd2
end
theorem asc_ext : ∀ {xs ys : List Int}, xs.Pairwise (· < ·) → ys.Pairwise (· < ·) → (∀ k, k ∈ xs ↔ k ∈ ys) → xs = ys
  | [], [], _, _, _ => rfl
  | [], y :: ys, _, _, h => absurd ((h y).mpr List.mem_cons_self) (by simp)
  | x :: xs, [], _, _, h => absurd ((h x).mp List.mem_cons_self) (by simp)
  | x :: xs, y :: ys, hx, hy, h => by
    rw [List.pairwise_cons] at hx hy
    have e : x = y := by
      rcases List.mem_cons.mp ((h x).mp List.mem_cons_self) with e | e
      · exact e
      · rcases List.mem_cons.mp ((h y).mpr List.mem_cons_self) with e2 | e2
        · exact e2.symm
        · have a := hx.1 y e2
          have b := hy.1 x e
          omega
    subst e
    rw [asc_ext hx.2 hy.2 fun k => ?_]
    constructor
    · intro hk
      rcases List.mem_cons.mp ((h k).mp (List.mem_cons_of_mem _ hk)) with e | e
      · have := hx.1 k hk
        omega
      · exact e
    · intro hk
      rcases List.mem_cons.mp ((h k).mpr (List.mem_cons_of_mem _ hk)) with e | e
      · have := hy.1 k hk
        omega
      · exact e
/-- 0 .. n - 1 -/
def upTo (n : Nat) : List Int := (List.range n).map fun (k : Nat) => (k : Int)
theorem upTo_asc (n : Nat) : (upTo n).Pairwise (· < ·) := by
  unfold upTo
  rw [List.pairwise_map]
  exact (List.pairwise_lt_range (n := n)).imp fun h => by omega
theorem mem_upTo {n : Nat} {k : Int} : k ∈ upTo n ↔ 0 ≤ k ∧ k < n := by
  unfold upTo
  rw [List.mem_map]
  constructor
  · rintro ⟨j, hj, rfl⟩
    have := List.mem_range.mp hj
    omega
  · intro h
    exact ⟨k.toNat, List.mem_range.mpr (by omega), by omega⟩
theorem fm_asc {α : Type} {ys : List Int} {n : Nat} {f : Int → Option α} (h : ys.Pairwise (· < ·)) (hm : ∀ k ∈ ys, 0 ≤ k ∧ k < n) (hn : ∀ k, ¬ k ∈ ys → f k = none) : ys.filterMap f = (upTo n).filterMap f := by
  have e : ys = (upTo n).filter fun k => decide (k ∈ ys) := by
    refine asc_ext h ((upTo_asc n).filter _) fun k => ?_
    rw [List.mem_filter, mem_upTo, decide_eq_true_eq]
    exact ⟨fun q => ⟨hm k q, q⟩, fun q => q.2⟩
  conv => lhs; rw [e]
  rw [List.filterMap_filter]
  congr 1
  funext k
  by_cases q : k ∈ ys
  · rw [decide_eq_true q]; rfl
  · rw [decide_eq_false q, hn k q]; rfl
def coefF : Tms → Int → Int
  | [], _ => 0
  | z :: ts, v => (if z.1 = v then z.2 else 0) + coefF ts v
theorem coefF_app (ts us : Tms) (v : Int) : coefF (ts ++ us) v = coefF ts v + coefF us v := by
  induction ts with
  | nil => simp [coefF]
  | cons z ts ih => simp only [List.cons_append, coefF, ih]; omega
def scaleT (m : Int) (ts : Tms) : Tms := ts.map fun z => (z.1, m * z.2)
theorem coefF_zero {ts : Tms} {v : Int} (h : ¬ v ∈ ts.map (·.1)) : coefF ts v = 0 := by
  induction ts with
  | nil => rfl
  | cons z ts ih =>
    rw [List.map_cons, List.mem_cons, not_or] at h
    rw [coefF, if_neg (fun e => h.1 e.symm), ih h.2]
    rfl
def normT (n : Nat) (ts : Tms) : Tms := (upTo n).filterMap fun v => if coefF ts v = 0 then none else some (v, coefF ts v)
theorem sum_fm {l : List Int} {c g : Int → Int} : ((l.filterMap fun v => if c v = 0 then none else some (v, c v)).map fun z : Int × Int => z.2 * g z.1).sum = (l.map fun v => c v * g v).sum := by
  induction l with
  | nil => rfl
  | cons v l ih =>
    rw [List.filterMap_cons, List.map_cons, List.sum_cons]
    by_cases h : c v = 0
    · rw [if_pos h]
      simp only
      rw [ih, h, Int.zero_mul, Int.zero_add]
    · rw [if_neg h]
      simp only [List.map_cons, List.sum_cons]
      rw [ih]
theorem sum_add {l : List Int} {f g : Int → Int} : (l.map fun v => f v + g v).sum = (l.map f).sum + (l.map g).sum := by
  induction l with
  | nil => rfl
  | cons v l ih => simp only [List.map_cons, List.sum_cons, ih]; omega
theorem sum_one {l : List Int} (h : l.Nodup) {w : Int} (hw : w ∈ l) (a : Int) (g : Int → Int) : (l.map fun v => (if w = v then a else 0) * g v).sum = a * g w := by
  induction l with
  | nil => cases hw
  | cons v l ih =>
    rw [List.nodup_cons] at h
    rw [List.map_cons, List.sum_cons]
    by_cases e : w = v
    · subst e
      have z : (l.map fun v => (if w = v then a else 0) * g v).sum = 0 := by
        have : ∀ l : List Int, ¬ w ∈ l → (l.map fun v => (if w = v then a else 0) * g v).sum = 0 := by
          intro l hl
          induction l with
          | nil => rfl
          | cons u l ih =>
            rw [List.mem_cons, not_or] at hl
            rw [List.map_cons, List.sum_cons, ih hl.2, if_neg hl.1, Int.zero_mul]
            rfl
        exact this l h.1
      rw [z, if_pos rfl, Int.add_zero]
    · rw [if_neg e, Int.zero_mul, Int.zero_add]
      exact ih h.2 ((List.mem_cons.mp hw).resolve_left e)
theorem sumF_norm {n : Nat} {ts : Tms} (h : ∀ z ∈ ts, 0 ≤ z.1 ∧ z.1 < n) (g : Pt) : sumF (normT n ts) g = sumF ts g := by
  unfold sumF normT
  rw [sum_fm]
  induction ts with
  | nil =>
    simp only [coefF, Int.zero_mul, List.map_nil]
    have : ∀ l : List Int, (l.map fun _ => (0 : Int)).sum = 0 := by
      intro l
      induction l with
      | nil => rfl
      | cons _ l ih => simp only [List.map_cons, List.sum_cons, ih]; rfl
    exact this _
  | cons z ts ih =>
    simp only [coefF, Int.add_mul, List.map_cons, List.sum_cons]
    rw [sum_add, ih fun y hy => h y (List.mem_cons_of_mem _ hy), sum_one ((upTo_asc n).imp fun h => by omega) (mem_upTo.mpr (h z List.mem_cons_self))]
theorem sumF_scale (m : Int) (ts : Tms) (g : Pt) : sumF (scaleT m ts) g = m * sumF ts g := by
  unfold sumF scaleT
  induction ts with
  | nil => simp
  | cons z ts ih =>
    simp only [List.map_cons, List.sum_cons]
    rw [ih, Int.mul_add, Int.mul_assoc]
theorem sumF_app (ts us : Tms) (g : Pt) : sumF (ts ++ us) g = sumF ts g + sumF us g := by simp [sumF]
theorem r_dgC {H : Hp} {Q : VK} {a : Addr} {ks : List Int} {c : Int → Int} {v : Int} (h : H a = some (.dK (ents ks fun v => .int (c v)))) (hz : ¬ v ∈ ks → c v = 0) (q : Q (.int (c v)) H) : dgD a (.int v) (.int 0) H Q := by
  refine r_dgD h ?_
  by_cases e : v ∈ ks
  · rw [if_pos e]
    exact q
  · rw [if_neg e, ← hz e]
    exact q
theorem coefF_snoc (ts : Tms) (v c u : Int) : coefF (ts ++ [(v, c)]) u = if u = v then coefF ts v + c else coefF ts u := by
  rw [coefF_app]
  simp only [coefF]
  by_cases e : u = v
  · subst e
    rw [if_pos rfl, if_pos rfl]
    omega
  · rw [if_neg e, if_neg (fun z => e z.symm)]
    omega
theorem scale_take {us : Tms} {i : Nat} {z : Int × Int} {m : Int} (h : us[i]? = some z) : scaleT m (us.take (i + 1)) = scaleT m (us.take i) ++ [(z.1, m * z.2)] := by
  unfold scaleT
  rw [List.take_add_one, h, List.map_append]
  rfl
theorem atI_upTo {n : Nat} {g : Int → V} {v : Int} (h0 : 0 ≤ v) (h1 : v < n) : atI ((upTo n).map g) v = some (g v) := by
  have hl : ((upTo n).map g).length = n := by simp [upTo]
  rw [atI_nat h0 (by rw [hl]; exact h1), List.getElem?_map]
  unfold upTo
  rw [List.getElem?_map, List.getElem?_range (by omega)]
  show some (g ((v.toNat : Nat) : Int)) = _
  rw [Int.toNat_of_nonneg h0]
theorem set_upTo {n : Nat} {g : Int → V} {v : Int} {x : V} (h0 : 0 ≤ v) (h1 : v < n) : ((upTo n).map g).set v.toNat x = (upTo n).map fun u => if u = v then x else g u := by
  refine List.ext_getElem (by simp) fun i hi hi2 => ?_
  have hl : i < n := by simpa [upTo] using hi2
  rw [List.getElem_set]
  simp only [List.getElem_map, upTo, List.getElem_range]
  by_cases e : v.toNat = i
  · rw [if_pos e, if_pos (by omega)]
  · rw [if_neg e, if_neg (by omega)]
theorem upTo_len {g : Int → V} (n : Nat) : ((upTo n).map g).length = n := by simp [upTo]

/-! ### comprehensions of dicts; more on blocks within blocks -/
def AllP (sc : Scope) : List (Str × NameKind) → Prop
  | [] => True
  | p :: ps => sc.names.lookup p.1 = some p.2 ∧ AllP sc ps
theorem AllP.get {sc : Scope} : ∀ {L : List (Str × NameKind)} {x : Str} {k : NameKind}, AllP sc L → L.lookup x = some k → sc.names.lookup x = some k
  | [], _, _, _, h => by cases h
  | (y, j) :: ps, x, k, a, h => by
    rw [List.lookup_cons] at h
    by_cases e : x = y
    · subst e
      simp at h
      subst h
      exact a.1
    · have e2 : (x == y) = false := by simpa using e
      rw [e2] at h
      exact AllP.get a.2 h
theorem blkOk_cap {N : List Str} {sc scope : Scope} {own : List (Str × Nat)} (L : List (Str × NameKind)) (h : blkC N { kind := .function, names := L, isGenerator := false, isCoroutine := false } scope own = true) (hL : AllP sc L) : BlkOk N sc scope own := by
  have q := blkOk_by h
  exact ⟨q.1, q.2, q.3, fun y hy e => (q.4 y hy e).imp hL.get hL.get, q.5⟩
theorem cgAny {X : Cx} (K : PySem.W.Frag) (hc : X.calm = true) (h : X.K = K := by rfl) : CallR X (.builtin "any") (rAny K) := h ▸ cr_any hc
theorem cgAll {X : Cx} (K : PySem.W.Frag) (hc : X.calm = true) (h : X.K = K := by rfl) : CallR X (.builtin "all") (rAll K) := h ▸ cr_all hc
def pkS (D : Addr) (y z : V) (H : Hp) (R : Hp → Prop) : Prop := ∃ kvs k, y = kV k ∧ H D = some (.dK kvs) ∧ kvs.length < sizeLine ∧ R (upd H D (.dK (putK kvs k z)))
def dcS (J : It) (g : TG) (tt : TT) (tk tv : TE) (vs : List Nat) (σ : St) (H1 : Hp) (Q : VK) : Prop := ∀ D, H1 D = none → ∃ W : Nat → Nat → Hp → Prop, (∃ m, W 0 m (upd H1 D (.dK []))) ∧ ∀ i m H, W i m H →
  (J.stop i H ∧ Q (.ref D) H) ∨ (J.go i H ∧ ∃ Nx : Hp → Prop, (∀ H', Nx H' → ∃ m', m' < m ∧ W (i + 1) m' H') ∧ ∀ x H', J.yld i H x H' → g x (wipe σ vs) H' fun σ2 H2 => wpS σ2 σ vs (tt σ2 H2 fun b H3 =>
    iteP b (tk σ2 H3 fun y H4 => tv σ2 H4 fun z H5 => pkS D y z H5 Nx) (Nx H3)))
section
variable {σ σ0 : St} {H : Hp} {K : PySem.W.Frag} {p : Addr} {xs : List V} {g : TG} {wi : TI} {tt : TT} {te tk tv : TE} {vs : List Nat} {Q : VK} {J : It} {n : Nat} {lo : Int}
instance s_dc : Stp (tDc wi g tt tk tv vs σ H Q) (wi σ H fun J H1 => dcS J g tt tk tv vs σ H1 Q) := ⟨id⟩
theorem dc_by {G : Hp → Prop} {Y : Nat → Hp → V → Hp → Prop} (w : Walk J n G Y) [hw : Wip σ vs σ0] (Pv : Addr → Nat → Hp → Prop) (h0 : ∀ D H2, H D = none → H2 D = some (.dK []) → Kp [] H H2 → Pv D 0 H2) (hG : ∀ D i H', Pv D i H' → G H')
    (hs : ∀ D i x H' H'', i < n → Pv D i H' → Y i H' x H'' → g x σ0 H'' fun σ2 H2 => wpS σ2 σ vs (tt σ2 H2 fun b H3 => iteP b (tk σ2 H3 fun y H4 => tv σ2 H4 fun z H5 => pkS D y z H5 (Pv D (i + 1))) (Pv D (i + 1) H3)))
    (hd : ∀ D H', Pv D n H' → Q (.ref D) H') : dcS J g tt tk tv vs σ H Q := by
  intro D hD
  refine ⟨fun i m H => m = n - i ∧ i ≤ n ∧ Pv D i H, ⟨n, by simp, Nat.zero_le _, h0 D _ hD upd_same (Kp.new hD)⟩, ?_⟩
  rintro i m H ⟨rfl, hi, p⟩
  have q := hG D i H p
  by_cases hlt : i < n
  · refine .inr ⟨w.goes i H hlt q, Pv D (i + 1), fun H' p' => ⟨n - (i + 1), by omega, rfl, hlt, p'⟩, fun x H' y => ?_⟩
    rw [hw.e]
    exact hs D i x H H' hlt p (w.yields i H x H' hlt q y)
  · have e : i = n := by omega
    subst e
    exact .inl ⟨w.stops H q, hd D H p⟩
theorem r_pkE {D : Addr} {ks : List Int} {f : Int → V} {v : Int} {z : V} {R : Hp → Prop} (h : H D = some (.dK (ents ks f))) (few : ks.length ≤ 10000) (q : ∀ H2, H2 D = some (.dK (ents (if v ∈ ks then ks else ks ++ [v]) fun u => if u = v then z else f u)) → Kp [D] H H2 → R H2) : pkS D (.int v) z H R :=
  ⟨_, Sum.inl v, rfl, h, small1e4 (by unfold ents; rw [List.length_map]; exact few), q _ (by rw [← putK_ents]; exact upd_same) (Kp.put h trivial)⟩
theorem fm_filter (f : Int → Bool) (as : List Int) : as.filterMap (fun a => if f a = true then some (PyData.int a) else none) = (as.filter f).map PyData.int := by
  induction as with
  | nil => rfl
  | cons a as ih =>
    rw [List.filterMap_cons, List.filter_cons]
    cases h : f a
    · simp [ih]
    · simp [ih]
/-- ints, those that pass -/
theorem lcL_fi {as : List Int} [hw : Wip σ vs σ0] (s : H p = some (.lst (as.map V.int))) (f : Int → Bool) (small : as.length ≤ 10000)
    (hs : ∀ (i : Nat) (a : Int) (H' : Hp) (R : V → Hp → Prop) (R' : Hp → Prop), as[i]? = some a → Kp [] H H' → (∀ H4, f a = true → Kp [] H' H4 → R (.int a) H4) → (∀ H4, f a = false → Kp [] H' H4 → R' H4) →
      lcTurn g tt te vs σ σ0 (.int a) H' R R')
    (hd : ∀ D H', H D = none → H' D = some (.lst ((as.filter f).map V.int)) → Kp [] H H' → Q (.ref D) H') : lcS (Itl K p) g tt te vs σ H Q :=
  lcL_f (as := as) (d := PyData.int) s (imInts as) (fun a => if f a = true then some (.int a) else none) small (fun i a x H' R R' ha k hx q1 q2 => by
    cases hx
    refine hs i a H' R R' ha k (fun H4 e k4 => q1 _ _ (.int a) (by rw [if_pos e]) (.int a) k4) fun H4 e k4 => q2 _ (by rw [e]; rfl) k4) fun D H' acc hD eD hA k => hd D H' hD (by
    rw [fm_filter] at hA
    rw [eD, hA.ints]) k
end
/-! ### remaining values -/
abbrev Dm := Int → List Int
def updD (D : Dm) (v : Int) (xs : List Int) : Dm := fun u => if u = v then xs else D u
/-- ascending, not empty, small -/
structure Dom1 (xs : List Int) : Prop where
  ne : xs ≠ []
  asc : xs.Pairwise (· < ·)
  len : xs.length ≤ 2001
  bd : ∀ a ∈ xs, -1000 ≤ a ∧ a ≤ 1000
def DomOk (ks : List Int) (D : Dm) : Prop := ∀ v ∈ ks, Dom1 (D v)
theorem Dom1.filter {xs : List Int} {p : Int → Bool} (h : Dom1 xs) (ne : xs.filter p ≠ []) : Dom1 (xs.filter p) :=
  ⟨ne, h.asc.filter _, Nat.le_trans (List.length_filter_le _ _) h.len, fun a ha => h.bd a (List.mem_filter.mp ha).1⟩
theorem DomOk.upd {ks : List Int} {D : Dm} {v : Int} {xs : List Int} (h : DomOk ks D) (hx : Dom1 xs) : DomOk ks (updD D v xs) := fun u hu => by
  unfold updD
  split
  · exact hx
  · exact h u hu
def Within (ks : List Int) (D : Dm) (g : Pt) : Prop := ∀ v ∈ ks, g v ∈ D v
theorem Within.upd {ks : List Int} {D : Dm} {g : Pt} {v : Int} {xs : List Int} (h : Within ks D g) (hx : g v ∈ xs) : Within ks (updD D v xs) g := fun u hu => by
  unfold updD
  split
  · rename_i e
    rw [e]
    exact hx
  · exact h u hu
structure DomAt (H : Hp) (d : Addr) (ks : List Int) (D : Dm) : Prop where
  ex : ∃ f : Int → Addr, H d = some (.dK (ents ks fun v => .ref (f v))) ∧ ∀ v ∈ ks, H (f v) = some (.lst ((D v).map V.int))
section
variable {K : PySem.W.Frag} {H H' H2 : Hp} {d p : Addr} {ks : List Int} {D : Dm} {v : Int} {xs : List Int} {Q : VK}
theorem DomAt.kp0 (k : Kp [] H H') (h : DomAt H d ks D) : DomAt H' d ks D := by
  obtain ⟨f, e, a⟩ := h.ex
  exact ⟨f, k.get0 e, fun v hv => k.get0 (a v hv)⟩
theorem DomAt.kp {S : List Addr} (k : Kp S H H') (h : DomAt H d ks D) (n : ∀ a ∈ S, H a = none) : DomAt H' d ks D := by
  obtain ⟨f, e, a⟩ := h.ex
  exact ⟨f, k.get (fun z => by rw [n _ z] at e; cases e) e, fun v hv => k.get (fun z => by have := a v hv; rw [n _ z] at this; cases this) (a v hv)⟩
theorem DomAt.isD (h : DomAt H d ks D) : ∃ f, H d = some (.dK (ents ks f)) := by
  obtain ⟨f, e, a⟩ := h.ex
  exact ⟨_, e⟩
theorem DomAt.mut (h : DomAt H d ks D) : Kp [d] H H := Kp.base fun b hb => by
  obtain ⟨f, e⟩ := h.isD
  rw [List.mem_singleton] at hb
  rw [hb, e]
  trivial
theorem DomAt.congr {D' : Dm} (h : DomAt H d ks D) (e : ∀ v ∈ ks, D v = D' v) : DomAt H d ks D' := by
  obtain ⟨f, e1, a⟩ := h.ex
  exact ⟨f, e1, fun v hv => by rw [← e v hv]; exact a v hv⟩
theorem r_getDom (h : DomAt H d ks D) (hv : v ∈ ks) (q : ∀ p, H p = some (.lst ((D v).map V.int)) → Q (.ref p) H) : rIxDK (.ref d) (.int v) H Q := by
  obtain ⟨f, e, a⟩ := h.ex
  exact r_ixDK e hv (q _ (a v hv))
theorem r_putDom {R : Hp → Prop} (h : DomAt H d ks D) (hv : v ∈ ks) (hp : H p = some (.lst (xs.map V.int))) (few : ks.length ≤ 10000) (q : ∀ H2, DomAt H2 d ks (updD D v xs) → Kp [d] H H2 → R H2) : putD (.ref d) (.int v) (.ref p) H R := by
  obtain ⟨f, e, a⟩ := h.ex
  refine r_putE e few fun H2 e2 k2 => q H2 ⟨fun u => if u = v then p else f u, ?_, fun u hu => ?_⟩ k2
  · rw [e2, if_pos hv]
    congr 2
    congr 1
    funext u
    show (if u = v then V.ref p else V.ref (f u)) = V.ref (if u = v then p else f u)
    split <;> rfl
  · have nl : ∀ {b : Addr} {ys : List V}, H b = some (.lst ys) → b ≠ d := fun hb z => by rw [z, e] at hb; cases hb
    unfold updD
    simp only
    split
    · exact k2.get1 (nl hp) hp
    · exact k2.get1 (nl (a u hu)) (a u hu)
end
/-- literals taken out -/
def dropL : Dm → List Lit → Option Dm
  | D, [] => some D
  | D, l :: ls => let xs := (D l.v).filter fun a => !l.r.h a l.a
    if xs = [] then none else dropL (updD D l.v xs) ls
def keepL (D : Dm) (l : Lit) : Dm := updD D l.v ((D l.v).filter fun a => l.r.h a l.a)
def leastOf (c : Int) (xs : List Int) : Int := if 0 < c then c * xs.headD 0 else c * xs.getLastD 0
def leastR (D : Dm) (ts : Tms) : Int := (ts.map fun z => leastOf z.2 (D z.1)).sum
def cutR (D : Dm) (m n : Int) (z : Int × Int) : List Int := (D z.1).filter fun a => decide (z.2 * a + (m - leastOf z.2 (D z.1)) ≤ n)
def putAll (D : Dm) : List (Int × List Int) → Dm
  | [] => D
  | z :: zs => putAll (updD D z.1 z.2) zs
def applyR (D : Dm) (ts : Tms) (n : Int) : Option Dm := if n < leastR D ts then none else some (putAll D (ts.map fun z => (z.1, cutR D (leastR D ts) n z)))
def liveL (D : Dm) (ls : List Lit) : List Lit := ls.filter fun l => (D l.v).any fun a => l.r.h a l.a
def supposeF (D : Dm) : Fact → Option Dm
  | .any ls => dropL D ls
  | .row ts n => applyR D (negT ts) (-n - 1)
def endsB : Dm → List Fact → Bool
  | _, [] => false
  | D, .row ts n :: fs => match applyR D ts n with
    | none => true
    | some D' => endsB D' fs
  | D, .any ls :: fs => match liveL D ls with
    | [] => true
    | [l] => endsB (keepL D l) fs
    | _ :: _ :: _ => false
theorem endsB_row (D : Dm) (ts : Tms) (n : Int) (fs : List Fact) : endsB D (.row ts n :: fs) = (applyR D ts n).elim true fun D' => endsB D' fs := by
  rw [endsB]
  cases applyR D ts n <;> rfl
theorem endsB_any0 {D : Dm} {ls : List Lit} {fs : List Fact} (h : liveL D ls = []) : endsB D (.any ls :: fs) = true := by rw [endsB, h]
theorem endsB_any1 {D : Dm} {ls : List Lit} {l : Lit} {fs : List Fact} (h : liveL D ls = [l]) : endsB D (.any ls :: fs) = endsB (keepL D l) fs := by rw [endsB, h]
theorem endsB_any2 {D : Dm} {ls : List Lit} {l m : Lit} {lr : List Lit} {fs : List Fact} (h : liveL D ls = l :: m :: lr) : endsB D (.any ls :: fs) = false := by rw [endsB, h]
def fullD (us : List Un) : Dm := fun v => match us[v.toNat]? with
  | some u => rgI u.2.1 (u.2.2 + 1)
  | none => []
def unitB (us : List Un) (f : Fact) (fs : List Fact) : Bool := match supposeF (fullD us) f with
  | none => true
  | some D => endsB D fs
theorem least_le {c : Int} {xs : List Int} (h : xs.Pairwise (· < ·)) {a : Int} (ha : a ∈ xs) : leastOf c xs ≤ c * a := by
  unfold leastOf
  split
  · rename_i hc
    cases xs with
    | nil => cases ha
    | cons x xs =>
      rw [List.headD_cons]
      rw [List.pairwise_cons] at h
      refine Int.mul_le_mul_of_nonneg_left ?_ (by omega)
      rcases List.mem_cons.mp ha with rfl | ha
      · exact Int.le_refl _
      · have := h.1 a ha
        omega
  · rename_i hc
    have hl : a ≤ xs.getLastD 0 := by
      induction xs generalizing a with
      | nil => cases ha
      | cons x xs ih =>
        rw [List.pairwise_cons] at h
        cases xs with
        | nil =>
          rw [List.mem_singleton] at ha
          subst ha
          exact Int.le_refl _
        | cons y ys =>
          have e : (x :: y :: ys).getLastD 0 = (y :: ys).getLastD 0 := rfl
          rw [e]
          rcases List.mem_cons.mp ha with rfl | ha
          · have h1 := h.1 y List.mem_cons_self
            have h2 := ih h.2 List.mem_cons_self
            omega
          · exact ih h.2 ha
    exact Int.mul_le_mul_of_nonpos_left (by omega) hl
theorem least_mem {c : Int} {xs : List Int} (h : xs ≠ []) : ∃ a ∈ xs, leastOf c xs = c * a := by
  unfold leastOf
  cases xs with
  | nil => exact absurd rfl h
  | cons x xs =>
    split
    · exact ⟨x, List.mem_cons_self, rfl⟩
    · refine ⟨(x :: xs).getLastD 0, ?_, rfl⟩
      rw [List.getLastD_cons]
      cases xs with
      | nil => simp
      | cons y ys =>
        rw [List.getLastD_cons]
        have : ∀ (ys : List Int) (y : Int), ys.getLastD y ∈ y :: ys := by
          intro ys
          induction ys with
          | nil => intro y; simp
          | cons z zs ih =>
            intro y
            rw [List.getLastD_cons]
            exact List.mem_cons_of_mem _ (ih z)
        exact List.mem_cons_of_mem _ (this ys y)
theorem leastR_le {ks : List Int} {D : Dm} {g : Pt} (ok : DomOk ks D) (hg : Within ks D g) : ∀ (ts : Tms), (∀ z ∈ ts, z.1 ∈ ks) → leastR D ts ≤ sumF ts g
  | [], _ => Int.le_refl _
  | z :: ts, h => by
    have h1 := leastR_le ok hg ts fun y hy => h y (List.mem_cons_of_mem _ hy)
    have hz := h z List.mem_cons_self
    have h2 := least_le (c := z.2) (ok z.1 hz).asc (hg z.1 hz)
    have e1 : leastR D (z :: ts) = leastOf z.2 (D z.1) + leastR D ts := by simp [leastR]
    have e2 : sumF (z :: ts) g = z.2 * g z.1 + sumF ts g := by simp [sumF]
    omega
/-- the others of a sum are not below their least -/
theorem least_one {ks : List Int} {D : Dm} {g : Pt} (ok : DomOk ks D) (hg : Within ks D g) : ∀ (ts : Tms), (∀ z ∈ ts, z.1 ∈ ks) → ∀ z ∈ ts, z.2 * g z.1 + (leastR D ts - leastOf z.2 (D z.1)) ≤ sumF ts g
  | [], _, _, hz => by cases hz
  | y :: ts, h, z, hz => by
    have ht : ∀ z ∈ ts, z.1 ∈ ks := fun y hy => h y (List.mem_cons_of_mem _ hy)
    have e1 : leastR D (y :: ts) = leastOf y.2 (D y.1) + leastR D ts := by simp [leastR]
    have e2 : sumF (y :: ts) g = y.2 * g y.1 + sumF ts g := by simp [sumF]
    rcases List.mem_cons.mp hz with rfl | hz
    · have := leastR_le ok hg ts ht
      omega
    · have h1 := least_one ok hg ts ht z hz
      have hy := h y List.mem_cons_self
      have h2 := least_le (c := y.2) (ok y.1 hy).asc (hg y.1 hy)
      omega
theorem putAll_within {ks : List Int} {g : Pt} : ∀ (zs : List (Int × List Int)) {D : Dm}, Within ks D g → (∀ z ∈ zs, g z.1 ∈ z.2) → Within ks (putAll D zs) g
  | [], _, h, _ => h
  | z :: zs, _, h, hz => putAll_within zs (h.upd (hz z List.mem_cons_self)) fun y hy => hz y (List.mem_cons_of_mem _ hy)
theorem putAll_ok {ks : List Int} : ∀ (zs : List (Int × List Int)) {D : Dm}, DomOk ks D → (∀ z ∈ zs, Dom1 z.2) → DomOk ks (putAll D zs)
  | [], _, h, _ => h
  | z :: zs, _, h, hz => putAll_ok zs (h.upd (hz z List.mem_cons_self)) fun y hy => hz y (List.mem_cons_of_mem _ hy)
theorem cutR_ok {ks : List Int} {D : Dm} {ts : Tms} {n : Int} (ok : DomOk ks D) (hk : ∀ z ∈ ts, z.1 ∈ ks) (hn : leastR D ts ≤ n) {z : Int × Int} (hz : z ∈ ts) : Dom1 (cutR D (leastR D ts) n z) := by
  have d := ok z.1 (hk z hz)
  refine d.filter fun e => ?_
  obtain ⟨a, ha, el⟩ := least_mem (c := z.2) d.ne
  have : a ∈ cutR D (leastR D ts) n z := List.mem_filter.mpr ⟨ha, by rw [decide_eq_true_eq]; omega⟩
  unfold cutR at this
  rw [e] at this
  cases this
theorem applyR_ok {ks : List Int} {D D' : Dm} {ts : Tms} {n : Int} (ok : DomOk ks D) (hk : ∀ z ∈ ts, z.1 ∈ ks) (h : applyR D ts n = some D') : DomOk ks D' := by
  unfold applyR at h
  split at h
  · cases h
  · cases h
    refine putAll_ok _ ok fun y hy => ?_
    obtain ⟨z, hz, rfl⟩ := List.mem_map.mp hy
    exact cutR_ok ok hk (by omega) hz
theorem applyR_within {ks : List Int} {D : Dm} {ts : Tms} {n : Int} {g : Pt} (ok : DomOk ks D) (hk : ∀ z ∈ ts, z.1 ∈ ks) (hg : Within ks D g) (hs : sumF ts g ≤ n) : ∃ D', applyR D ts n = some D' ∧ Within ks D' g := by
  have h1 := leastR_le ok hg ts hk
  refine ⟨_, by unfold applyR; rw [if_neg (by omega)], putAll_within _ hg fun y hy => ?_⟩
  obtain ⟨z, hz, rfl⟩ := List.mem_map.mp hy
  have := least_one ok hg ts hk z hz
  exact List.mem_filter.mpr ⟨hg z.1 (hk z hz), by rw [decide_eq_true_eq]; show z.2 * g z.1 + _ ≤ _; omega⟩
theorem dropL_ok {ks : List Int} : ∀ (ls : List Lit) {D D' : Dm}, DomOk ks D → (∀ l ∈ ls, l.v ∈ ks) → dropL D ls = some D' → DomOk ks D'
  | [], _, _, ok, _, h => by cases h; exact ok
  | l :: ls, D, D', ok, hk, h => by
    unfold dropL at h
    simp only at h
    split at h
    · cases h
    · rename_i ne
      exact dropL_ok ls (ok.upd ((ok l.v (hk l List.mem_cons_self)).filter ne)) (fun y hy => hk y (List.mem_cons_of_mem _ hy)) h
theorem dropL_within {ks : List Int} {g : Pt} : ∀ (ls : List Lit) {D : Dm}, Within ks D g → (∀ l ∈ ls, l.v ∈ ks) → (∀ l ∈ ls, l.h g = false) → ∃ D', dropL D ls = some D' ∧ Within ks D' g
  | [], D, h, _, _ => ⟨D, rfl, h⟩
  | l :: ls, D, h, hk, hf => by
    have m : g l.v ∈ (D l.v).filter fun a => !l.r.h a l.a := List.mem_filter.mpr ⟨h l.v (hk l List.mem_cons_self), by
      have := hf l List.mem_cons_self
      unfold Lit.h at this
      rw [this]
      rfl⟩
    unfold dropL
    simp only
    rw [if_neg (fun e => by rw [e] at m; cases m)]
    exact dropL_within ls (h.upd m) (fun y hy => hk y (List.mem_cons_of_mem _ hy)) fun y hy => hf y (List.mem_cons_of_mem _ hy)
theorem keepL_ok {ks : List Int} {D : Dm} {l : Lit} (ok : DomOk ks D) (hk : l.v ∈ ks) (h : (D l.v).any (fun a => l.r.h a l.a) = true) : DomOk ks (keepL D l) := by
  refine ok.upd ((ok l.v hk).filter fun e => ?_)
  obtain ⟨a, ha, hl⟩ := List.any_eq_true.mp h
  have : a ∈ (D l.v).filter fun a => l.r.h a l.a := List.mem_filter.mpr ⟨ha, hl⟩
  rw [e] at this
  cases this
theorem keepL_within {ks : List Int} {D : Dm} {l : Lit} {g : Pt} (hg : Within ks D g) (hk : l.v ∈ ks) (h : l.h g = true) : Within ks (keepL D l) g := hg.upd (List.mem_filter.mpr ⟨hg l.v hk, h⟩)
theorem live_any {D : Dm} {ls : List Lit} {l : Lit} (h : l ∈ liveL D ls) : l ∈ ls ∧ (D l.v).any (fun a => l.r.h a l.a) = true := List.mem_filter.mp h
theorem endsB_sound {ks : List Int} {g : Pt} : ∀ (fs : List Fact) {D : Dm}, DomOk ks D → Within ks D g → (∀ f ∈ fs, (∀ v ∈ f.vars, v ∈ ks) ∧ f.h g = true) → endsB D fs = false
  | [], _, _, _, _ => rfl
  | .row ts n :: fs, D, ok, hg, h => by
    have h1 := h _ List.mem_cons_self
    have hk : ∀ z ∈ ts, z.1 ∈ ks := fun z hz => h1.1 z.1 (List.mem_map.mpr ⟨z, hz, rfl⟩)
    obtain ⟨D', e, hg'⟩ := applyR_within ok hk hg (of_decide_eq_true h1.2)
    unfold endsB
    rw [e]
    exact endsB_sound fs (applyR_ok ok hk e) hg' fun f hf => h f (List.mem_cons_of_mem _ hf)
  | .any ls :: fs, D, ok, hg, h => by
    have h1 := h _ List.mem_cons_self
    obtain ⟨l, hl, hh⟩ := List.any_eq_true.mp h1.2
    have hlk : l.v ∈ ks := h1.1 l.v (List.mem_map.mpr ⟨l, hl, rfl⟩)
    have m : l ∈ liveL D ls := List.mem_filter.mpr ⟨hl, List.any_eq_true.mpr ⟨g l.v, hg l.v hlk, hh⟩⟩
    unfold endsB
    match e : liveL D ls with
    | [] => rw [e] at m; cases m
    | [l2] =>
      rw [e, List.mem_singleton] at m
      subst m
      have lv := live_any (D := D) (ls := ls) (l := l) (by rw [e]; exact List.mem_cons_self)
      exact endsB_sound fs (keepL_ok ok hlk lv.2) (keepL_within hg hlk hh) fun f hf => h f (List.mem_cons_of_mem _ hf)
    | _ :: _ :: _ => rfl
theorem supposeF_sound {ks : List Int} {D : Dm} {f : Fact} {g : Pt} (ok : DomOk ks D) (hg : Within ks D g) (hk : ∀ v ∈ f.vars, v ∈ ks) (hf : f.h g = false) : ∃ D', supposeF D f = some D' ∧ DomOk ks D' ∧ Within ks D' g := by
  cases f with
  | any ls =>
    have hl : ∀ l ∈ ls, l.v ∈ ks := fun l h => hk l.v (List.mem_map.mpr ⟨l, h, rfl⟩)
    obtain ⟨D', e, h⟩ := dropL_within ls hg hl fun l h => Bool.eq_false_iff.mpr fun e => by
      have : (ls.any fun l => l.h g) = true := List.any_eq_true.mpr ⟨l, h, e⟩
      rw [show (Fact.any ls).h g = ls.any fun l => l.h g from rfl, this] at hf
      cases hf
    exact ⟨D', e, dropL_ok ls ok hl e, h⟩
  | row ts n =>
    have hl : ∀ z ∈ negT ts, z.1 ∈ ks := fun z h => by
      obtain ⟨y, hy, rfl⟩ := List.mem_map.mp h
      exact hk y.1 (List.mem_map.mpr ⟨y, hy, rfl⟩)
    have hn : sumF (negT ts) g ≤ -n - 1 := by
      rw [sumF_neg]
      have : ¬ sumF ts g ≤ n := of_decide_eq_false hf
      omega
    obtain ⟨D', e, h⟩ := applyR_within ok hl hg hn
    exact ⟨D', e, applyR_ok ok hl e, h⟩
def usOk (us : List Un) : Prop := ∀ u ∈ us, -1000 ≤ u.2.1 ∧ u.2.1 ≤ u.2.2 ∧ u.2.2 ≤ 1000
theorem fullD_ok {us : List Un} {ks : List Int} (ok : usOk us) (hk : ∀ v ∈ ks, 0 ≤ v ∧ v < us.length) : DomOk ks (fullD us) := fun v hv => by
  have h := hk v hv
  obtain ⟨u, hu⟩ : ∃ u, us[v.toNat]? = some u := ⟨_, List.getElem?_eq_getElem (by omega)⟩
  have o := ok u (List.mem_of_getElem? hu)
  unfold fullD
  rw [hu]
  refine ⟨fun e => ?_, rgI_asc _ _, by simp [rgI]; omega, fun a ha => by have := rgI_mem.mp ha; omega⟩
  have : u.2.1 ∈ rgI u.2.1 (u.2.2 + 1) := rgI_mem.mpr (by omega)
  simp only at e
  rw [e] at this
  cases this
theorem fullD_within {us : List Un} {ks : List Int} {g : Pt} (hk : ∀ v ∈ ks, 0 ≤ v ∧ v < us.length) (hg : ∀ (i : Nat) u, us[i]? = some u → u.2.1 ≤ g i ∧ g i ≤ u.2.2) : Within ks (fullD us) g := fun v hv => by
  have h := hk v hv
  obtain ⟨u, hu⟩ : ∃ u, us[v.toNat]? = some u := ⟨_, List.getElem?_eq_getElem (by omega)⟩
  have o := hg _ u hu
  rw [Int.toNat_of_nonneg h.1] at o
  unfold fullD
  rw [hu]
  exact rgI_mem.mpr (by omega)
theorem unit_sound {us : List Un} {f : Fact} {fs : List Fact} {g : Pt} (ok : usOk us) (hf : ∀ v ∈ f.vars, 0 ≤ v ∧ v < us.length) (hfs : ∀ f ∈ fs, ∀ v ∈ f.vars, 0 ≤ v ∧ v < us.length) (hg : ∀ (i : Nat) u, us[i]? = some u → u.2.1 ≤ g i ∧ g i ≤ u.2.2) (hh : ∀ f ∈ fs, f.h g = true) (h : unitB us f fs = true) : f.h g = true := by
  cases e : f.h g with
  | true => rfl
  | false =>
    have hk : ∀ v ∈ f.vars ++ fs.flatMap Fact.vars, 0 ≤ v ∧ v < us.length := fun v hv => by
      rcases List.mem_append.mp hv with h | h
      · exact hf v h
      · obtain ⟨f', h1, h2⟩ := List.mem_flatMap.mp h
        exact hfs f' h1 v h2
    obtain ⟨D', e1, ok', hg'⟩ := supposeF_sound (fullD_ok ok hk) (fullD_within hk hg) (fun v hv => List.mem_append_left _ hv) e
    unfold unitB at h
    rw [e1] at h
    have := endsB_sound fs ok' hg' fun f' hf' => ⟨fun v hv => List.mem_append_right _ (List.mem_flatMap.mpr ⟨f', hf', hv⟩), hh f' hf'⟩
    simp only [this] at h
    cases h
def spFullD (K : PySem.W.Frag) (C : Addr) : Sp := fun vs H Q _ => ∃ (a : MA) (M : Mdl) (l : Addr) (ks : List Int), vs = [.ref a.p, .ref l] ∧ MdlAt K C H a M ∧ M.us.length ≤ 60 ∧ usOk M.us ∧ H l = some (.lst (ks.map V.int)) ∧ ks.Nodup ∧ (∀ v ∈ ks, 0 ≤ v ∧ v < M.us.length) ∧ ∀ (d : Addr) (H' : Hp), H d = none → DomAt H' d ks (fullD M.us) → Kp [] H H' → Q (.ref d) H'
def spDropL (K : PySem.W.Frag) : Sp := fun vs H Q _ => ∃ (d p : Addr) (ks : List Int) (D : Dm) (ls : List Lit), vs = [.ref d, .ref p] ∧ DomAt H d ks D ∧ DomOk ks D ∧ ks.length ≤ 60 ∧ Im K H (.ref p) (litsD ls) ∧ (∀ l ∈ ls, l.v ∈ ks) ∧ (∀ H', dropL D ls = none → Kp [d] H H' → Q (.bl false) H') ∧ ∀ D' H', dropL D ls = some D' → DomAt H' d ks D' → Kp [d] H H' → Q (.bl true) H'
def spKeepL (K : PySem.W.Frag) : Sp := fun vs H Q _ => ∃ (d p : Addr) (ks : List Int) (D : Dm) (l : Lit), vs = [.ref d, .ref p] ∧ DomAt H d ks D ∧ DomOk ks D ∧ ks.length ≤ 60 ∧ LitAt K H p l.v l.r l.a ∧ l.v ∈ ks ∧ ∀ H', DomAt H' d ks (keepL D l) → Kp [d] H H' → Q .non H'
def spLeast (K : PySem.W.Frag) : Sp := fun vs H Q _ => ∃ (c : Int) (p : Addr) (xs : List Int), vs = [.int c, .ref p] ∧ H p = some (.lst (xs.map V.int)) ∧ Dom1 xs ∧ Q (.int (leastOf c xs)) H
def spApplyR (K : PySem.W.Frag) : Sp := fun vs H Q _ => ∃ (d p : Addr) (ks : List Int) (D : Dm) (ts : Tms) (n : Int), vs = [.ref d, .ref p] ∧ DomAt H d ks D ∧ DomOk ks D ∧ ks.length ≤ 60 ∧ FactAt K H p (.row ts n) ∧ ts.length ≤ 60 ∧ (∀ z ∈ ts, z.1 ∈ ks) ∧ (∀ H', applyR D ts n = none → Kp [d] H H' → Q (.bl false) H') ∧ ∀ D' H', applyR D ts n = some D' → DomAt H' d ks D' → Kp [d] H H' → Q (.bl true) H'
def spLive (K : PySem.W.Frag) : Sp := fun vs H Q _ => ∃ (d p : Addr) (ks : List Int) (D : Dm) (ls : List Lit), vs = [.ref d, .ref p] ∧ DomAt H d ks D ∧ DomOk ks D ∧ ks.length ≤ 60 ∧ Im K H (.ref p) (litsD ls) ∧ ls.length ≤ 60 ∧ (∀ l ∈ ls, l.v ∈ ks) ∧ ∀ (l : Addr) (refs : List V) H', H l = none → H' l = some (.lst refs) → ImAll K H' refs ((liveL D ls).map Lit.d) → Kp [] H H' → Q (.ref l) H'
def spSuppose (K : PySem.W.Frag) : Sp := fun vs H Q _ => ∃ (d p : Addr) (ks : List Int) (D : Dm) (f : Fact) (m : Int), vs = [.ref d, .ref p] ∧ DomAt H d ks D ∧ DomOk ks D ∧ ks.length ≤ 60 ∧ FactAt K H p f ∧ f.ok m ∧ (∀ v ∈ f.vars, v ∈ ks) ∧ (∀ H', supposeF D f = none → Kp [d] H H' → Q (.bl false) H') ∧ ∀ D' H', supposeF D f = some D' → DomAt H' d ks D' → Kp [d] H H' → Q (.bl true) H'
def spEnds (K : PySem.W.Frag) : Sp := fun vs H Q _ => ∃ (d l : Addr) (ks : List Int) (D : Dm) (refs : List V) (fs : List Fact) (m : Int), vs = [.ref d, .ref l] ∧ DomAt H d ks D ∧ DomOk ks D ∧ ks.length ≤ 60 ∧ H l = some (.lst refs) ∧ ImAll K H refs (fs.map Fact.d) ∧ (∀ f ∈ fs, f.ok m ∧ ∀ v ∈ f.vars, v ∈ ks) ∧ ∀ H', Kp [d] H H' → Q (.bl (endsB D fs)) H'
def spUnit (K : PySem.W.Frag) (C : Addr) : Sp := fun vs H Q _ => ∃ (a : MA) (M : Mdl) (p l : Addr) (refs : List V) (f : Fact) (fs : List Fact), vs = [.ref a.p, .ref p, .ref l] ∧ MdlAt K C H a M ∧ M.us.length ≤ 60 ∧ usOk M.us ∧ FactAt K H p f ∧ f.ok M.us.length ∧ H l = some (.lst refs) ∧ ImAll K H refs (fs.map Fact.d) ∧ (∀ f ∈ fs, f.ok M.us.length) ∧ fs.length ≤ 60 ∧ ∀ H', Kp [] H H' → Q (.bl (unitB M.us f fs)) H'

/-! ### entries that are awake -/
def premOf (es : List (Option Step)) (i : Int) : Option Fact := match es[i.toNat]? with | some (some s) => some s.f | _ => none
theorem awake_some {es : List (Option Step)} {i : Int} (h : awake es i = true) : ∃ s, es[i.toNat]? = some (some s) ∧ premOf es i = some s.f ∧ some s ∈ es ∧ 0 ≤ i ∧ i < es.length := by
  unfold awake at h
  simp only [Bool.and_eq_true, decide_eq_true_eq] at h
  obtain ⟨h0, h1, h2⟩ := h
  have hl : i.toNat < es.length := by omega
  unfold premOf
  rw [List.getElem?_eq_getElem hl] at h2 ⊢
  cases e : es[i.toNat] with
  | none => rw [e] at h2; cases h2
  | some s => exact ⟨s, rfl, rfl, e ▸ List.getElem_mem hl, h0, h1⟩
/-- an awake entry, read -/
theorem ent_awake {K : PySem.W.Frag} {H : Hp} {es : List (Option Step)} {refs : List V} {i : Int} (A : ImAll K H refs (es.map entD)) (aw : awake es i = true) : ∃ (p q : Addr) (s : Step) (xs : List V), atI refs i = some (.ref p) ∧ premOf es i = some s.f ∧ some s ∈ es ∧ es[i.toNat]? = some (some s) ∧ SqT K H p (.ref q :: .str s.r.name :: xs) ∧ FactAt K H q s.f := by
  obtain ⟨s, h1, h2, h3, h0, hl⟩ := awake_some aw
  obtain ⟨x, ex, hx⟩ := mapGetJ A h1
  rw [Int.toNat_of_nonneg h0, Int.zero_add] at ex
  obtain ⟨p, rfl⟩ := Im.isRef (show Im K H x (.tuple _) from hx)
  obtain ⟨q, xs, sp, hf, _⟩ := step_open hx
  exact ⟨p, q, s, xs, ex, h2, h3, h1, sp, hf⟩

/-! ### rule sum -/
def pairRow (es : List (Option Step)) (p : Int × Int) : Option (Tms × Int) := if p.2 < 1 then none else ((premOf es p.1).bind Fact.asRow).map fun r => (scaleT p.2 r.1, p.2 * r.2)
def addStep (es : List (Option Step)) (o : Option (Tms × Int)) (p : Int × Int) : Option (Tms × Int) := o.bind fun t => (pairRow es p).map fun r => (t.1 ++ r.1, t.2 + r.2)
def addL (es : List (Option Step)) (ps : List (Int × Int)) : Option (Tms × Int) := ps.foldl (addStep es) (some ([], 0))
theorem addL_take {es : List (Option Step)} {ps : List (Int × Int)} {i : Nat} {p : Int × Int} (h : ps[i]? = some p) : addL es (ps.take (i + 1)) = addStep es (addL es (ps.take i)) p := by
  unfold addL
  rw [List.take_add_one, h, List.foldl_append]
  rfl
theorem addL_none {es : List (Option Step)} (ps : List (Int × Int)) : ps.foldl (addStep es) none = none := by
  induction ps with
  | nil => rfl
  | cons p ps ih => exact ih
theorem addStep_none {es : List (Option Step)} {o : Option (Tms × Int)} {p : Int × Int} (e : pairRow es p = none) : addStep es o p = none := by
  unfold addStep
  rw [e]
  cases o <;> rfl
theorem addL_bad {es : List (Option Step)} {ps : List (Int × Int)} {i : Nat} {p : Int × Int} (h : ps[i]? = some p) (e : pairRow es p = none) : addL es ps = none := by
  obtain ⟨hi, e1⟩ := List.getElem?_eq_some_iff.mp h
  unfold addL
  rw [← List.take_append_drop i ps, List.foldl_append, List.drop_eq_getElem_cons hi, e1, List.foldl_cons]
  rw [addStep_none e, addL_none]
/-- the fact states the sum or a weaker row -/
def sumDue (n : Nat) (o : Option (Tms × Int)) (f : Fact) : Bool := match o with
  | none => false
  | some (ts, k) => match f with
    | .row us r => decide (us = normT n ts) && decide (r ≥ k)
    | .any _ => false
theorem scale_ok {m : Int} {ts : Tms} {z : Int × Int} {n : Int} (h : ∀ z ∈ ts, 0 ≤ z.1 ∧ z.1 < n) (hz : z ∈ scaleT m ts) : 0 ≤ z.1 ∧ z.1 < n := by
  obtain ⟨y, hy, rfl⟩ := List.mem_map.mp hz
  exact h y hy
theorem pairRow_ok {es : List (Option Step)} {p : Int × Int} {r : Tms × Int} {n : Int} (ok : ∀ s, some s ∈ es → s.f.ok n) (h : pairRow es p = some r) : ∀ z ∈ r.1, 0 ≤ z.1 ∧ z.1 < n := by
  unfold pairRow at h
  split at h
  · cases h
  · obtain ⟨r0, e0, rfl⟩ := Option.map_eq_some_iff.mp h
    obtain ⟨f, e1, e2⟩ := Option.bind_eq_some_iff.mp e0
    unfold premOf at e1
    split at e1
    · rename_i s hs
      cases e1
      have o := asRow_ok (ts := r0.1) (n := r0.2) (ok s (List.mem_of_getElem? hs)) e2
      exact fun z hz => scale_ok (fun y hy => ⟨(o.1 y hy).1, (o.1 y hy).2.1⟩) hz
    · cases e1
theorem addL_ok {es : List (Option Step)} {n : Int} (ok : ∀ s, some s ∈ es → s.f.ok n) : ∀ (ps : List (Int × Int)) {o : Option (Tms × Int)} {t : Tms × Int}, (∀ t, o = some t → ∀ z ∈ t.1, 0 ≤ z.1 ∧ z.1 < n) → ps.foldl (addStep es) o = some t → ∀ z ∈ t.1, 0 ≤ z.1 ∧ z.1 < n
  | [], _, _, h, e => h _ e
  | p :: ps, o, t, h, e => by
    refine addL_ok ok ps (o := addStep es o p) (fun t2 e2 z hz => ?_) e
    unfold addStep at e2
    obtain ⟨t1, rfl, e3⟩ := Option.bind_eq_some_iff.mp e2
    obtain ⟨r, e4, rfl⟩ := Option.map_eq_some_iff.mp e3
    rcases List.mem_append.mp hz with q | q
    · exact h _ rfl z q
    · exact pairRow_ok ok e4 z q
theorem pairRow_h {es : List (Option Step)} {p : Int × Int} {r : Tms × Int} {g : Pt} (h : pairRow es p = some r) (hp : ∀ f, premOf es p.1 = some f → f.h g = true) : sumF r.1 g ≤ r.2 := by
  unfold pairRow at h
  split at h
  · cases h
  · rename_i hm
    obtain ⟨r0, e0, rfl⟩ := Option.map_eq_some_iff.mp h
    obtain ⟨f, e1, e2⟩ := Option.bind_eq_some_iff.mp e0
    have q := hp f e1
    rw [asRow_h (ts := r0.1) (n := r0.2) e2, decide_eq_true_eq] at q
    simp only
    rw [sumF_scale]
    exact Int.mul_le_mul_of_nonneg_left q (by omega)
theorem addL_h {es : List (Option Step)} {g : Pt} : ∀ (ps : List (Int × Int)) {o : Option (Tms × Int)} {t : Tms × Int}, (∀ p ∈ ps, ∀ f, premOf es p.1 = some f → f.h g = true) → (∀ t, o = some t → sumF t.1 g ≤ t.2) → ps.foldl (addStep es) o = some t → sumF t.1 g ≤ t.2
  | [], _, _, _, h, e => h _ e
  | p :: ps, o, t, hp, h, e => by
    refine addL_h ps (o := addStep es o p) (fun q hq => hp q (List.mem_cons_of_mem _ hq)) (fun t2 e2 => ?_) e
    unfold addStep at e2
    obtain ⟨t1, rfl, e3⟩ := Option.bind_eq_some_iff.mp e2
    obtain ⟨r, e4, rfl⟩ := Option.map_eq_some_iff.mp e3
    have a := h _ rfl
    have b := pairRow_h e4 (hp p List.mem_cons_self)
    simp only [sumF_app]
    omega
theorem sum_sound {n : Nat} {es : List (Option Step)} {ps : List (Int × Int)} {f : Fact} {g : Pt} (ok : ∀ s, some s ∈ es → s.f.ok n) (h : sumDue n (addL es ps) f = true) (hp : ∀ p ∈ ps, ∀ f, premOf es p.1 = some f → f.h g = true) : f.h g = true := by
  unfold sumDue at h
  cases e : addL es ps with
  | none => rw [e] at h; cases h
  | some t =>
    rw [e] at h
    cases f with
    | any ls => cases h
    | row us r =>
      simp only [Bool.and_eq_true, decide_eq_true_eq] at h
      obtain ⟨rfl, h2⟩ := h
      have a := addL_h ps (o := some ([], 0)) hp (fun t e => by cases e; simp [sumF]) e
      have b := addL_ok ok ps (o := some ([], 0)) (fun t e => by cases e; simp) e
      show decide (sumF (normT n t.1) g ≤ r) = true
      rw [decide_eq_true_eq, sumF_norm b]
      omega
def spSum (K : PySem.W.Frag) : Sp := fun vs H Q _ => ∃ (l p q : Addr) (es : List (Option Step)) (f : Fact) (ps : List (Int × Int)) (n : Nat), vs = [.ref l, .ref p, .ref q] ∧ EntAt K H l es ∧ (∀ s, some s ∈ es → s.f.ok n) ∧ n ≤ 60 ∧ FactAt K H p f ∧ Im K H (.ref q) (tmD ps) ∧ (∀ p ∈ ps, awake es p.1 = true ∧ -1000000000000000000 ≤ p.2 ∧ p.2 ≤ 1000000000000000000) ∧ ∀ H', Kp [] H H' → Q (.bl (sumDue n (addL es ps) f)) H'

section
variable {P : Program} {w : World} {K : PySem.W.Frag} {mg : Str → Option Value} {base : Heap} {C_Model : Addr}
theorem Dom1.small {xs : List Int} (h : Dom1 xs) : xs.length ≤ 10000 := Nat.le_trans h.len (by decide)
theorem getLast_at {xs : List Int} (h : xs ≠ []) : atI (xs.map V.int) (-1) = some (.int (xs.getLastD 0)) := by
  have hl : 0 < xs.length := List.length_pos_iff.mpr h
  have e : ixN xs.length (-1) = some (xs.length - 1) := by
    unfold ixN
    rw [if_neg (by omega)]
    simp
    omega
  unfold atI
  rw [List.length_map, e]
  show (xs.map V.int)[xs.length - 1]? = _
  rw [List.getElem?_map, List.getElem?_eq_getElem (by omega)]
  show some (V.int xs[xs.length - 1]) = _
  rw [List.getLastD_eq_getLast?, List.getLast?_eq_getElem?, List.getElem?_eq_getElem (by omega)]
  rfl
theorem head_at {xs : List Int} (h : xs ≠ []) : atI (xs.map V.int) 0 = some (.int (xs.headD 0)) := by
  cases xs with
  | nil => exact absurd rfl h
  | cons x xs =>
    show atI (V.int x :: xs.map V.int) 0 = _
    rw [atI_0]
    rfl
theorem ok_full_domains {f : Addr} {fd : FuncData} (F : Fun K "full_domains" "full_domains" s_full_domains f fd) (B : Bi K mg C_Model) (D_Model_low : IsM P w K mg base CX0 2 C_Model "low" ["self", "v"] (spLow K C_Model)) (D_Model_high : IsM P w K mg base CX0 2 C_Model "high" ["self", "v"] (spHigh K C_Model)) : FnOk P w K mg base CX0 3 f fd ["model", "unknowns"] (spFullD K C_Model) := by
  have nd := sc_full_domains.nd
  obtain ⟨f_Model_low, fd_Model_low, G_Model_low, m_Model_low, b_Model_low⟩ := D_Model_low.ex
  obtain ⟨f_Model_high, fd_Model_high, G_Model_high, m_Model_high, b_Model_high⟩ := D_Model_high.ex
  refine F.ok sc_full_domains ?len (fun cdv A outer s H vs Q E hr h => ?body)
  case len =>
    rintro vs H Q E ⟨a, M, l, ks, rfl, _⟩
    rfl
  case body =>
    obtain ⟨a, M, l, ks, rfl, hM, h60, ok, hl, nd9, hk, k⟩ := h
    refine ⟨_, (pss_one (ps_ret (by exact pe_dc (own := [("v", 2)]) (g := (gName 2)) (tt := tYes) rfl nd ((piLst K) (pv 1)) (blkOk_by (N := ["model", "unknowns", "v"]) (sc := defScope s_full_domains) (by decide +kernel)) (fun _ _ _ _ _ => (pg_name (i := 2) nd rfl (Or.inl rfl))) (fun _ _ _ _ _ => pts_nil) (fun _ _ _ _ _ => (pv 2)) (fun _ _ _ _ _ => (pe_listRg rfl (by rfl) B.n_list (prg_2 (by rfl) B.n_range (pe_meth (pv 0) D_Model_low.cl m_Model_low G_Model_low (hr.mono (by decide)) b_Model_low .nil pass0 (pa_cons (pv 2) pa_nil)) (pe_op op_add (pe_meth (pv 0) D_Model_high.cl m_Model_high G_Model_high (hr.mono (by decide)) b_Model_high .nil pass0 (pa_cons (pv 2) pa_nil)) pe_int))))))), ?_⟩
    try dsimp only [L2.cxOf, L2.Cx.nox, L2.Cx.wish]
    rw [st_full_domains]
    have l60 : ks.length ≤ 60 := by
      have := nodup_le (us := upTo M.us.length) nd9 fun k hk' => mem_upTo.mpr (hk k hk')
      simp [upTo] at this
      omega
    have D := fullD_ok ok hk
    walk_at "cg"
    refine dc_by (walk_list (K := K) (a := l) (xs := ks.map V.int)) (fun d i H' => ∃ f : Int → Addr, H d = none ∧ H' d = some (.dK (ents (ks.take i) fun v => .ref (f v))) ∧ (∀ v ∈ ks.take i, H' (f v) = some (.lst ((fullD M.us v).map V.int))) ∧ Kp [] H H') (fun d H2 hd e2 k2 => ⟨fun _ => d, hd, e2, fun v hv => (by simp at hv), k2⟩) (fun d i H' ⟨f, hd, e, a, kk⟩ => SqL.of (kk.get0 hl)) ?_ ?_
    · rintro d i x H' H'' hi ⟨f, hd, ed, hf, kk⟩ ⟨rfl, hx⟩
      rw [List.length_map] at hi
      obtain ⟨v, hv⟩ : ∃ v, ks[i]? = some v := ⟨_, List.getElem?_eq_getElem hi⟩
      rw [List.getElem?_map, hv] at hx
      cases hx
      have hvk := List.mem_of_getElem? hv
      have hb := hk v hvk
      obtain ⟨u, hu⟩ : ∃ u, M.us[v.toNat]? = some u := ⟨_, List.getElem?_eq_getElem (by omega)⟩
      have o := ok u (List.mem_of_getElem? hu)
      have M' := hM.kp0 kk
      have ef : fullD M.us v = rgI u.2.1 (u.2.2 + 1) := by unfold fullD; rw [hu]
      have hnv : ¬ v ∈ ks.take i := fun hm => by
        obtain ⟨j, hj⟩ := List.getElem?_of_mem hm
        obtain ⟨hjl, ej⟩ := List.getElem?_eq_some_iff.mp hj
        rw [List.length_take] at hjl
        rw [List.getElem_take] at ej
        obtain ⟨hil, ei⟩ := List.getElem?_eq_some_iff.mp hv
        have := (List.nodup_iff_pairwise_ne (l := ks)).mp nd9
        exact absurd (ej.trans ei.symm) (List.pairwise_iff_getElem.mp nd9 j i (by omega) hil (by omega))
      walk_at "cg"
      refine ⟨a, M, v, u, rfl, M', h60, hb.1, hu, ?_⟩
      walk_at "cg"
      refine ⟨a, M, v, u, rfl, M', h60, hb.1, hu, ?_⟩
      walk_at "cg"
      refine r_lstRg (by omega) (by omega) fun p H2 hp ep k2 => ?_
      refine r_pkE (k2.get0 ed) (by rw [List.length_take]; omega) fun H3 e3 k3 => ?_
      have npd : p ≠ d := ne_newR hp ed
      refine ⟨fun w => if w = v then p else f w, hd, ?_, fun w hw => ?_, Kp.trN k3 (Kp.tr0 k2 kk) hd⟩
      · rw [e3, if_neg hnv]
        have et : ks.take (i + 1) = ks.take i ++ [v] := by rw [List.take_add_one, hv]; rfl
        rw [et]
        congr 2
        congr 1
        funext w
        show (if w = v then V.ref p else V.ref (f w)) = V.ref (if w = v then p else f w)
        split <;> rfl
      · have et : ks.take (i + 1) = ks.take i ++ [v] := by rw [List.take_add_one, hv]; rfl
        rw [et, List.mem_append, List.mem_singleton] at hw
        by_cases e : w = v
        · subst e
          simp only [if_pos]
          rw [ef]
          exact k3.get1 npd ep
        · simp only [if_neg e]
          have hw' := hw.resolve_right e
          have h1 := hf w hw'
          exact k3.get1 (fun z => by rw [z, ed] at h1; cases h1) (k2.get0 h1)
    · rintro d H' ⟨f, hd, ed, hf, kk⟩
      have et : ks.take (ks.map V.int).length = ks := by rw [List.length_map, List.take_length]
      rw [et] at ed hf
      exact k d H' hd ⟨f, ed, hf⟩ kk
theorem ok_drop_literals {f : Addr} {fd : FuncData} (F : Fun K "drop_literals" "drop_literals" s_drop_literals f fd) (B : Bi K mg C_Model) (D_literal_holds : Is P w K mg base CX0 2 "literal_holds" ["literal", "worth"] (spLit K)) : FnOk P w K mg base CX0 3 f fd ["domains", "literals"] (spDropL K) := by
  have nd := sc_drop_literals.nd
  refine F.ok sc_drop_literals ?len (fun cdv A outer s H vs Q E hr h => ?body)
  case len =>
    rintro vs H Q E ⟨d, p, ks, D, ls, rfl, _⟩
    rfl
  case body =>
    obtain ⟨d, p, ks, D, ls, rfl, hD, ok, l60, hI, hk, k0, k1⟩ := h
    refine ⟨_, (pss_cons (ps_for PassesOwn.never rfl (pi_tup (pv 1)) (pg_name (i := 2) nd rfl (Or.inr rfl))
      (pss_cons (ps_set (i := 3) nd rfl (Or.inl rfl) (pe_ix (ixT K) (pv 2) pe_int (fun _ _ => rfl)))
      (pss_cons (ps_dput (hu_of hr) (pv 0) (pv 3) (by exact pe_lc (own := [("a", 4)]) (g := (gName 4)) rfl nd ((piLst K) (pe_ix ix_dK (pv 0) (pv 3) (fun _ _ => rfl))) (blkOk_by (N := ["domains", "literals", "literal", "v", "a"]) (sc := defScope s_drop_literals) (by decide +kernel)) (fun _ _ _ _ _ => (pg_name (i := 4) nd rfl (Or.inl rfl))) (fun _ _ _ _ _ => pts_one (pt_not (pt_val (pe_is D_literal_holds (hr.mono (by decide)) rfl pass0 (pa_cons (pv 2) (pa_cons (pv 4) pa_nil)))))) (fun _ _ _ _ _ => (pv 4))) rfl)
      (pss_one (ps_if (pt_cmpR op_eq (pe_callB (cgLen K) (by rfl) B.n_len PySem.boot_len (pa_cons (pe_ix ix_dK (pv 0) (pv 3) (fun _ _ => rfl)) pa_nil)) pe_int (nomark _))
      (pss_one (ps_ret pe_bl))
      pss_nil)))))
      (pss_one (ps_ret pe_bl))), ?_⟩
    try dsimp only [L2.cxOf, L2.Cx.nox, L2.Cx.wish]
    rw [st_drop_literals]
    obtain ⟨xs, s1, i1⟩ := hI.open
    walk_at "cg"
    refine r_forTI [d] s1 i1 (fun i σ' H' => ∃ (D1 : Dm) (x3 x4 x5 : Option V), σ' = [some (.ref d), some (.ref p), x3, x4, x5] ∧ dropL D ls = dropL D1 (ls.drop i) ∧ DomAt H' d ks D1 ∧ DomOk ks D1 ∧ Kp [d] H H') ⟨D, _, _, _, rfl, rfl, hD, ok, hD.mut⟩ (fun i σ' H' ⟨_, _, _, _, _, _, _, _, h⟩ => h) ?_ ?_
    · rintro i l x σ' H' hl hx kk ⟨D1, x3, x4, x5, rfl, e1, hD1, ok1, -⟩
      obtain ⟨px, rfl, L⟩ := lit_at hx
      have hlk := hk l (List.mem_of_getElem? hl)
      have d1 := ok1 l.v hlk
      have ed : ls.drop i = l :: ls.drop (i + 1) := by
        obtain ⟨hi, rfl⟩ := List.getElem?_eq_some_iff.mp hl
        exact List.drop_eq_getElem_cons hi
      rw [ed] at e1
      have e2 : dropL D1 (l :: ls.drop (i + 1)) = if (D1 l.v).filter (fun a => !l.r.h a l.a) = [] then none else dropL (updD D1 l.v ((D1 l.v).filter fun a => !l.r.h a l.a)) (ls.drop (i + 1)) := rfl
      rw [e2] at e1
      walk_at "cg"
      refine r_getDom hD1 hlk fun q hq => ?_
      walk_at "cg"
      refine lcL_fi (K := K) hq (fun a => !l.r.h a l.a) d1.small (fun j a H2 R R' ha k2 q1 q2 => ?_) (fun q2 H2 hq2 eq2 k2 => ?_)
      · have L2 : LitAt K H2 px l.v l.r l.a := k2.tup L
        walk_at "cg"
        cases eh : l.r.h a l.a
        · walk_at "cg"
          exact q1 _ (by rw [eh]; rfl) .refl
        · walk_at "cg"
          exact q2 _ (by rw [eh]; rfl) .refl
      walk_at "cg"
      refine r_putDom (hD1.kp0 k2) hlk eq2 (by omega) fun H3 D3 k3 => ?_
      have K3 : Kp [d] H H3 := Kp.tr1 k3 (Kp.tr0 k2 kk)
      walk_at "cg"
      refine r_getDom D3 hlk fun q3 hq3 => ?_
      have eu : updD D1 l.v ((D1 l.v).filter fun a => !l.r.h a l.a) l.v = (D1 l.v).filter fun a => !l.r.h a l.a := by unfold updD; rw [if_pos rfl]
      rw [eu] at hq3
      walk_at "cg"
      refine if_S (fun g => ?_) (fun g => ?_)
      · have ge : (D1 l.v).filter (fun a => !l.r.h a l.a) = [] := by
          rw [List.length_map] at g
          exact List.length_eq_zero_iff.mp (by omega)
        rw [if_pos ge] at e1
        walk_at "cg"
        exact k0 _ e1 K3
      · have ge : (D1 l.v).filter (fun a => !l.r.h a l.a) ≠ [] := fun e => g (by rw [e]; rfl)
        rw [if_neg ge] at e1
        walk_at "cg"
        exact ⟨_, _, _, _, rfl, e1, D3, ok1.upd (d1.filter ge), K3⟩
    · rintro σ' H' kk ⟨D1, x3, x4, x5, rfl, e1, hD1, ok1, -⟩
      rw [List.drop_length] at e1
      walk_at "cg"
      exact k1 D1 _ e1 hD1 kk
theorem ok_keep_literal {f : Addr} {fd : FuncData} (F : Fun K "keep_literal" "keep_literal" s_keep_literal f fd) (B : Bi K mg C_Model) (D_literal_holds : Is P w K mg base CX0 2 "literal_holds" ["literal", "worth"] (spLit K)) : FnOk P w K mg base CX0 3 f fd ["domains", "literal"] (spKeepL K) := by
  have nd := sc_keep_literal.nd
  refine F.ok sc_keep_literal ?len (fun cdv A outer s H vs Q E hr h => ?body)
  case len =>
    rintro vs H Q E ⟨d, p, ks, D, l, rfl, _⟩
    rfl
  case body =>
    obtain ⟨d, p, ks, D, l, rfl, hD, ok, l60, L, hlk, k⟩ := h
    refine ⟨_, (pss_cons (ps_set (i := 2) nd rfl (Or.inl rfl) (pe_ix (ixT K) (pv 1) pe_int (fun _ _ => rfl)))
      (pss_one (ps_dput (hu_of hr) (pv 0) (pv 2) (by exact pe_lc (own := [("a", 3)]) (g := (gName 3)) rfl nd ((piLst K) (pe_ix ix_dK (pv 0) (pv 2) (fun _ _ => rfl))) (blkOk_by (N := ["domains", "literal", "v", "a"]) (sc := defScope s_keep_literal) (by decide +kernel)) (fun _ _ _ _ _ => (pg_name (i := 3) nd rfl (Or.inl rfl))) (fun _ _ _ _ _ => pts_one (pt_val (pe_is D_literal_holds (hr.mono (by decide)) rfl pass0 (pa_cons (pv 1) (pa_cons (pv 3) pa_nil))))) (fun _ _ _ _ _ => (pv 3))) rfl))), ?_⟩
    try dsimp only [L2.cxOf, L2.Cx.nox, L2.Cx.wish]
    rw [st_keep_literal]
    have d1 := ok l.v hlk
    walk_at "cg"
    refine r_getDom hD hlk fun q hq => ?_
    walk_at "cg"
    refine lcL_fi (K := K) hq (fun a => l.r.h a l.a) d1.small (fun j a H2 R R' ha k2 q1 q2 => ?_) (fun q2 H2 hq2 eq2 k2 => ?_)
    · have L2 : LitAt K H2 p l.v l.r l.a := k2.tup L
      walk_at "cg"
      cases eh : l.r.h a l.a
      · walk_at "cg"
        exact q2 _ eh .refl
      · walk_at "cg"
        exact q1 _ eh .refl
    walk_at "cg"
    refine r_putDom (hD.kp0 k2) hlk eq2 (by omega) fun H3 D3 k3 => ?_
    walk_at "cg"
    exact k _ D3 (Kp.tr1 k3 (Kp.tr0 k2 hD.mut))
theorem ok_least_of {f : Addr} {fd : FuncData} (F : Fun K "least_of" "least_of" s_least_of f fd) (B : Bi K mg C_Model)  : FnOk P w K mg base CX0 1 f fd ["c", "values"] (spLeast K) := by
  have nd := sc_least_of.nd
  refine F.ok sc_least_of ?len (fun cdv A outer s H vs Q E hr h => ?body)
  case len =>
    rintro vs H Q E ⟨c, p, xs, rfl, _⟩
    rfl
  case body =>
    obtain ⟨c, p, xs, rfl, hp, d1, k⟩ := h
    refine ⟨_, (pss_cons (ps_if (pt_cmpR op_gt (pv 0) pe_int (nomark _))
      (pss_one (ps_ret (pe_op op_mul (pv 0) (pe_ix (ixL K) (pv 1) pe_int (fun _ _ => rfl)))))
      pss_nil)
      (pss_one (ps_ret (pe_op op_mul (pv 0) (pe_ix (ixL K) (pv 1) (pe_un un_neg pe_int) (fun _ _ => rfl)))))), ?_⟩
    try dsimp only [L2.cxOf, L2.Cx.nox, L2.Cx.wish]
    rw [st_least_of]
    have b0 : -1000 ≤ xs.headD 0 ∧ xs.headD 0 ≤ 1000 := by
      cases xs with
      | nil => exact absurd rfl d1.ne
      | cons x xs => exact d1.bd x List.mem_cons_self
    have b1 : -1000 ≤ xs.getLastD 0 ∧ xs.getLastD 0 ≤ 1000 := by
      rw [List.getLastD_eq_getLast?, List.getLast?_eq_some_getLast d1.ne]
      exact d1.bd _ (List.getLast_mem d1.ne)
    have c0 : CMul c (xs.headD 0) := .inr ⟨by omega, by omega⟩
    have c1 : CMul c (xs.getLastD 0) := .inr ⟨by omega, by omega⟩
    unfold leastOf at k
    walk_at "cg"
    refine if_S (fun g => ?_) (fun g => ?_)
    · rw [if_pos (by omega)] at k
      walk_at "cg"
      refine r_ixL hp (head_at d1.ne) ?_
      walk_at "cg"
      exact k
    · rw [if_neg (by omega)] at k
      walk_at "cg"
      refine r_ixL hp (getLast_at d1.ne) ?_
      walk_at "cg"
      exact k

end
/-! ### choices of values -/
theorem asLit_vars {f : Fact} {l : Lit} (e : f.asLit = some l) : f.vars = [l.v] := by
  cases f with
  | row ts n =>
    match ts, e with
    | [], e => cases e
    | z :: z' :: ts, e => rw [asLit_row2] at e; cases e
    | [(v, c)], e =>
      simp only [Fact.asLit] at e
      split at e <;> (cases e; rfl)
  | any ls =>
    match ls, e with
    | [], e => cases e
    | l1 :: l2 :: ls, e => rw [asLit_two] at e; cases e
    | [l1], e => cases e; rfl
theorem Fact.h_congr {f : Fact} {g g' : Pt} (h : ∀ v ∈ f.vars, g v = g' v) : f.h g = f.h g' := by
  cases f with
  | row ts n =>
    show decide (sumF ts g ≤ n) = decide (sumF ts g' ≤ n)
    rw [sumF_congr fun z hz => h z.1 (List.mem_map.mpr ⟨z, hz, rfl⟩)]
  | any ls =>
    show (ls.any fun l => l.h g) = ls.any fun l => l.h g'
    refine any_congr' fun l hl => ?_
    unfold Lit.h
    rw [h l.v (List.mem_map.mpr ⟨l, hl, rfl⟩)]
def updG (g : Pt) (v a : Int) : Pt := fun u => if u = v then a else g u
def chStep (D : Dm) (gs : List Pt) (v : Int) : List Pt := gs.flatMap fun g => (D v).map fun a => updG g v a
def chF (U : List Int) (D : Dm) : List Pt := U.foldl (chStep D) [fun _ => 0]
theorem chF_snoc (U : List Int) (v : Int) (D : Dm) : chF (U ++ [v]) D = chStep D (chF U D) v := by
  unfold chF
  rw [List.foldl_append]
  rfl
/-- all choices: within, and each one stands there -/
structure ChAll (U : List Int) (D : Dm) (gs : List Pt) : Prop where
  snd : ∀ g ∈ gs, Within U D g
  cmp : ∀ g, Within U D g → ∃ g' ∈ gs, ∀ v ∈ U, g' v = g v
theorem ChAll.step {U : List Int} {D : Dm} {gs : List Pt} {v : Int} (h : ChAll U D gs) (hv : ¬ v ∈ U) : ChAll (U ++ [v]) D (chStep D gs v) := by
  refine ⟨fun g hg => ?_, fun g hg => ?_⟩
  · unfold chStep at hg
    obtain ⟨g0, h0, h1⟩ := List.mem_flatMap.mp hg
    obtain ⟨a, ha, rfl⟩ := List.mem_map.mp h1
    intro u hu
    unfold updG
    rcases List.mem_append.mp hu with h2 | h2
    · rw [if_neg (show ¬ u = v from fun e => hv (e ▸ h2))]
      exact h.snd g0 h0 u h2
    · rw [List.mem_singleton] at h2
      subst h2
      rw [if_pos rfl]
      exact ha
  · obtain ⟨g', h1, h2⟩ := h.cmp g fun u hu => hg u (List.mem_append_left _ hu)
    refine ⟨updG g' v (g v), List.mem_flatMap.mpr ⟨g', h1, List.mem_map.mpr ⟨g v, hg v (List.mem_append_right _ (by simp)), rfl⟩⟩, fun u hu => ?_⟩
    unfold updG
    split
    · rename_i e
      rw [e]
    · rename_i e
      rcases List.mem_append.mp hu with h3 | h3
      · exact h2 u h3
      · rw [List.mem_singleton] at h3
        exact absurd h3 e
theorem chF_all {U : List Int} (nd : U.Nodup) (D : Dm) : ∀ i, ChAll (U.take i) D (chF (U.take i) D)
  | 0 => ⟨fun g _ v hv => (by simp at hv), fun g _ => ⟨fun _ => 0, by simp [chF], fun v hv => (by simp at hv)⟩⟩
  | i + 1 => by
    have ih := chF_all nd D i
    cases e : U[i]? with
    | none =>
      rw [List.take_add_one, e]
      simpa using ih
    | some v =>
      rw [List.take_add_one, e]
      show ChAll (U.take i ++ [v]) D _
      rw [show (some v).toList = [v] from rfl, chF_snoc]
      refine ih.step fun hm => ?_
      obtain ⟨hi, ei⟩ := List.getElem?_eq_some_iff.mp e
      obtain ⟨j, hj⟩ := List.getElem?_of_mem hm
      obtain ⟨hjl, ej⟩ := List.getElem?_eq_some_iff.mp hj
      rw [List.length_take] at hjl
      rw [List.getElem_take] at ej
      exact absurd (ej.trans ei.symm) (List.pairwise_iff_getElem.mp nd j i (by omega) hi (by omega))
def prodL (U : List Int) (D : Dm) : Int := U.foldl (fun c v => c * ((D v).length : Int)) 1
theorem prodL_snoc (U : List Int) (v : Int) (D : Dm) : prodL (U ++ [v]) D = prodL U D * ((D v).length : Int) := by
  unfold prodL
  rw [List.foldl_append]
  rfl
theorem chStep_len (D : Dm) (gs : List Pt) (v : Int) : (chStep D gs v).length = gs.length * (D v).length := by
  unfold chStep
  induction gs with
  | nil => simp
  | cons g gs ih => rw [List.flatMap_cons, List.length_append, ih, List.length_map, List.length_cons, Nat.succ_mul, Nat.add_comm]
theorem chF_len (U : List Int) (D : Dm) : ∀ i, ((chF (U.take i) D).length : Int) = prodL (U.take i) D
  | 0 => rfl
  | i + 1 => by
    have ih := chF_len U D i
    cases e : U[i]? with
    | none =>
      rw [List.take_add_one, e]
      simpa using ih
    | some v =>
      rw [List.take_add_one, e]
      show (((chF (U.take i ++ [v]) D).length : Nat) : Int) = prodL (U.take i ++ [v]) D
      rw [chF_snoc, prodL_snoc, chStep_len, ← ih, Int.natCast_mul]
theorem prodL_pos {U : List Int} {D : Dm} (ok : DomOk U D) : ∀ i, 1 ≤ prodL (U.take i) D
  | 0 => Int.le_refl _
  | i + 1 => by
    have ih := prodL_pos ok i
    cases e : U[i]? with
    | none =>
      rw [List.take_add_one, e]
      simpa using ih
    | some v =>
      rw [List.take_add_one, e]
      show 1 ≤ prodL (U.take i ++ [v]) D
      rw [prodL_snoc]
      have h1 : 1 ≤ ((D v).length : Int) := by
        have := List.length_pos_iff.mpr (ok v (List.mem_of_getElem? e)).ne
        omega
      have := Int.mul_le_mul ih h1 (by decide) (by omega)
      omega
/-- a beginning costs no more -/
theorem prodL_mono {U : List Int} {D : Dm} (ok : DomOk U D) (i : Nat) : prodL (U.take i) D ≤ prodL U D := by
  have step : ∀ j, prodL (U.take j) D ≤ prodL (U.take (j + 1)) D := fun j => by
    cases e : U[j]? with
    | none =>
      rw [List.take_add_one, e]
      simp
    | some v =>
      rw [List.take_add_one, e]
      show _ ≤ prodL (U.take j ++ [v]) D
      rw [prodL_snoc]
      have h1 : 1 ≤ ((D v).length : Int) := by
        have := List.length_pos_iff.mpr (ok v (List.mem_of_getElem? e)).ne
        omega
      have h0 := prodL_pos ok j
      have := Int.mul_le_mul (Int.le_refl (prodL (U.take j) D)) h1 (by decide) (by omega)
      omega
  have all : ∀ k j, prodL (U.take j) D ≤ prodL (U.take (j + k)) D := fun k => by
    induction k with
    | zero => intro j; exact Int.le_refl _
    | succ k ih => intro j; exact Int.le_trans (ih j) (by rw [← Nat.add_assoc]; exact step _)
  by_cases h : i ≤ U.length
  · have := all (U.length - i) i
    rw [show i + (U.length - i) = U.length by omega, List.take_length] at this
    exact this
  · rw [List.take_of_length_le (by omega)]
    exact Int.le_refl _
/-- the choices at which the body holds -/
structure ChOk (U : List Int) (D : Dm) (b : Body) (gs : List Pt) : Prop where
  snd : ∀ g ∈ gs, Within U D g ∧ b.h g = true
  cmp : ∀ g, Within U D g → b.h g = true → ∃ g' ∈ gs, ∀ v ∈ U, g' v = g v
theorem ChAll.filter {U : List Int} {D : Dm} {gs : List Pt} {b : Body} (h : ChAll U D gs) (hb : ∀ v ∈ b.vars, v ∈ U) : ChOk U D b (gs.filter fun g => b.h g) := by
  refine ⟨fun g hg => ?_, fun g hg hh => ?_⟩
  · obtain ⟨h1, h2⟩ := List.mem_filter.mp hg
    exact ⟨h.snd g h1, h2⟩
  · obtain ⟨g', h1, h2⟩ := h.cmp g hg
    refine ⟨g', List.mem_filter.mpr ⟨h1, ?_⟩, h2⟩
    rw [Body.h_congr fun v hv => h2 v (hb v hv)]
    exact hh
def canon (n : Nat) (vs : List Int) : List Int := (upTo n).filter fun v => decide (v ∈ vs)
theorem canon_eq {n : Nat} {vs U : List Int} (asc : U.Pairwise (· < ·)) (hm : ∀ k, k ∈ U ↔ k ∈ vs) (hr : ∀ v ∈ vs, 0 ≤ v ∧ v < n) : U = canon n vs := by
  refine asc_ext asc ((upTo_asc n).filter _) fun k => ?_
  unfold canon
  rw [List.mem_filter, mem_upTo, decide_eq_true_eq, hm k]
  exact ⟨fun h => ⟨hr k h, h⟩, fun h => h.2⟩
def costB (n : Nat) (b : Body) (D : Dm) : Int := match b with
  | .table _ _ => 0
  | .elem _ _ _ => 0
  | .times x y _ => prodL (canon n [x, y]) D
  | b => prodL (canon n b.vars) D
/-- the hints that count as literals -/
def cutH : Dm → List Fact → Option Dm
  | D, [] => some D
  | D, f :: fs => match f.asLit with
    | none => cutH D fs
    | some l => if (keepL D l) l.v = [] then none else cutH (keepL D l) fs
def dropF (D : Dm) : Fact → Option Dm
  | .any ls => dropL D ls
  | .row _ _ => some D
def lookP (U : List Int) (D : Dm) (b : Body) (f : Fact) (hs : List Fact) : Prop := ∀ g, Within U D g → b.h g = true → (∀ h ∈ hs, h.h g = true) → f.h g = true
open Classical in
noncomputable def lookD (U : List Int) (D : Dm) (b : Body) (f : Fact) (hs : List Fact) : Bool := decide (lookP U D b f hs)
open Classical in
theorem lookD_iff {U : List Int} {D : Dm} {b : Body} {f : Fact} {hs : List Fact} : lookD U D b f hs = true ↔ lookP U D b f hs := by
  unfold lookD
  exact decide_eq_true_iff
noncomputable def lookE (n : Nat) (b : Body) (f : Fact) (hs : List Fact) (o : Option Dm) : Bool := match o with
  | none => true
  | some D => match cutH D hs with
    | none => true
    | some D' => decide (costB n b D' ≤ 400) && lookD (canon n b.vars) D' b f hs
noncomputable def lookB (us : List Un) (b : Body) (f : Fact) (hs : List Fact) : Bool :=
  ((f :: hs).all fun o => o.vars.all fun v => decide (v ∈ b.vars)) && lookE us.length b f hs (dropF (fullD us) f)
theorem keepL_at (D : Dm) (l : Lit) : keepL D l l.v = (D l.v).filter fun a => l.r.h a l.a := by
  unfold keepL updD
  rw [if_pos rfl]
theorem cutH_within {U : List Int} {g : Pt} {m : Int} : ∀ (hs : List Fact) {D : Dm}, Within U D g → (∀ h ∈ hs, h.h g = true ∧ (∀ v ∈ h.vars, v ∈ U) ∧ h.ok m) → ∃ D', cutH D hs = some D' ∧ Within U D' g
  | [], D, hg, _ => ⟨D, rfl, hg⟩
  | f :: fs, D, hg, h => by
    have hf := h f List.mem_cons_self
    have ht : ∀ h' ∈ fs, _ := fun h' hh => h h' (List.mem_cons_of_mem _ hh)
    unfold cutH
    cases e : f.asLit with
    | none => exact cutH_within fs hg ht
    | some l =>
      have hl : l.v ∈ U := hf.2.1 l.v (by rw [asLit_vars e]; exact List.mem_singleton.mpr rfl)
      have hh : l.h g = true := by rw [← asLit_sound hf.2.2 e]; exact hf.1
      have w := keepL_within (D := D) hg hl hh
      have ne : ¬ keepL D l l.v = [] := fun e2 => by
        have := w l.v hl
        rw [e2] at this
        cases this
      simp only
      rw [if_neg ne]
      exact cutH_within fs w ht
theorem dropF_within {U : List Int} {D : Dm} {f : Fact} {g : Pt} (hg : Within U D g) (hk : ∀ v ∈ f.vars, v ∈ U) (hf : f.h g = false) : ∃ D', dropF D f = some D' ∧ Within U D' g := by
  cases f with
  | row ts n => exact ⟨D, rfl, hg⟩
  | any ls =>
    refine dropL_within ls hg (fun l h => hk l.v (List.mem_map.mpr ⟨l, h, rfl⟩)) fun l h => Bool.eq_false_iff.mpr fun e => ?_
    have : (ls.any fun l => l.h g) = true := List.any_eq_true.mpr ⟨l, h, e⟩
    rw [show (Fact.any ls).h g = ls.any fun l => l.h g from rfl, this] at hf
    cases hf
theorem look_sound {us : List Un} {b : Body} {f : Fact} {hs : List Fact} {g : Pt} (hb : ∀ v ∈ b.vars, 0 ≤ v ∧ v < us.length) {m : Int} (hn : ∀ h ∈ hs, h.ok m) (hg : ∀ (i : Nat) u, us[i]? = some u → u.2.1 ≤ g i ∧ g i ≤ u.2.2) (hbh : b.h g = true) (hh : ∀ h ∈ hs, h.h g = true) (h : lookB us b f hs = true) : f.h g = true := by
  cases e : f.h g with
  | true => rfl
  | false =>
    unfold lookB at h
    rw [Bool.and_eq_true, List.all_eq_true] at h
    obtain ⟨hv, h⟩ := h
    have vin : ∀ o ∈ f :: hs, ∀ v ∈ o.vars, v ∈ canon us.length b.vars := fun o ho v hv' => by
      have := List.all_eq_true.mp (hv o ho) v hv'
      rw [decide_eq_true_eq] at this
      unfold canon
      exact List.mem_filter.mpr ⟨mem_upTo.mpr (hb v this), decide_eq_true this⟩
    have hg0 : Within (canon us.length b.vars) (fullD us) g := fullD_within (fun v hv' => mem_upTo.mp (List.mem_filter.mp hv').1) hg
    obtain ⟨D1, e1, w1⟩ := dropF_within hg0 (vin f List.mem_cons_self) e
    rw [e1] at h
    unfold lookE at h
    simp only at h
    obtain ⟨D2, e2, w2⟩ := cutH_within hs w1 fun h' hh' => ⟨hh h' hh', vin h' (List.mem_cons_of_mem _ hh'), hn h' hh'⟩
    rw [e2] at h
    simp only [Bool.and_eq_true, decide_eq_true_eq, lookD_iff] at h
    have := h.2 g w2 hbh hh
    rw [e] at this
    cases this
theorem lookP_all {U : List Int} {D : Dm} {b : Body} {f : Fact} {hs : List Fact} {gs : List Pt} (ch : ChOk U D b gs) (hb : ∀ v ∈ b.vars, v ∈ U) (hv : ∀ o ∈ f :: hs, ∀ v ∈ o.vars, v ∈ U) : lookD U D b f hs = gs.all fun g => !(hs.all fun h => h.h g) || f.h g := by
  rw [Bool.eq_iff_iff, lookD_iff, List.all_eq_true]
  constructor
  · intro h g hg
    obtain ⟨w, hh⟩ := ch.snd g hg
    cases e : hs.all fun h => h.h g with
    | false => rfl
    | true =>
      rw [h g w hh fun h' hh' => List.all_eq_true.mp e h' hh']
      rfl
  · intro h g w hbh hh
    obtain ⟨g', m, eq⟩ := ch.cmp g w hbh
    have q := h g' m
    have e1 : (hs.all fun h => h.h g') = true := List.all_eq_true.mpr fun h' hh' => by
      rw [Fact.h_congr fun v hv' => eq v (hv h' (List.mem_cons_of_mem _ hh') v hv')]
      exact hh h' hh'
    rw [e1, Bool.not_true, Bool.false_or, Fact.h_congr fun v hv' => eq v (hv f List.mem_cons_self v hv')] at q
    exact q
/-! the three kinds whose choices are not all looked at -/
def rowG : List Int → List Int → Pt
  | u :: us, a :: row => fun v => if v = u then a else rowG us row v
  | _, _ => fun _ => 0
theorem rowG_map : ∀ {us row : List Int}, us.Nodup → row.length = us.length → us.map (rowG us row) = row
  | [], [], _, _ => rfl
  | u :: us, a :: row, nd, hl => by
    rw [List.nodup_cons] at nd
    have ih := rowG_map (us := us) (row := row) nd.2 (by simpa using hl)
    rw [List.map_cons]
    have e1 : rowG (u :: us) (a :: row) u = a := by
      show (if u = u then a else _) = a
      rw [if_pos rfl]
    have e2 : us.map (rowG (u :: us) (a :: row)) = us.map (rowG us row) := List.map_congr_left fun v hv => by
      show (if v = u then a else rowG us row v) = _
      rw [if_neg (show ¬ v = u from fun e => nd.1 (e ▸ hv))]
    rw [e1, e2, ih]
  | [], _ :: _, _, hl => by simp at hl
  | _ :: _, [], _, hl => by simp at hl
def inRow (D : Dm) (us row : List Int) : Bool := (us.zip row).all fun z => decide (z.2 ∈ D z.1)
theorem table_ok {us : List Int} {rows : List (List Int)} {D : Dm} (nd : us.Nodup) (hl : ∀ r ∈ rows, r.length = us.length) : ChOk us D (.table us rows) ((rows.filter fun r => inRow D us r).map (rowG us)) := by
  refine ⟨fun g hg => ?_, fun g w hh => ?_⟩
  · obtain ⟨r, hr, rfl⟩ := List.mem_map.mp hg
    obtain ⟨h1, h2⟩ := List.mem_filter.mp hr
    have e := rowG_map nd (hl r h1)
    refine ⟨fun v hv => ?_, ?_⟩
    · obtain ⟨i, hi, rfl⟩ := List.getElem_of_mem hv
      have hlr := hl r h1
      have q := List.all_eq_true.mp h2 (us[i], r[i]) (by
        refine List.mem_of_getElem? (i := i) ?_
        rw [List.getElem?_zip_eq_some]
        exact ⟨List.getElem?_eq_getElem hi, List.getElem?_eq_getElem (by omega)⟩)
      rw [decide_eq_true_eq] at q
      have e2 : rowG us r us[i] = r[i] := by
        have := congrArg (fun l : List Int => l[i]?) e
        simp only [List.getElem?_map, List.getElem?_eq_getElem hi, List.getElem?_eq_getElem (show i < r.length by omega), Option.map_some] at this
        exact Option.some.inj this
      rw [e2]
      exact q
    · show decide (us.map (rowG us r) ∈ rows) = true
      rw [e, decide_eq_true_eq]
      exact h1
  · have hm : us.map g ∈ rows := of_decide_eq_true hh
    refine ⟨rowG us (us.map g), List.mem_map.mpr ⟨us.map g, List.mem_filter.mpr ⟨hm, ?_⟩, rfl⟩, fun v hv => ?_⟩
    · unfold inRow
      rw [List.all_eq_true]
      intro z hz
      obtain ⟨i, hi⟩ := List.getElem?_of_mem hz
      rw [List.getElem?_zip_eq_some] at hi
      obtain ⟨h1, h2⟩ := hi
      rw [List.getElem?_map, h1] at h2
      have h2 : g z.1 = z.2 := Option.some.inj h2
      rw [decide_eq_true_eq, ← h2]
      exact w _ (List.mem_of_getElem? h1)
    · obtain ⟨i, hi, rfl⟩ := List.getElem_of_mem hv
      have e := rowG_map (row := us.map g) nd (by simp)
      have := congrArg (fun l : List Int => l[i]?) e
      simp only [List.getElem?_map, List.getElem?_eq_getElem hi, Option.map_some] at this
      exact Option.some.inj this
/-- the choice with the value for z, or none -/
def withR (I : List Int) (D : Dm) (z : Int) (w : Int) (g : Pt) : Option Pt := if z ∈ I then (if g z = w then some g else none) else (if w ∈ D z then some (updG g z w) else none)
def resG (I : List Int) (D : Dm) (z : Int) (wf : Pt → Option Int) (gs : List Pt) : List Pt := gs.filterMap fun g => (wf g).bind fun w => withR I D z w g
theorem res_ok {I U : List Int} {D : Dm} {b : Body} {z : Int} {wf : Pt → Option Int} {gs : List Pt} (ch : ChAll I D gs) (hU : ∀ v, v ∈ U ↔ v ∈ I ∨ v = z) (wc : ∀ g g', (∀ v ∈ I, g v = g' v) → wf g = wf g') (bh : ∀ g, b.h g = true ↔ wf g = some (g z)) (hb : ∀ v ∈ b.vars, v ∈ U) : ChOk U D b (resG I D z wf gs) := by
  refine ⟨fun g hg => ?_, fun g w hh => ?_⟩
  · unfold resG at hg
    obtain ⟨g0, h0, h1⟩ := List.mem_filterMap.mp hg
    obtain ⟨w, h2, h3⟩ := Option.bind_eq_some_iff.mp h1
    have s := ch.snd g0 h0
    unfold withR at h3
    split at h3
    · rename_i hz
      split at h3
      · rename_i ew
        have e9 : g0 = g := Option.some.inj h3
        rw [← e9]
        refine ⟨fun v hv => ?_, (bh g0).mpr (by rw [h2, ew])⟩
        rcases (hU v).mp hv with h | h
        · exact s v h
        · rw [h]
          exact s z hz
      · cases h3
    · rename_i hz
      split at h3
      · rename_i hw
        have e9 : updG g0 z w = g := Option.some.inj h3
        rw [← e9]
        have e1 : ∀ v ∈ I, updG g0 z w v = g0 v := fun v hv => by
          unfold updG
          rw [if_neg (show ¬ v = z from fun e => hz (e ▸ hv))]
        have e2 : updG g0 z w z = w := by
          unfold updG
          rw [if_pos rfl]
        refine ⟨fun v hv => ?_, (bh _).mpr ?_⟩
        · rcases (hU v).mp hv with h | h
          · rw [e1 v h]
            exact s v h
          · rw [h, e2]
            exact hw
        · rw [e2, wc _ g0 e1, h2]
      · cases h3
  · have wI : Within I D g := fun v hv => w v ((hU v).mpr (.inl hv))
    have hw := (bh g).mp hh
    obtain ⟨g0, h0, h1⟩ := ch.cmp g wI
    have hw0 : wf g0 = some (g z) := by rw [wc g0 g h1]; exact hw
    by_cases hz : z ∈ I
    · refine ⟨g0, List.mem_filterMap.mpr ⟨g0, h0, ?_⟩, fun v hv => ?_⟩
      · rw [hw0]
        show withR I D z (g z) g0 = some g0
        unfold withR
        rw [if_pos hz, if_pos (h1 z hz)]
      · rcases (hU v).mp hv with h | h
        · exact h1 v h
        · rw [h]
          exact h1 z hz
    · refine ⟨updG g0 z (g z), List.mem_filterMap.mpr ⟨g0, h0, ?_⟩, fun v hv => ?_⟩
      · rw [hw0]
        show withR I D z (g z) g0 = _
        unfold withR
        rw [if_neg hz, if_pos (w z ((hU z).mpr (.inr rfl)))]
      · unfold updG
        split
        · rename_i e
          rw [e]
        · rename_i e
          rcases (hU v).mp hv with h | h
          · exact h1 v h
          · exact absurd h e
def wfE (x : Int) (es : List Int) : Pt → Option Int := fun g => if 0 ≤ g x ∧ g x < es.length then some (es.getD (g x).toNat 0) else none
def wfT (x y : Int) : Pt → Option Int := fun g => some (g x * g y)
theorem elem_h (x : Int) (es : List Int) (y : Int) (g : Pt) : (Body.elem x es y).h g = true ↔ wfE x es g = some (g y) := by
  show (decide (0 ≤ g x) && (decide (g x < es.length) && decide (es.getD (g x).toNat 0 = g y))) = true ↔ _
  unfold wfE
  rw [Bool.and_eq_true, Bool.and_eq_true, decide_eq_true_eq, decide_eq_true_eq, decide_eq_true_eq]
  constructor
  · rintro ⟨a, b, c⟩
    rw [if_pos ⟨a, b⟩, c]
  · intro h
    split at h
    · rename_i q
      exact ⟨q.1, q.2, Option.some.inj h⟩
    · cases h
theorem times_h (x y z : Int) (g : Pt) : (Body.times x y z).h g = true ↔ wfT x y g = some (g z) := by
  show decide (g x * g y = g z) = true ↔ _
  unfold wfT
  rw [decide_eq_true_eq]
  exact ⟨fun h => by rw [h], fun h => Option.some.inj h⟩
/-! dicts that stand for points -/
structure ChAt (H : Hp) (p : Addr) (U : List Int) (g : Pt) : Prop where
  ex : ∃ ks, H p = some (.dK (ents ks fun v => .int (g v))) ∧ (∀ v, v ∈ ks ↔ v ∈ U) ∧ ks.length ≤ U.length
structure ChsAt (H : Hp) (refs : List V) (gs : List Pt) (U : List Int) : Prop where
  len : refs.length = gs.length
  at_ : ∀ (i : Nat) g, gs[i]? = some g → ∃ p, refs[i]? = some (.ref p) ∧ ChAt H p U g
section
variable {K : PySem.W.Frag} {H H' : Hp} {p a : Addr} {U : List Int} {g : Pt} {gs : List Pt} {refs : List V} {S : List Addr}
theorem ChAt.kp (k : Kp S H H') (h : ChAt H p U g) (n : ∀ b ∈ S, ∀ kvs, H b ≠ some (.dK kvs)) : ChAt H' p U g := by
  obtain ⟨ks, e, m⟩ := h.ex
  exact ⟨ks, k.get (fun z => n _ z _ e) e, m⟩
theorem ChAt.kp0 (k : Kp [] H H') (h : ChAt H p U g) : ChAt H' p U g := h.kp k fun _ z => nomatch z
theorem ChsAt.kp (k : Kp S H H') (h : ChsAt H refs gs U) (n : ∀ b ∈ S, ∀ kvs, H b ≠ some (.dK kvs)) : ChsAt H' refs gs U := ⟨h.len, fun i g hg => by
  obtain ⟨p, e, c⟩ := h.at_ i g hg
  exact ⟨p, e, c.kp k n⟩⟩
theorem ChsAt.kp0 (k : Kp [] H H') (h : ChsAt H refs gs U) : ChsAt H' refs gs U := h.kp k fun _ z => nomatch z
theorem ChsAt.kpL {l : Addr} {xs : List V} (k : Kp [l] H H') (e : H l = some (.lst xs)) (h : ChsAt H refs gs U) : ChsAt H' refs gs U := h.kp k fun b hb kvs z => by
  rw [List.mem_singleton] at hb
  rw [hb, e] at z
  cases z
theorem ChsAt.nil : ChsAt H [] [] U := ⟨rfl, fun i g h => by simp at h⟩
theorem ChsAt.snoc (h : ChsAt H refs gs U) (c : ChAt H p U g) : ChsAt H (refs ++ [.ref p]) (gs ++ [g]) U := ⟨by simp [h.len], fun i y hy => by
  rcases Nat.lt_or_ge i gs.length with hi | hi
  · rw [List.getElem?_append_left hi] at hy
    obtain ⟨q, e, r⟩ := h.at_ i y hy
    exact ⟨q, by rw [List.getElem?_append_left (by rw [h.len]; exact hi)]; exact e, r⟩
  · rw [List.getElem?_append_right hi] at hy
    have e0 : i - gs.length = 0 := by
      have := (List.getElem?_eq_some_iff.mp hy).1
      simp at this
      omega
    rw [e0] at hy
    simp at hy
    subst hy
    refine ⟨p, ?_, c⟩
    rw [List.getElem?_append_right (by rw [h.len]; exact hi), h.len, e0]
    rfl⟩
theorem ChsAt.get {i : Nat} {x : V} (h : ChsAt H refs gs U) (hx : refs[i]? = some x) : ∃ g p, gs[i]? = some g ∧ x = .ref p ∧ ChAt H p U g := by
  have hi : i < gs.length := by rw [← h.len]; exact (List.getElem?_eq_some_iff.mp hx).1
  obtain ⟨p, e, c⟩ := h.at_ i _ (List.getElem?_eq_getElem hi)
  rw [hx] at e
  cases e
  exact ⟨_, p, List.getElem?_eq_getElem hi, rfl, c⟩
theorem ChAt.pt (h : ChAt H p U g) : PtAt K H p g (fun v => v ∈ U) := fun v hv => by
  obtain ⟨ks, e, m, _⟩ := h.ex
  exact .inr (.inr ⟨_, e, by rw [valV_ents, if_pos ((m v).mpr hv)]⟩)
end
theorem ChAt.conv {H : Hp} {p : Addr} {U U' : List Int} {g : Pt} (h : ChAt H p U g) (nd : U.Nodup) (m : ∀ v, v ∈ U ↔ v ∈ U') : ChAt H p U' g := by
  obtain ⟨ks, e, mk, l⟩ := h.ex
  exact ⟨ks, e, fun v => (mk v).trans (m v), Nat.le_trans l (nodup_le nd fun v hv => (m v).mp hv)⟩
theorem ChsAt.conv {H : Hp} {refs : List V} {gs : List Pt} {U U' : List Int} (h : ChsAt H refs gs U) (nd : U.Nodup) (m : ∀ v, v ∈ U ↔ v ∈ U') : ChsAt H refs gs U' := ⟨h.len, fun i g hg => by
  obtain ⟨p, e, c⟩ := h.at_ i g hg
  exact ⟨p, e, c.conv nd m⟩⟩
theorem canon_nodup (n : Nat) (vs : List Int) : (canon n vs).Nodup := ((upTo_asc n).filter _).imp fun h => by omega
theorem mem_canon {n : Nat} {vs : List Int} (h : ∀ v ∈ vs, 0 ≤ v ∧ v < n) (v : Int) : v ∈ canon n vs ↔ v ∈ vs := by
  unfold canon
  rw [List.mem_filter, mem_upTo, decide_eq_true_eq]
  exact ⟨fun q => q.2, fun q => ⟨h v q, q⟩⟩
theorem canon_len (n : Nat) (vs : List Int) : (canon n vs).length ≤ n := by
  unfold canon
  refine Nat.le_trans (List.length_filter_le _ _) ?_
  simp [upTo]
theorem ents_upd (ks : List Int) (g : Pt) (v a : Int) : ents ks (fun u => if u = v then V.int a else V.int (g u)) = ents ks fun u => V.int (updG g v a u) := by
  congr 1
  funext u
  unfold updG
  split <;> rfl
def rDictD : List V → Hp → VK → Prop := fun xs H Q => ∃ (a : Addr) (kvs : List (Key × V)), xs = [.ref a] ∧ Rd H a (.dK kvs) ∧ ∀ p, H p = none → Q (.ref p) (upd H p (.dK kvs))
theorem cg_dictD {X : Cx} : CallR X (.type "dict") rDictD := call_dictD
theorem r_dictD {H : Hp} {Q : VK} {a : Addr} {kvs : List (Key × V)} (h : H a = some (.dK kvs)) (q : ∀ p H2, H p = none → H2 p = some (.dK kvs) → Kp [] H H2 → Q (.ref p) H2) : rDictD [.ref a] H Q := ⟨a, kvs, rfl, .inl h, fun p hp => q p _ hp upd_same (Kp.new hp)⟩
instance s_notNI {i : Int} {H : Hp} {Q : VK} : Stp (rNotNo (.int i) .non H Q) (Q (.bl true) H) := ⟨fun h => ⟨rfl, by rw [decide_eq_false (fun e => by cases e)]; exact h⟩⟩
instance s_isNI {i : Int} {H : Hp} {Q : VK} : Stp (rIsNo (.int i) .non H Q) (Q (.bl false) H) := ⟨fun h => ⟨rfl, by rw [decide_eq_false (fun e => by cases e)]; exact h⟩⟩
theorem piZipA {X : Cx} (K : PySem.W.Frag) {e e2 : Expr} {ta : TA} {p pos tpos : Pos} {elts : List Expr} {kk : Nat} (hg : Gl X "zip") (hm : X.mg "zip" = none) (ha : PA X [e, e2] ta) (h : X.K = K := by rfl)
    (hs : starEach [e, e2] X.env = (false, eval e X.env) :: starEach [e2] X.env := by rfl) (hpl : (backTo pos (starEach [e2] X.env)).any (·.1) = false := by rfl) : PI X (.Tuple elts kk tpos) (.Call (.Name "zip" p) [e, e2] [] pos) (RZ.iZipA K ta) := h ▸ RZ.pi_zipA hg hm ha hs hpl
def zipS (K : PySem.W.Frag) (vs : List V) (H : Hp) (R : It → Hp → Prop) : Prop := ∃ a b xs ys, vs = [.ref a, .ref b] ∧ ((SqL K H a xs ∧ SqL K H b ys ∧ R (Itz K a b) H) ∨ (SqT K H a xs ∧ SqT K H b ys ∧ R (RZ.ItzT K a b) H))
instance s_zipA {K : PySem.W.Frag} {ta : TA} {σ : St} {H : Hp} {R : It → Hp → Prop} : Stp (RZ.iZipA K ta σ H R) (ta σ H fun vs H1 => zipS K vs H1 R) := ⟨id⟩
theorem r_zipT {K : PySem.W.Frag} {H : Hp} {R : It → Hp → Prop} {a b : Addr} {xs ys : List V} (h1 : SqT K H a xs) (h2 : SqT K H b ys) (q : R (RZ.ItzT K a b) H) : zipS K [.ref a, .ref b] H R := ⟨a, b, xs, ys, rfl, .inr ⟨h1, h2, q⟩⟩
theorem walk_zipT {K : PySem.W.Frag} {a b : Addr} {xs ys : List V} (hn : xs.length = ys.length) : Walk (RZ.ItzT K a b) xs.length (fun H => SqT K H a xs ∧ SqT K H b ys) (YPair (fun i => xs[i]?) (fun i => ys[i]?)) := by
  refine ⟨fun i _ hi q => ⟨xs, ys, xs[i], ys[i]'(by omega), q.1, q.2, by simp [hi], by simp [show i < ys.length by omega]⟩, fun _ q => ⟨xs, ys, q.1, q.2, .inl (Nat.le_refl _)⟩, fun i H v H' _ q y => ?_⟩
  obtain ⟨T, x, z, h1, h2, h3, h4, h5⟩ := y
  exact ⟨T, x, z, h1, h2, h3, h4 xs q.1, h5 ys q.2⟩
theorem ChOk.conv {U U' : List Int} {D : Dm} {b : Body} {gs : List Pt} (h : ChOk U D b gs) (m : ∀ v, v ∈ U ↔ v ∈ U') : ChOk U' D b gs :=
  ⟨fun g hg => ⟨fun v hv => (h.snd g hg).1 v ((m v).mpr hv), (h.snd g hg).2⟩, fun g w hh => by
    obtain ⟨g', h1, h2⟩ := h.cmp g (fun v hv => w v ((m v).mp hv)) hh
    exact ⟨g', h1, fun v hv => h2 v ((m v).mpr hv)⟩⟩
def isTab : Body → Prop
  | .table _ _ => True
  | _ => False
def isRes : Body → Prop
  | .elem _ _ _ => True
  | .times _ _ _ => True
  | _ => False
def resI (m : Nat) : Body → List Int
  | .elem x _ _ => [x]
  | .times x y _ => canon m [x, y]
  | _ => []
def resZ : Body → Int
  | .elem _ _ y => y
  | .times _ _ z => z
  | _ => 0
def resW : Body → Pt → Option Int
  | .elem x es _ => wfE x es
  | .times x y _ => wfT x y
  | _ => fun _ => none
theorem res_facts {m : Nat} {b : Body} {D : Dm} (hP : isRes b) (fit : b.fit m) (ok : DomOk (canon m b.vars) D) (cost : costB m b D ≤ 400) : (resI m b).Nodup ∧ (resI m b).length ≤ 2 ∧ (∀ v, v ∈ canon m b.vars ↔ v ∈ resI m b ∨ v = resZ b) ∧ prodL (resI m b) D ≤ 2001 ∧ (∀ g g' : Pt, (∀ v ∈ resI m b, g v = g' v) → resW b g = resW b g') ∧ ∀ g, b.h g = true ↔ resW b g = some (g (resZ b)) := by
  have mc := mem_canon (Body.fit_vars fit)
  cases b with
  | elem x es y =>
    refine ⟨List.nodup_cons.mpr ⟨by simp, List.nodup_nil⟩, by simp [resI], fun v => ?_, ?_, fun g g' h => ?_, elem_h x es y⟩
    · rw [mc v]
      simp [resI, resZ, Body.vars]
    · have hx : x ∈ canon m (Body.elem x es y).vars := (mc x).mpr (by simp [Body.vars])
      have := (ok x hx).len
      simp [resI, prodL]
      omega
    · have e := h x (by simp [resI])
      show wfE x es g = wfE x es g'
      unfold wfE
      rw [e]
  | times x y z =>
    have fx : ∀ v ∈ [x, y], 0 ≤ v ∧ v < (m : Int) := fun v hv => by
      simp only [List.mem_cons, List.not_mem_nil, or_false] at hv
      rcases hv with rfl | rfl
      · exact fit.1
      · exact fit.2.1
    have mc2 := mem_canon fx
    refine ⟨canon_nodup m _, nodup_le (us := [x, y]) (canon_nodup m _) fun k hk => (mc2 k).mp hk, fun v => ?_, ?_, fun g g' h => ?_, times_h x y z⟩
    · rw [mc v]
      show _ ↔ v ∈ canon m [x, y] ∨ v = z
      rw [mc2 v]
      simp only [Body.vars, List.mem_cons, List.not_mem_nil, or_false]
      exact ⟨fun h => h.elim (fun h => .inl (.inl h)) fun h => h.elim (fun h => .inl (.inr h)) .inr, fun h => h.elim (fun h => h.elim .inl fun h => .inr (.inl h)) fun h => .inr (.inr h)⟩
    · have : costB m (.times x y z) D = prodL (canon m [x, y]) D := rfl
      show prodL (canon m [x, y]) D ≤ 2001
      omega
    · show wfT x y g = wfT x y g'
      unfold wfT
      rw [h x ((mc2 x).mpr (by simp)), h y ((mc2 y).mpr (by simp))]
  | _ => exact hP.elim
def wV : Option Int → V
  | none => .non
  | some w => .int w
theorem plain_open {K : PySem.W.Frag} {H : Hp} {p : Addr} {b : Body} {m : Nat} {D : Dm} (hb : BodyAt K H p b) : (isTab b ∨ isRes b) ∨ (costB m b D = prodL (canon m b.vars) D ∧ ∃ s xs, SqT K H p (.str s :: xs) ∧ (s = Str.ofString "row" ∨ s = Str.ofString "any" ∨ s = Str.ofString "when" ∨ s = Str.ofString "different")) := by
  cases b with
  | row ts r n =>
    obtain ⟨q1, s0, _⟩ := b_row hb
    exact .inr ⟨rfl, _, _, s0, .inl rfl⟩
  | any ls =>
    obtain ⟨q1, s0, _⟩ := b_any hb
    exact .inr ⟨rfl, _, _, s0, .inr (.inl rfl)⟩
  | when l ts r n =>
    obtain ⟨q1, q2, s0, _⟩ := b_when hb
    exact .inr ⟨rfl, _, _, s0, .inr (.inr (.inl rfl))⟩
  | diff us =>
    obtain ⟨q1, s0, _⟩ := b_diff hb
    exact .inr ⟨rfl, _, _, s0, .inr (.inr (.inr rfl))⟩
  | table us rows => exact .inl (.inl trivial)
  | elem x es y => exact .inl (.inr trivial)
  | times x y z => exact .inl (.inr trivial)
theorem all_takeL {α : Type} {l : List α} {f : α → Bool} {i : Nat} {x : α} (h : l[i]? = some x) : (l.take (i + 1)).all f = ((l.take i).all f && f x) := by
  rw [List.take_add_one, h, List.all_append]
  simp
def spWider (K : PySem.W.Frag) : Sp := fun vs H Q _ => ∃ (lc lv : Addr) (v : Int) (refs : List V) (gs : List Pt) (U xs : List Int), vs = [.ref lc, .int v, .ref lv] ∧ H lc = some (.lst refs) ∧ ChsAt H refs gs U ∧ (∀ g ∈ gs, True) ∧ ¬ v ∈ U ∧ U.length ≤ 60 ∧ H lv = some (.lst (xs.map V.int)) ∧ gs.length * xs.length ≤ 9000 ∧ ∀ (l : Addr) (refs' : List V) H', H l = none → H' l = some (.lst refs') → ChsAt H' refs' (gs.flatMap fun g => xs.map fun a => updG g v a) (U ++ [v]) → Kp [] H H' → Q (.ref l) H'
def spAllCh (K : PySem.W.Frag) : Sp := fun vs H Q _ => ∃ (lu d : Addr) (U ks : List Int) (D : Dm), vs = [.ref lu, .ref d] ∧ H lu = some (.lst (U.map V.int)) ∧ U.Nodup ∧ U.length ≤ 60 ∧ DomAt H d ks D ∧ (∀ v ∈ U, v ∈ ks) ∧ DomOk U D ∧ prodL U D ≤ 2001 ∧ ∀ (l : Addr) (refs : List V) H', H l = none → H' l = some (.lst refs) → ChsAt H' refs (chF U D) U → Kp [] H H' → Q (.ref l) H'
def spWithR (K : PySem.W.Frag) : Sp := fun vs H Q _ => ∃ (p d : Addr) (z w : Int) (I ks : List Int) (D : Dm) (g : Pt), vs = [.ref p, .int z, .int w, .ref d] ∧ ChAt H p I g ∧ I.length ≤ 60 ∧ DomAt H d ks D ∧ z ∈ ks ∧ (withR I D z w g = none → ∀ H', Kp [] H H' → Q .non H') ∧ ∀ g' p' H', withR I D z w g = some g' → ChAt H' p' (if z ∈ I then I else I ++ [z]) g' → Kp [] H H' → Q (.ref p') H'
def spBodyCh (K : PySem.W.Frag) (P : Body → Prop) : Sp := fun vs H Q _ => ∃ (p d : Addr) (b : Body) (m : Nat) (D : Dm), vs = [.ref p, .ref d] ∧ P b ∧ BodyAt K H p b ∧ b.fit m ∧ m ≤ 60 ∧ DomAt H d (canon m b.vars) D ∧ DomOk (canon m b.vars) D ∧ costB m b D ≤ 400 ∧ ∀ (l : Addr) (refs : List V) (gs : List Pt) H', H l = none → H' l = some (.lst refs) → ChsAt H' refs gs (canon m b.vars) → ChOk (canon m b.vars) D b gs → Kp [] H H' → Q (.ref l) H'
def spCostOf (K : PySem.W.Frag) : Sp := fun vs H Q _ => ∃ (p d : Addr) (b : Body) (m : Nat) (D : Dm), vs = [.ref p, .ref d] ∧ BodyAt K H p b ∧ b.fit m ∧ m ≤ 60 ∧ DomAt H d (canon m b.vars) D ∧ DomOk (canon m b.vars) D ∧ ∀ H', Kp [] H H' → Q (.int (costB m b D)) H'
def spLook (K : PySem.W.Frag) (C : Addr) : Sp := fun vs H Q _ => ∃ (a : MA) (M : Mdl) (pb pf l : Addr) (b : Body) (f : Fact) (refs : List V) (hs : List Fact), vs = [.ref a.p, .ref pb, .ref pf, .ref l] ∧ MdlAt K C H a M ∧ M.us.length ≤ 60 ∧ usOk M.us ∧ BodyAt K H pb b ∧ b.fit M.us.length ∧ FactAt K H pf f ∧ f.ok M.us.length ∧ H l = some (.lst refs) ∧ ImAll K H refs (hs.map Fact.d) ∧ (∀ h ∈ hs, h.ok M.us.length) ∧ hs.length ≤ 60 ∧ ∀ H', Kp [] H H' → Q (.bl (lookB M.us b f hs)) H'

section
variable {P : Program} {w : World} {K : PySem.W.Frag} {mg : Str → Option Value} {base : Heap} {C_Model : Addr}
theorem ok_wider {f : Addr} {fd : FuncData} (F : Fun K "wider" "wider" s_wider f fd) (B : Bi K mg C_Model)  : FnOk P w K mg base CX0 1 f fd ["choices", "v", "values"] (spWider K) := by
  have nd := sc_wider.nd
  refine F.ok sc_wider ?len (fun cdv A outer s H vs Q E hr h => ?body)
  case len =>
    rintro vs H Q E ⟨lc, lv, v, refs, gs, U, xs, rfl, _⟩
    rfl
  case body =>
    obtain ⟨lc, lv, v, refs, gs, U, xs, rfl, hlc, hC, _, hv, u60, hlv, sz, k⟩ := h
    refine ⟨_, (pss_cons (ps_set (i := 3) nd rfl (Or.inl rfl) (pe_lst pa_nil))
      (pss_cons (ps_for PassesOwn.never rfl ((piLst K) (pv 0)) (pg_name (i := 4) nd rfl (Or.inl rfl))
      (pss_one (ps_for PassesOwn.never rfl ((piLst K) (pv 2)) (pg_name (i := 5) nd rfl (Or.inl rfl))
      (pss_cons (ps_set (i := 6) nd rfl (Or.inl rfl) (pe_callTy cg_dictD (by rfl) B.n_dict (by decide +kernel) (pa_cons (pv 4) pa_nil)))
      (pss_cons (ps_dput (hu_of hr) (pv 6) (pv 1) (pv 5) rfl)
      (pss_one (ps_expr (pe_bm PySem.F.plainAttrs_list PySem.F.slot_list_append PySem.F.type_list_append mt_append (pv 3) (pa_cons (pv 6) pa_nil)))))))))
      (pss_one (ps_ret (pv 3))))), ?_⟩
    try dsimp only [L2.cxOf, L2.Cx.nox, L2.Cx.wish]
    rw [st_wider]
    have gl := hC.len
    walk_at "cg"
    rename_i l H1 hl el k1
    have bs : Kp [l] H1 H1 := Kp.base fun b hb => by rw [List.mem_singleton] at hb; rw [hb, el]; trivial
    have nlc : lc ≠ l := ne_newL hl hlc
    have nlv : lv ≠ l := ne_newL hl hlv
    have fm : ∀ (gs : List Pt), (gs.flatMap fun g => xs.map fun a => updG g v a).length = gs.length * xs.length := fun gs => by
      induction gs with
      | nil => simp
      | cons g gs ih => rw [List.flatMap_cons, List.length_append, ih, List.length_map, List.length_cons, Nat.succ_mul, Nat.add_comm]
    refine r_forL refs (fun i σ' H' => ∃ (r2 : List V) (x4 x5 x6 : Option V), σ' = [some (.ref lc), some (.int v), some (.ref lv), some (.ref l), x4, x5, x6] ∧ H' l = some (.lst r2) ∧ ChsAt H' r2 ((gs.take i).flatMap fun g => xs.map fun a => updG g v a) (U ++ [v]) ∧ Kp [l] H1 H') ⟨[], _, _, _, rfl, el, .nil, bs⟩ (fun i σ' H' ⟨_, _, _, _, _, _, _, kk⟩ => kk.get1 nlc (k1.get0 hlc)) ?_ ?_
    · rintro i x σ' H2 hx ⟨r2, x4, x5, x6, rfl, e2, C2, kk⟩
      have K2 : Kp [] H H2 := Kp.trN kk k1 hl
      obtain ⟨g, p, hg, rfl, cp⟩ := (hC.kp0 K2).get hx
      have hi : i < gs.length := (List.getElem?_eq_some_iff.mp hg).1
      walk_at "cg"
      refine r_forL (xs.map V.int) (fun j σ' H' => ∃ (r3 : List V) (x5 x6 : Option V), σ' = [some (.ref lc), some (.int v), some (.ref lv), some (.ref l), some (.ref p), x5, x6] ∧ H' l = some (.lst r3) ∧ ChsAt H' r3 (((gs.take i).flatMap fun g => xs.map fun a => updG g v a) ++ (xs.take j).map fun a => updG g v a) (U ++ [v]) ∧ Kp [l] H2 H') ⟨r2, _, _, rfl, e2, by simpa using C2, Kp.base fun b hb => by rw [List.mem_singleton] at hb; rw [hb, e2]; trivial⟩ (fun i σ' H' ⟨_, _, _, _, _, _, k3⟩ => k3.get1 nlv (K2.get0 hlv)) ?_ ?_
      · rintro j y σ' H3 hy ⟨r3, x5, x6, rfl, e3, C3, k3⟩
        obtain ⟨a, ha, rfl⟩ : ∃ a, xs[j]? = some a ∧ y = .int a := by
          rw [List.getElem?_map] at hy
          obtain ⟨a, h1, h2⟩ := Option.map_eq_some_iff.mp hy
          exact ⟨a, h1, h2.symm⟩
        have hj : j < xs.length := (List.getElem?_eq_some_iff.mp ha).1
        have r3l : r3.length ≤ 9000 := by
          have h1 := C3.len
          rw [List.length_append, fm, List.length_take, List.length_map, List.length_take] at h1
          have h2 : (i + 1) * xs.length ≤ gs.length * xs.length := Nat.mul_le_mul_right _ (by omega)
          rw [Nat.succ_mul] at h2
          rw [Nat.min_eq_left (by omega), Nat.min_eq_left (by omega)] at h1
          omega
        obtain ⟨ks, ek, mk, lk⟩ := (cp.kp k3 (fun b hb kvs z => by rw [List.mem_singleton] at hb; rw [hb, e2] at z; cases z)).ex
        walk_at "cg"
        refine r_dictD ek fun q H4 hq eq k4 => ?_
        walk_at "cg"
        have hvk : ¬ v ∈ ks := fun h => hv ((mk v).mp h)
        refine r_putE eq (by omega) fun H5 e5 k5 => ?_
        have K5 : Kp [] H3 H5 := Kp.trN k5 k4 hq
        have c5 : ChAt H5 q (U ++ [v]) (updG g v a) := ⟨ks ++ [v], by rw [e5, if_neg hvk, ents_upd], fun u => by rw [List.mem_append, List.mem_append, mk u], by rw [List.length_append, List.length_append]; omega⟩
        have e35 := K5.get0 e3
        have C5 := C3.kp0 K5
        have nql : q ≠ l := ne_newR hq e3
        clear k4 k5 eq e5 ek
        walk_at "cg"
        refine r_app e35 (small1e4 (by omega)) fun H6 e6 k6 => ?_
        walk_at "cg"
        refine ⟨_, _, _, rfl, e6, ?_, Kp.tr1 k6 (Kp.tr0 K5 k3)⟩
        have et : (xs.take (j + 1)).map (fun a => updG g v a) = (xs.take j).map (fun a => updG g v a) ++ [updG g v a] := by
          rw [map_take_snoc ha]
        rw [et, ← List.append_assoc]
        refine ((C5.kpL k6 e35).snoc (c5.kp k6 fun b hb kvs z => ?_))
        rw [List.mem_singleton] at hb
        rw [hb, e35] at z
        cases z
      · rintro σ' H3 ⟨r3, x5, x6, rfl, e3, C3, k3⟩
        rw [List.length_map, List.take_length] at C3
        walk_at "cg"
        refine ⟨r3, _, _, _, rfl, e3, ?_, Kp.tr1 k3 kk⟩
        have et : (gs.take (i + 1)).flatMap (fun g => xs.map fun a => updG g v a) = (gs.take i).flatMap (fun g => xs.map fun a => updG g v a) ++ xs.map fun a => updG g v a := by
          rw [List.take_add_one, hg, List.flatMap_append]
          simp
        rw [et]
        exact C3
    · rintro σ' H2 ⟨r2, x4, x5, x6, rfl, e2, C2, kk⟩
      rw [gl, List.take_length] at C2
      walk_at "cg"
      exact k l r2 _ hl e2 C2 (Kp.trN kk k1 hl)
theorem ok_all_choices {f : Addr} {fd : FuncData} (F : Fun K "all_choices" "all_choices" s_all_choices f fd) (B : Bi K mg C_Model) (D_wider : Is P w K mg base CX0 1 "wider" ["choices", "v", "values"] (spWider K)) : FnOk P w K mg base CX0 2 f fd ["unknowns", "domains"] (spAllCh K) := by
  have nd := sc_all_choices.nd
  refine F.ok sc_all_choices ?len (fun cdv A outer s H vs Q E hr h => ?body)
  case len =>
    rintro vs H Q E ⟨lu, d, U, ks, D, rfl, _⟩
    rfl
  case body =>
    obtain ⟨lu, d, U, ks, D, rfl, hu, nd9, u60, hD, hk, ok, sz, k⟩ := h
    refine ⟨_, (pss_cons (ps_set (i := 2) nd rfl (Or.inl rfl) (pe_lst (pa_cons pe_dnewK pa_nil)))
      (pss_cons (ps_for PassesOwn.never rfl ((piLst K) (pv 0)) (pg_name (i := 3) nd rfl (Or.inl rfl))
      (pss_one (ps_set (i := 2) nd rfl (Or.inl rfl) (pe_is D_wider (hr.mono (by decide)) rfl pass0 (pa_cons (pv 2) (pa_cons (pv 3) (pa_cons (pe_ix ix_dK (pv 1) (pv 3) (fun _ _ => rfl)) pa_nil)))))))
      (pss_one (ps_ret (pv 2))))), ?_⟩
    try dsimp only [L2.cxOf, L2.Cx.nox, L2.Cx.wish]
    rw [st_all_choices]
    walk_at "cg"
    rename_i p0 H1 hp0 ep0 k1 l0 H2 hl0 el0 k2
    have C2 : ChsAt H2 [.ref p0] (chF (U.take 0) D) (U.take 0) := by
      refine ChsAt.nil.snoc (g := fun _ => 0) (p := p0) ⟨[], k2.get0 ep0, fun v => by simp, Nat.le_refl _⟩
    have K2 := Kp.tr0 k2 k1
    have fl0 : H l0 = none := k1.free0 hl0
    clear k1 k2 ep0 hp0
    refine r_forLI U (fun i σ' H' => ∃ (lc : Addr) (refs : List V) (x3 : Option V), σ' = [some (.ref lu), some (.ref d), some (.ref lc), x3] ∧ H lc = none ∧ H' lc = some (.lst refs) ∧ ChsAt H' refs (chF (U.take i) D) (U.take i) ∧ Kp [] H H') ⟨l0, _, _, rfl, fl0, el0, C2, K2⟩ (fun i σ' H' ⟨_, _, _, _, _, _, _, kk⟩ => kk.get0 hu) ?_ ?_
    · rintro i v σ' H3 hv ⟨lc, refs, x3, rfl, fl, el, C3, kk⟩
      have hvU := List.mem_of_getElem? hv
      have dv := ok v hvU
      have hi : i < U.length := (List.getElem?_eq_some_iff.mp hv).1
      have et : U.take (i + 1) = U.take i ++ [v] := by rw [List.take_add_one, hv]; rfl
      have nv : ¬ v ∈ U.take i := fun hm => by
        obtain ⟨_, ei⟩ := List.getElem?_eq_some_iff.mp hv
        obtain ⟨j, hj⟩ := List.getElem?_of_mem hm
        obtain ⟨hjl, ej⟩ := List.getElem?_eq_some_iff.mp hj
        rw [List.length_take] at hjl
        rw [List.getElem_take] at ej
        exact absurd (ej.trans ei.symm) (List.pairwise_iff_getElem.mp nd9 j i (by omega) hi (by omega))
      have s1 := chF_len U D i
      have s2 := chF_len U D (i + 1)
      have s3 := prodL_mono ok (i + 1)
      have s4 : (chF (U.take (i + 1)) D).length = (chF (U.take i) D).length * (D v).length := by
        rw [et, chF_snoc, chStep_len]
      walk_at "cg"
      refine r_getDom (hD.kp0 kk) (hk v hvU) fun b hb => ?_
      walk_at "cg"
      refine ⟨lc, b, v, refs, _, U.take i, D v, rfl, el, C3, fun _ _ => trivial, nv, by rw [List.length_take]; omega, hb, by omega, fun l r2 H4 hl el4 C4 k4 => ?_⟩
      walk_at "cg"
      refine ⟨l, r2, _, rfl, kk.free0 hl, el4, ?_, Kp.tr0 k4 kk⟩
      rw [et, chF_snoc]
      exact C4
    · rintro σ' H3 ⟨lc, refs, x3, rfl, fl, el, C3, kk⟩
      rw [List.take_length] at C3
      walk_at "cg"
      exact k lc refs _ fl el C3 kk
theorem ok_with_result {f : Addr} {fd : FuncData} (F : Fun K "with_result" "with_result" s_with_result f fd) (B : Bi K mg C_Model)  : FnOk P w K mg base CX0 1 f fd ["choice", "z", "worth", "domains"] (spWithR K) := by
  have nd := sc_with_result.nd
  refine F.ok sc_with_result ?len (fun cdv A outer s H vs Q E hr h => ?body)
  case len =>
    rintro vs H Q E ⟨p, d, z, wv, I, ks, D, g, rfl, _⟩
    rfl
  case body =>
    obtain ⟨p, d, z, wv, I, ks, D, g, rfl, hp, i60, hD, hz, k0, k1⟩ := h
    refine ⟨_, (pss_cons (ps_if (pt_cmp (pc_din (hu_of hr) (pv 1) (pv 0)))
      (pss_cons (ps_if (pt_cmpR op_ne (pe_ix ix_dK (pv 0) (pv 1) (fun _ _ => rfl)) (pv 2) (nomark _))
      (pss_one (ps_ret pe_non))
      pss_nil)
      (pss_one (ps_ret (pv 0))))
      pss_nil)
      (pss_cons (ps_if (pt_cmpR (notInS K) (pv 2) (pe_ix ix_dK (pv 3) (pv 1) (fun _ _ => rfl)) rfl)
      (pss_one (ps_ret pe_non))
      pss_nil)
      (pss_cons (ps_set (i := 4) nd rfl (Or.inl rfl) (pe_callTy cg_dictD (by rfl) B.n_dict (by decide +kernel) (pa_cons (pv 0) pa_nil)))
      (pss_cons (ps_dput (hu_of hr) (pv 4) (pv 1) (pv 2) rfl)
      (pss_one (ps_ret (pv 4))))))), ?_⟩
    try dsimp only [L2.cxOf, L2.Cx.nox, L2.Cx.wish]
    rw [st_with_result]
    obtain ⟨js, ej, mj, lj⟩ := hp.ex
    have ez : valV (ents js fun v => V.int (g v)) (Sum.inl z) = if z ∈ I then some (V.int (g z)) else none := by
      rw [valV_ents]
      by_cases h : z ∈ I
      · rw [if_pos h, if_pos ((mj z).mpr h)]
      · rw [if_neg h, if_neg (fun q => h ((mj z).mp q))]
    unfold withR at k0 k1
    by_cases hzI : z ∈ I
    · rw [if_pos hzI] at ez
      simp only [if_pos hzI] at k0 k1
      walk_at "cg"
      refine r_inDk1 (k := Sum.inl z) ej ez ?_
      walk_at "cg"
      refine r_ixDK ej ((mj z).mpr hzI) ?_
      walk_at "cg"
      refine if_S (fun g1 => ?_) (fun g1 => ?_)
      · rw [if_neg g1] at k0
        walk_at "cg"
        exact k0 rfl _ .refl
      · have g1 : g z = wv := by omega
        rw [if_pos g1] at k1
        walk_at "cg"
        exact k1 _ _ _ rfl hp .refl
    · rw [if_neg hzI] at ez
      simp only [if_neg hzI] at k0 k1
      walk_at "cg"
      refine r_inDk0 (k := Sum.inl z) ej ez ?_
      walk_at "cg"
      refine r_getDom hD hz fun b hb => ?_
      walk_at "cg"
      refine r_inL (b := !decide (wv ∈ D z)) hb rfl (flat_ints _) (by rw [inV_ints]; rfl) ?_
      walk_at "cg"
      refine if_NS (fun g1 => ?_) (fun g1 => ?_)
      · rw [if_neg g1] at k0
        walk_at "cg"
        exact k0 rfl _ .refl
      · rw [if_pos g1] at k1
        walk_at "cg"
        refine r_dictD ej fun q H2 hq eq k2 => ?_
        walk_at "cg"
        have hzj : ¬ z ∈ js := fun h => hzI ((mj z).mp h)
        refine r_putE eq (by omega) fun H3 e3 k3 => ?_
        walk_at "cg"
        refine k1 _ q H3 rfl ⟨js ++ [z], by rw [e3, if_neg hzj, ents_upd], fun u => by rw [List.mem_append, List.mem_append, mj u], by rw [List.length_append, List.length_append]; omega⟩ (Kp.trN k3 k2 hq)

end
section
variable {P : Program} {w : World} {K : PySem.W.Frag} {mg : Str → Option Value} {base : Heap} {C_Model : Addr}
theorem r_sum {K : PySem.W.Frag} {H : Hp} {Q : VK} {p : Addr} {ns : List Int} (h : H p = some (.lst (ns.map V.int))) (q : Q (.int ns.sum) H) : rSum K [.ref p] H Q := ⟨p, ns, rfl, SqL.of h, q⟩
theorem putAll_snoc : ∀ (zs : List (Int × List Int)) (D : Dm) (z : Int × List Int), putAll D (zs ++ [z]) = updD (putAll D zs) z.1 z.2
  | [], _, _ => rfl
  | y :: ys, D, z => by
    show putAll (updD D y.1 y.2) (ys ++ [z]) = _
    rw [putAll_snoc ys]
    rfl
structure CutAll (K : PySem.W.Frag) (c : Addr) (H : Hp) (refs : List V) (zs : List (Int × List Int)) : Prop where
  len : refs.length = zs.length
  at_ : ∀ (i : Nat) z, zs[i]? = some z → ∃ pt pl, refs[i]? = some (.ref pt) ∧ SqT K H pt [.int z.1, .ref pl] ∧ H pl = some (.lst (z.2.map V.int)) ∧ pl ≠ c
theorem CutAll.kp {K : PySem.W.Frag} {c : Addr} {H H' : Hp} {refs : List V} {zs : List (Int × List Int)} {S : List Addr} (h : CutAll K c H refs zs) (k : Kp S H H') (n : ∀ pl xs, H pl = some (.lst xs) → pl ≠ c → ¬ pl ∈ S) : CutAll K c H' refs zs :=
  ⟨h.len, fun i z hz => by
    obtain ⟨pt, pl, a, b, e, f⟩ := h.at_ i z hz
    exact ⟨pt, pl, a, k.tup b, k.get (n pl _ e f) e, f⟩⟩
theorem CutAll.snoc {K : PySem.W.Frag} {c pt pl : Addr} {H : Hp} {refs : List V} {zs : List (Int × List Int)} {z : Int × List Int} (h : CutAll K c H refs zs) (a : SqT K H pt [.int z.1, .ref pl]) (b : H pl = some (.lst (z.2.map V.int))) (n : pl ≠ c) : CutAll K c H (refs ++ [.ref pt]) (zs ++ [z]) :=
  ⟨by simp [h.len], fun i y hy => by
    rcases Nat.lt_or_ge i zs.length with hi | hi
    · rw [List.getElem?_append_left hi] at hy
      obtain ⟨pt', pl', e, r⟩ := h.at_ i y hy
      exact ⟨pt', pl', by rw [List.getElem?_append_left (by rw [h.len]; exact hi)]; exact e, r⟩
    · rw [List.getElem?_append_right hi] at hy
      have e0 : i - zs.length = 0 := by
        have := (List.getElem?_eq_some_iff.mp hy).1
        simp at this
        omega
      rw [e0] at hy
      simp at hy
      subst hy
      refine ⟨pt, pl, ?_, a, b, n⟩
      rw [List.getElem?_append_right (by rw [h.len]; exact hi), h.len, e0]
      rfl⟩
theorem live_fm (D : Dm) (ls : List Lit) : ls.filterMap (fun l => if (D l.v).any (fun a => l.r.h a l.a) = true then some l.d else none) = (liveL D ls).map Lit.d := by
  unfold liveL
  induction ls with
  | nil => rfl
  | cons l ls ih =>
    rw [List.filterMap_cons, List.filter_cons]
    cases h : (D l.v).any fun a => l.r.h a l.a
    · simp only [Bool.false_eq_true, if_false]
      exact ih
    · simp only [if_true, List.map_cons]
      rw [ih]
theorem ok_apply_row {f : Addr} {fd : FuncData} (F : Fun K "apply_row" "apply_row" s_apply_row f fd) (B : Bi K mg C_Model) (D_least_of : Is P w K mg base CX0 1 "least_of" ["c", "values"] (spLeast K)) : FnOk P w K mg base CX0 2 f fd ["domains", "row"] (spApplyR K) := by
  have nd := sc_apply_row.nd
  refine F.ok sc_apply_row ?len (fun cdv A outer s H vs Q E hr h => ?body)
  case len =>
    rintro vs H Q E ⟨d, p, ks, D, ts, n, rfl, _⟩
    rfl
  case body =>
    obtain ⟨d, p, ks, D, ts, n, rfl, hD, ok, l60, hf, tl, hk, k0, k1⟩ := h
    refine ⟨_, (pss_cons (ps_set (i := 2) nd rfl (Or.inl rfl) (pe_callB (cr_sum rfl) (by rfl) B.n_sum (by decide +kernel) (pa_cons (by exact pe_lc (own := [("v", 4), ("c", 5)]) (g := (gTup K 2 (gCons (gName 4) (gCons (gName 5) gNil)))) (tt := tYes) rfl nd (pi_tup (pe_ix (ixT K) (pv 1) pe_int (fun _ _ => rfl))) (blkOk_by (N := ["domains", "row", "least", "cut", "v", "c", "rest", "values", "a"]) (sc := defScope s_apply_row) (by decide +kernel)) (fun _ _ _ _ _ => (pg_tup (n := 2) rfl (pgs_cons (pg_name (i := 4) nd rfl (Or.inl rfl)) (pgs_cons (pg_name (i := 5) nd rfl (Or.inl rfl)) pgs_nil)))) (fun _ _ _ _ _ => pts_nil) (fun _ _ _ _ _ => (pe_is D_least_of (hr.mono (by decide)) rfl pass0 (pa_cons (pv 5) (pa_cons (pe_ix ix_dK (pv 0) (pv 4) (fun _ _ => rfl)) pa_nil))))) pa_nil)))
      (pss_cons (ps_if (pt_cmpR op_gt (pv 2) (pe_ix (ixT K) (pv 1) pe_int (fun _ _ => rfl)) (nomark _))
      (pss_one (ps_ret pe_bl))
      pss_nil)
      (pss_cons (ps_set (i := 3) nd rfl (Or.inl rfl) (pe_lst pa_nil))
      (pss_cons (ps_for PassesOwn.never rfl (pi_tup (pe_ix (ixT K) (pv 1) pe_int (fun _ _ => rfl))) (pg_tup (n := 2) rfl (pgs_cons (pg_name (i := 4) nd rfl (Or.inl rfl)) (pgs_cons (pg_name (i := 5) nd rfl (Or.inr rfl)) pgs_nil)))
      (pss_cons (ps_set (i := 6) nd rfl (Or.inr rfl) (pe_op op_sub (pv 2) (pe_is D_least_of (hr.mono (by decide)) rfl pass0 (pa_cons (pv 5) (pa_cons (pe_ix ix_dK (pv 0) (pv 4) (fun _ _ => rfl)) pa_nil)))))
      (pss_one (ps_expr (pe_bm PySem.F.plainAttrs_list PySem.F.slot_list_append PySem.F.type_list_append mt_append (pv 3) (pa_cons (pe_tup (pa_cons (pv 4) (pa_cons (by exact pe_lc (own := [("a", 8)]) (g := (gName 8)) rfl nd ((piLst K) (pe_ix ix_dK (pv 0) (pv 4) (fun _ _ => rfl))) (blkOk_by (N := ["domains", "row", "least", "cut", "v", "c", "rest", "values", "a"]) (sc := defScope s_apply_row) (by decide +kernel)) (fun _ _ _ _ _ => (pg_name (i := 8) nd rfl (Or.inl rfl))) (fun _ _ _ _ _ => pts_one (pt_cmpR op_le (pe_op op_add (pe_op op_mul (pv 5) (pv 8)) (pv 6)) (pe_ix (ixT K) (pv 1) pe_int (fun _ _ => rfl)) (nomark _))) (fun _ _ _ _ _ => (pv 8))) pa_nil))) pa_nil))))))
      (pss_cons (ps_for PassesOwn.never rfl ((piLst K) (pv 3)) (pg_tup (n := 2) rfl (pgs_cons (pg_name (i := 4) nd rfl (Or.inl rfl)) (pgs_cons (pg_name (i := 7) nd rfl (Or.inl rfl)) pgs_nil)))
      (pss_one (ps_dput (hu_of hr) (pv 0) (pv 4) (pv 7) rfl)))
      (pss_one (ps_ret pe_bl))))))), ?_⟩
    try dsimp only [L2.cxOf, L2.Cx.nox, L2.Cx.wish]
    rw [st_apply_row]
    obtain ⟨q, s0, i0⟩ := row_open hf
    obtain ⟨xs, h1, h2⟩ := i0.open
    walk_at "cg"
    refine lcT_i (as := ts) (d := tD) h1 h2 (fun z => leastOf z.2 (D z.1)) (by omega) (fun i z x H' R R' hz kk hx q1 => ?_) (fun D1 H1 hD1 eD1 k1' => ?_)
    · obtain ⟨px, rfl, hs⟩ := term_at hx
      have hzk := hk z (List.mem_of_getElem? hz)
      walk_at "cg"
      refine r_getDom (hD.kp0 kk) hzk fun b hb => ?_
      walk_at "cg"
      refine ⟨z.2, b, _, rfl, hb, ok z.1 hzk, ?_⟩
      exact q1 _ .refl
    walk_at "cg"
    refine r_sum (ns := ts.map fun z => leastOf z.2 (D z.1)) eD1 ?_
    have el : (ts.map fun z => leastOf z.2 (D z.1)).sum = leastR D ts := rfl
    rw [el]
    have s1 := k1'.tup s0
    have hD1' := hD.kp0 k1'
    have h11 := k1'.tup h1
    have h21 := k1'.imAll h2
    walk_at "cg"
    refine if_S (fun g => ?_) (fun g => ?_)
    · walk_at "cg"
      exact k0 _ (by unfold applyR; rw [if_pos (by omega)]) (Kp.tr0 k1' hD.mut)
    have ea : applyR D ts n = some (putAll D (ts.map fun z => (z.1, cutR D (leastR D ts) n z))) := by unfold applyR; rw [if_neg (by omega)]
    walk_at "cg"
    rename_i c H2 hc ec k2
    have K2 : Kp [] H H2 := Kp.tr0 k2 k1'
    have bs : Kp [c] H2 H2 := Kp.base fun b hb => by rw [List.mem_singleton] at hb; rw [hb, ec]; trivial
    have fc : H c = none := k1'.free0 hc
    refine r_forTI [c] (k2.tup h11) (k2.imAll h21) (fun i σ' H' => ∃ (refs : List V) (x4 x5 x6 x7 x8 : Option V), σ' = [some (.ref d), some (.ref p), some (.int (leastR D ts)), some (.ref c), x4, x5, x6, x7, x8] ∧ H' c = some (.lst refs) ∧ CutAll K c H' refs ((ts.take i).map fun z => (z.1, cutR D (leastR D ts) n z)) ∧ Kp [c] H2 H') ⟨[], _, _, _, _, _, rfl, ec, ⟨rfl, fun i z hz => (by simp at hz)⟩, bs⟩ (fun i σ' H' ⟨_, _, _, _, _, _, _, _, _, h⟩ => h) ?_ ?_
    · rintro i z x σ' H3 hz hx kk ⟨refs, x4, x5, x6, x7, x8, rfl, ec3, C3, -⟩
      obtain ⟨px, rfl, hs⟩ := term_at hx
      have hzk := hk z (List.mem_of_getElem? hz)
      have K3 : Kp [] H H3 := Kp.trN kk K2 fc
      have D3 := hD.kp0 K3
      have s3 := K3.tup s0
      have dz := ok z.1 hzk
      have hi : i < ts.length := (List.getElem?_eq_some_iff.mp hz).1
      walk_at "cg"
      refine r_getDom D3 hzk fun b hb => ?_
      walk_at "cg"
      refine ⟨z.2, b, _, rfl, hb, dz, ?_⟩
      walk_at "cg"
      refine r_getDom D3 hzk fun b hb => ?_
      walk_at "cg"
      refine lcL_fi (K := K) hb (fun a => decide (z.2 * a + (leastR D ts - leastOf z.2 (D z.1)) ≤ n)) dz.small (fun j a H4 R R' ha k4 q1 q2 => ?_) (fun b4 H4 hb4 eb4 k4 => ?_)
      · have ba := dz.bd a (List.mem_of_getElem? ha)
        have cm : CMul z.2 a := .inr ⟨by omega, by omega⟩
        have s4 := k4.tup s3
        walk_at "cg"
        refine if_S (fun g => ?_) (fun g => ?_)
        · walk_at "cg"
          exact q1 _ (decide_eq_true g) .refl
        · walk_at "cg"
          exact q2 _ (decide_eq_false g) .refl
      have eb4' : H4 b4 = some (.lst ((cutR D (leastR D ts) n z).map V.int)) := eb4
      have nbc : b4 ≠ c := ne_newR hb4 ec3
      have lrefs : refs.length ≤ 60 := by have := C3.len; simp at this; omega
      have ec4 := k4.get0 ec3
      walk_at "cg"
      rename_i p5 H5 hp5 s5 k5 H6 e6 k6
      refine ⟨_, _, _, _, _, _, rfl, e6, ?_, Kp.tr1 k6 (Kp.tr0 k5 (Kp.tr0 k4 kk))⟩
      rw [map_take_snoc hz]
      refine CutAll.snoc (pt := p5) (pl := b4) (((C3.kp k4 (fun _ _ _ _ z => nomatch z)).kp k5 (fun _ _ _ _ z => nomatch z)).kp k6 (fun pl _ _ n z => n (by simpa using z))) (k6.tup s5) (k6.get1 nbc (k5.get0 eb4')) nbc
    · rintro σ' H3 kk ⟨refs, x4, x5, x6, x7, x8, rfl, ec3, C3, -⟩
      rw [List.take_length] at C3
      have K3 : Kp [] H H3 := Kp.trN kk K2 fc
      have D3 := hD.kp0 K3
      have ncd : c ≠ d := by
        obtain ⟨f, e⟩ := D3.isD
        intro z
        rw [z, e] at ec3
        cases ec3
      generalize hzs : ts.map (fun z => (z.1, cutR D (leastR D ts) n z)) = zs at C3 ea
      have hzk : ∀ z ∈ zs, z.1 ∈ ks := fun z hz => by
        rw [← hzs] at hz
        obtain ⟨y, hy, rfl⟩ := List.mem_map.mp hz
        exact hk y hy
      walk_at "cg"
      refine r_forL refs (fun i σ' H' => ∃ (x4 x5 x6 x7 x8 : Option V), σ' = [some (.ref d), some (.ref p), some (.int (leastR D ts)), some (.ref c), x4, x5, x6, x7, x8] ∧ DomAt H' d ks (putAll D (zs.take i)) ∧ Kp [d] H3 H') ⟨_, _, _, _, _, rfl, D3, D3.mut⟩ (fun i σ' H' ⟨_, _, _, _, _, _, _, kk⟩ => kk.get1 ncd ec3) ?_ ?_
      · rintro i x σ' H4 hx ⟨x4, x5, x6, x7, x8, rfl, D4, k4⟩
        have hi : i < zs.length := by rw [← C3.len]; exact (List.getElem?_eq_some_iff.mp hx).1
        obtain ⟨z, hz⟩ : ∃ z, zs[i]? = some z := ⟨_, List.getElem?_eq_getElem hi⟩
        obtain ⟨pt, pl, e1, e2, e3, e4⟩ := C3.at_ i z hz
        rw [hx] at e1
        cases e1
        have s4 := k4.tup e2
        have npd : pl ≠ d := by
          obtain ⟨f, e⟩ := D3.isD
          intro z
          rw [z, e] at e3
          cases e3
        walk_at "cg"
        refine r_putDom D4 (hzk z (List.mem_of_getElem? hz)) (k4.get1 npd e3) (by omega) fun H5 D5 k5 => ?_
        walk_at "cg"
        refine ⟨_, _, _, _, _, rfl, ?_, Kp.tr1 k5 k4⟩
        have et : zs.take (i + 1) = zs.take i ++ [z] := by rw [List.take_add_one, hz]; rfl
        rw [et, putAll_snoc]
        exact D5
      · rintro σ' H4 ⟨x4, x5, x6, x7, x8, rfl, D4, k4⟩
        rw [C3.len, List.take_length] at D4
        walk_at "cg"
        exact k1 _ _ ea D4 (Kp.tr1 k4 (Kp.tr0 K3 hD.mut))
theorem ok_live_literals {f : Addr} {fd : FuncData} (F : Fun K "live_literals" "live_literals" s_live_literals f fd) (B : Bi K mg C_Model) (D_literal_holds : Is P w K mg base CX0 2 "literal_holds" ["literal", "worth"] (spLit K)) : FnOk P w K mg base CX0 3 f fd ["domains", "literals"] (spLive K) := by
  have nd := sc_live_literals.nd
  refine F.ok sc_live_literals ?len (fun cdv A outer s H vs Q E hr h => ?body)
  case len =>
    rintro vs H Q E ⟨d, p, ks, D, ls, rfl, _⟩
    rfl
  case body =>
    obtain ⟨d, p, ks, D, ls, rfl, hD, ok, l60, hI, ll, hk, k⟩ := h
    refine ⟨_, (pss_one (ps_ret (by exact pe_lc (own := [("literal", 2)]) (g := (gName 2)) rfl nd (pi_tup (pv 1)) (blkOk_by (N := ["domains", "literals", "literal", "a"]) (sc := defScope s_live_literals) (by decide +kernel)) (fun _ _ _ _ _ => (pg_name (i := 2) nd rfl (Or.inr rfl))) (fun _ _ _ _ _ => pts_one (pt_val (pe_callB (cgAny K rfl) (by rfl) B.n_any (by decide +kernel) (pa_cons (by apply pe_lc (own := [("a", 3)]) (g := (gName 3)) (tt := tYes) rfl nd; exact ((piLst K) (pe_ix ix_dK (pv 0) (pe_ix (ixT K) (pv 2) pe_int (fun _ _ => rfl)) (fun _ _ => rfl))); exact (blkOk_cap (N := ["domains", "literals", "literal", "a"]) [("literal", .cell)] (by decide +kernel) ⟨rfl, trivial⟩); exact (fun _ _ _ _ _ => (pg_name (i := 3) nd rfl (Or.inl rfl))); exact (fun _ _ _ _ _ => pts_nil); exact (fun _ _ _ _ _ => (pe_is D_literal_holds (hr.mono (by decide)) rfl pass0 (pa_cons (pv 2) (pa_cons (pv 3) pa_nil))))) pa_nil)))) (fun _ _ _ _ _ => (pv 2))))), ?_⟩
    try dsimp only [L2.cxOf, L2.Cx.nox, L2.Cx.wish]
    rw [st_live_literals]
    obtain ⟨xs, s1, i1⟩ := hI.open
    walk_at "cg"
    refine lcT_f (as := ls) (d := Lit.d) s1 i1 (fun l => if (D l.v).any (fun a => l.r.h a l.a) = true then some l.d else none) (by omega) (fun i l x H' R R' hl kk hx q1 q2 => ?_) (fun D1 H1 acc hD1 eD1 hA k1 => ?_)
    · obtain ⟨px, rfl, L⟩ := lit_at hx
      have hlk := hk l (List.mem_of_getElem? hl)
      have D' := hD.kp0 kk
      have d1 := ok l.v hlk
      walk_at "cg"
      refine r_getDom D' hlk fun b hb => ?_
      walk_at "cg"
      refine lcL_b (as := D l.v) (d := PyData.int) hb (imInts _) (fun a => l.r.h a l.a) d1.small (fun j a x2 H2 R2 R2' ha k2 hx2 q3 => ?_) (fun D2 H2 hD2 eD2 k2 => ?_)
      · cases hx2
        have L2 : LitAt K H2 px l.v l.r l.a := k2.tup L
        walk_at "cg"
        exact q3 _ .refl
      walk_at "cg"
      refine r_any eD2 ?_
      have ea : ((D l.v).map fun a => l.r.h a l.a).any id = (D l.v).any fun a => l.r.h a l.a := by rw [List.any_map]; rfl
      rw [ea]
      walk_at "cg"
      cases e : (D l.v).any fun a => l.r.h a l.a
      · walk_at "cg"
        exact q2 _ (by rw [e]; rfl) k2
      · walk_at "cg"
        exact q1 _ _ l.d (by rw [e]; rfl) (k2.im hx) k2
    walk_at "cg"
    rw [live_fm] at hA
    exact k D1 acc H1 hD1 eD1 hA k1
theorem ok_suppose_failing {f : Addr} {fd : FuncData} (F : Fun K "suppose_failing" "suppose_failing" s_suppose_failing f fd) (B : Bi K mg C_Model) (D_apply_row : Is P w K mg base CX0 2 "apply_row" ["domains", "row"] (spApplyR K)) (D_drop_literals : Is P w K mg base CX0 3 "drop_literals" ["domains", "literals"] (spDropL K)) (D_negation : Is P w K mg base CX0 2 "negation" ["fact"] (spNegF K)) : FnOk P w K mg base CX0 4 f fd ["domains", "fact"] (spSuppose K) := by
  have nd := sc_suppose_failing.nd
  refine F.ok sc_suppose_failing ?len (fun cdv A outer s H vs Q E hr h => ?body)
  case len =>
    rintro vs H Q E ⟨d, p, ks, D, f, m, rfl, _⟩
    rfl
  case body =>
    obtain ⟨d, p, ks, D, f, m, rfl, hD, ok, l60, hf, okf, hk, k0, k1⟩ := h
    refine ⟨_, (pss_cons (ps_if (pt_cmpR op_eq (pe_ix (ixT K) (pv 1) pe_int (fun _ _ => rfl)) pe_str (nomark _))
      (pss_one (ps_ret (pe_is D_drop_literals (hr.mono (by decide)) rfl pass0 (pa_cons (pv 0) (pa_cons (pe_ix (ixT K) (pv 1) pe_int (fun _ _ => rfl)) pa_nil)))))
      pss_nil)
      (pss_one (ps_ret (pe_is D_apply_row (hr.mono (by decide)) rfl pass0 (pa_cons (pv 0) (pa_cons (pe_is D_negation (hr.mono (by decide)) rfl pass0 (pa_cons (pv 1) pa_nil)) pa_nil)))))), ?_⟩
    try dsimp only [L2.cxOf, L2.Cx.nox, L2.Cx.wish]
    rw [st_suppose_failing]
    cases f with
    | any ls =>
      obtain ⟨q, s1, i1⟩ := any_open hf
      walk_at "cg"
      exact ⟨d, q, ks, D, ls, rfl, hD, ok, l60, i1, fun l hl => hk l.v (List.mem_map.mpr ⟨l, hl, rfl⟩), k0, k1⟩
    | row ts n =>
      obtain ⟨q, s1, i1⟩ := row_open hf
      walk_at "cg"
      refine ⟨p, .row ts n, rfl, hf, ok_tms okf, fun x H1 hx kk => ?_⟩
      have eg : (Fact.row ts n).ngt = some (.row (negT ts) (-n - 1)) := rfl
      rw [eg] at hx
      cases hx with
      | some hg =>
      walk_at "cg"
      refine ⟨d, _, ks, D, negT ts, -n - 1, rfl, hD.kp0 kk, ok, l60, hg, by unfold negT; rw [List.length_map]; exact okf.2.1, fun z hz => ?_, fun H2 e k2 => k0 H2 e (Kp.tr1 k2 (Kp.tr0 kk hD.mut)), fun D' H2 e D2 k2 => k1 D' H2 e D2 (Kp.tr1 k2 (Kp.tr0 kk hD.mut))⟩
      obtain ⟨y, hy, rfl⟩ := List.mem_map.mp hz
      exact hk y.1 (List.mem_map.mpr ⟨y, hy, rfl⟩)
theorem ok_ends_in_conflict {f : Addr} {fd : FuncData} (F : Fun K "ends_in_conflict" "ends_in_conflict" s_ends_in_conflict f fd) (B : Bi K mg C_Model) (D_live_literals : Is P w K mg base CX0 3 "live_literals" ["domains", "literals"] (spLive K)) (D_keep_literal : Is P w K mg base CX0 3 "keep_literal" ["domains", "literal"] (spKeepL K)) (D_apply_row : Is P w K mg base CX0 2 "apply_row" ["domains", "row"] (spApplyR K)) : FnOk P w K mg base CX0 4 f fd ["domains", "facts"] (spEnds K) := by
  have nd := sc_ends_in_conflict.nd
  refine F.ok sc_ends_in_conflict ?len (fun cdv A outer s H vs Q E hr h => ?body)
  case len =>
    rintro vs H Q E ⟨d, l, ks, D, refs, fs, m, rfl, _⟩
    rfl
  case body =>
    obtain ⟨d, l, ks, D, refs, fs, m, rfl, hD, ok, l60, hl, hA, hfs, k⟩ := h
    refine ⟨_, (pss_cons (ps_for PassesOwn.never rfl ((piLst K) (pv 1)) (pg_name (i := 2) nd rfl (Or.inl rfl))
      (pss_one (ps_if (pt_cmpR op_eq (pe_ix (ixT K) (pv 2) pe_int (fun _ _ => rfl)) pe_str (nomark _))
      (pss_one (ps_if (pt_not (pt_val (pe_is D_apply_row (hr.mono (by decide)) rfl pass0 (pa_cons (pv 0) (pa_cons (pv 2) pa_nil)))))
      (pss_one (ps_ret pe_bl))
      pss_nil))
      (pss_cons (ps_set (i := 3) nd rfl (Or.inl rfl) (pe_is D_live_literals (hr.mono (by decide)) rfl pass0 (pa_cons (pv 0) (pa_cons (pe_ix (ixT K) (pv 2) pe_int (fun _ _ => rfl)) pa_nil))))
      (pss_cons (ps_if (pt_cmpR op_eq (pe_callB (cgLen K) (by rfl) B.n_len PySem.boot_len (pa_cons (pv 3) pa_nil)) pe_int (nomark _))
      (pss_one (ps_ret pe_bl))
      pss_nil)
      (pss_cons (ps_if (pt_cmpR op_gt (pe_callB (cgLen K) (by rfl) B.n_len PySem.boot_len (pa_cons (pv 3) pa_nil)) pe_int (nomark _))
      (pss_one (ps_ret pe_bl))
      pss_nil)
      (pss_one (ps_expr (pe_is D_keep_literal (hr.mono (by decide)) rfl pass0 (pa_cons (pv 0) (pa_cons (pe_ix (ixL K) (pv 3) pe_int (fun _ _ => rfl)) pa_nil)))))))))))
      (pss_one (ps_ret pe_bl))), ?_⟩
    try dsimp only [L2.cxOf, L2.Cx.nox, L2.Cx.wish]
    rw [st_ends_in_conflict]
    have nld : l ≠ d := by
      obtain ⟨f, e⟩ := hD.isD
      intro z
      rw [z, e] at hl
      cases hl
    walk_at "cg"
    refine r_forLD [d] hl (by simpa using nld) hA (fun i σ' H' => ∃ (D1 : Dm) (x2 x3 : Option V), σ' = [some (.ref d), some (.ref l), x2, x3] ∧ endsB D fs = endsB D1 (fs.drop i) ∧ DomAt H' d ks D1 ∧ DomOk ks D1 ∧ Kp [d] H H') ⟨D, _, _, rfl, rfl, hD, ok, hD.mut⟩ (fun i σ' H' ⟨_, _, _, _, _, _, _, h⟩ => h) ?_ ?_
    · rintro i f x σ' H' hf hx kk ⟨D1, x2, x3, rfl, e1, D1', ok1, -⟩
      obtain ⟨pf, rfl, F⟩ := fact_at hx
      have of := hfs f (List.mem_of_getElem? hf)
      have ed : fs.drop i = f :: fs.drop (i + 1) := by
        obtain ⟨hi, rfl⟩ := List.getElem?_eq_some_iff.mp hf
        exact List.drop_eq_getElem_cons hi
      rw [ed] at e1
      cases f with
      | row ts n =>
        obtain ⟨q, s1, i1⟩ := row_open F
        have hk : ∀ z ∈ ts, z.1 ∈ ks := fun z hz => of.2 z.1 (List.mem_map.mpr ⟨z, hz, rfl⟩)
        rw [endsB_row] at e1
        walk_at "cg"
        refine ⟨d, pf, ks, D1, ts, n, rfl, D1', ok1, l60, F, of.1.2.1, hk, fun H2 e k2 => ?_, fun D2 H2 e D2' k2 => ?_⟩
        · rw [e] at e1
          walk_at "cg"
          have q := k H2 (Kp.tr1 k2 kk)
          rw [e1] at q
          exact q
        · rw [e] at e1
          walk_at "cg"
          exact ⟨D2, _, _, rfl, e1, D2', applyR_ok ok1 hk e, Kp.tr1 k2 kk⟩
      | any ls =>
        obtain ⟨q, s1, i1⟩ := any_open F
        have hk : ∀ l ∈ ls, l.v ∈ ks := fun l hl => of.2 l.v (List.mem_map.mpr ⟨l, hl, rfl⟩)
        have lv : ∀ l ∈ liveL D1 ls, l.v ∈ ks ∧ (D1 l.v).any (fun a => l.r.h a l.a) = true := fun l hl => ⟨hk l (live_any hl).1, (live_any hl).2⟩
        walk_at "cg"
        refine ⟨d, q, ks, D1, ls, rfl, D1', ok1, l60, i1, of.1.2, hk, fun b refs2 H2 hb eb hA2 k2 => ?_⟩
        have hl2 := mapLenP hA2
        have K2 := Kp.tr0 k2 kk
        generalize hlv1 : liveL D1 ls = lv1 at *
        match lv1, hA2, hl2, hlv1, lv with
        | [], hA2, hl2, hlv1, lv =>
          rw [endsB_any0 hlv1] at e1
          simp only [List.length_nil] at hl2
          walk_at "cg"
          have q := k H2 K2
          rw [e1] at q
          exact q
        | [l1], hA2, hl2, hlv1, lv =>
          rw [endsB_any1 hlv1] at e1
          simp only [List.length_cons, List.length_nil] at hl2
          obtain ⟨_, _, rfl, a1, h4⟩ := hA2.c
          obtain rfl := h4.n
          obtain ⟨px, rfl, L⟩ := lit_at a1
          have lv1 := lv l1 List.mem_cons_self
          walk_at "cg"
          refine ⟨d, px, ks, D1, l1, rfl, D1'.kp0 k2, ok1, l60, L, lv1.1, fun H3 D3 k3 => ?_⟩
          walk_at "cg"
          exact ⟨_, _, _, rfl, e1, D3, keepL_ok ok1 lv1.1 lv1.2, Kp.tr1 k3 K2⟩
        | l1 :: l2 :: lr, hA2, hl2, hlv1, lv =>
          rw [endsB_any2 hlv1] at e1
          simp only [List.length_cons] at hl2
          walk_at "cg"
          have q := k H2 K2
          rw [e1] at q
          exact q
    · rintro σ' H' kk ⟨D1, x2, x3, rfl, e1, D1', ok1, -⟩
      rw [List.drop_length] at e1
      walk_at "cg"
      have q := k H' kk
      rw [e1] at q
      exact q
theorem ok_follows_unit {f : Addr} {fd : FuncData} (F : Fun K "follows_unit" "follows_unit" s_follows_unit f fd) (B : Bi K mg C_Model) (D_unknowns_in : Is P w K mg base CX0 1 "unknowns_in" ["fact"] (spUnkIn K)) (D_full_domains : Is P w K mg base CX0 3 "full_domains" ["model", "unknowns"] (spFullD K C_Model)) (D_ends_in_conflict : Is P w K mg base CX0 4 "ends_in_conflict" ["domains", "facts"] (spEnds K)) (D_suppose_failing : Is P w K mg base CX0 4 "suppose_failing" ["domains", "fact"] (spSuppose K)) : FnOk P w K mg base CX0 5 f fd ["model", "fact", "facts"] (spUnit K C_Model) := by
  have nd := sc_follows_unit.nd
  refine F.ok sc_follows_unit ?len (fun cdv A outer s H vs Q E hr h => ?body)
  case len =>
    rintro vs H Q E ⟨a, M, p, l, refs, f, fs, rfl, _⟩
    rfl
  case body =>
    obtain ⟨a, M, p, l, refs, f, fs, rfl, hM, h60, us, hf, okf, hl, hA, hfs, f60, k⟩ := h
    refine ⟨_, (pss_cons (ps_set (i := 3) nd rfl (Or.inl rfl) (pe_is D_unknowns_in (hr.mono (by decide)) rfl pass0 (pa_cons (pv 1) pa_nil)))
      (pss_cons (ps_for PassesOwn.never rfl ((piLst K) (pv 2)) (pg_name (i := 4) nd rfl (Or.inl rfl))
      (pss_one (ps_set (i := 3) nd rfl (Or.inl rfl) (pe_op (op_catL K) (pv 3) (pe_is D_unknowns_in (hr.mono (by decide)) rfl pass0 (pa_cons (pv 4) pa_nil))))))
      (pss_cons (ps_set (i := 5) nd rfl (Or.inl rfl) (pe_is D_full_domains (hr.mono (by decide)) rfl pass0 (pa_cons (pv 0) (pa_cons (pe_callB (cr_sortedSet rfl) (by rfl) B.n_sorted (by decide +kernel) (pa_cons (pe_callTy (cg_setL rfl) (by rfl) B.n_set PyProof.Rows.boot_set (pa_cons (pv 3) pa_nil)) pa_nil)) pa_nil))))
      (pss_cons (ps_if (pt_not (pt_val (pe_is D_suppose_failing (hr.mono (by decide)) rfl pass0 (pa_cons (pv 5) (pa_cons (pv 1) pa_nil)))))
      (pss_one (ps_ret pe_bl))
      pss_nil)
      (pss_one (ps_ret (pe_is D_ends_in_conflict (hr.mono (by decide)) rfl pass0 (pa_cons (pv 5) (pa_cons (pv 2) pa_nil))))))))), ?_⟩
    try dsimp only [L2.cxOf, L2.Cx.nox, L2.Cx.wish]
    rw [st_follows_unit]
    have few : ∀ {f : Fact}, f.ok M.us.length → f.vars.length ≤ 60 := fun {f} h => by
      cases f with
      | row ts n => simpa [Fact.vars] using h.2.1
      | any ls => simpa [Fact.vars] using h.2
    walk_at "cg"
    refine ⟨p, f, rfl, hf, few okf, fun u1 ns1 H1 hu1 eu1 as1 m1 k1 => ?_⟩
    have n1 : ns1.length ≤ 60 := by have := asc_le as1 m1; have := few okf; omega
    walk_at "cg"
    refine r_forLD [] (k1.get0 hl) (by simp) (k1.imAll hA) (fun i σ' H' => ∃ (lu : Addr) (ns : List Int) (x4 : Option V), σ' = [some (.ref a.p), some (.ref p), some (.ref l), some (.ref lu), x4, none] ∧ H' lu = some (.lst (ns.map V.int)) ∧ (∀ v, v ∈ ns ↔ v ∈ f.vars ∨ ∃ g ∈ fs.take i, v ∈ g.vars) ∧ ns.length ≤ 60 + 60 * i ∧ Kp [] H1 H') ⟨u1, ns1, _, rfl, eu1, fun v => by simp [m1 v], by omega, .refl⟩ (fun i σ' H' ⟨_, _, _, _, _, _, _, h⟩ => h) ?_ ?_
    · rintro i g x σ' H2 hg hx kk ⟨lu, ns, x4, rfl, elu, mem, ln, -⟩
      obtain ⟨pg, rfl, G⟩ := fact_at hx
      have og := hfs g (List.mem_of_getElem? hg)
      have hi : i < fs.length := (List.getElem?_eq_some_iff.mp hg).1
      walk_at "cg"
      refine ⟨pg, g, rfl, G, few og, fun u2 ns2 H3 hu2 eu2 as2 m2 k2 => ?_⟩
      have n2 : ns2.length ≤ 60 := by have := asc_le as2 m2; have := few og; omega
      walk_at "cg"
      refine r_cat (k2.get0 elu) eu2 (by rw [List.length_map, List.length_map]; omega) fun u3 H4 hu3 eu3 k3 => ?_
      walk_at "cg"
      refine ⟨u3, ns ++ ns2, _, rfl, by rw [eu3, List.map_append], fun v => ?_, by rw [List.length_append]; omega, Kp.tr0 k3 (Kp.tr0 k2 kk)⟩
      rw [List.mem_append, mem v, m2 v, List.take_add_one, hg]
      constructor
      · rintro ((h | ⟨g', h1, h2⟩) | h)
        · exact .inl h
        · exact .inr ⟨g', List.mem_append_left _ h1, h2⟩
        · exact .inr ⟨g, List.mem_append_right _ (by simp), h⟩
      · rintro (h | ⟨g', h1, h2⟩)
        · exact .inl (.inl h)
        · rcases List.mem_append.mp h1 with h1 | h1
          · exact .inl (.inr ⟨g', h1, h2⟩)
          · simp at h1
            subst h1
            exact .inr h2
    · rintro σ' H2 kk ⟨lu, ns, x4, rfl, elu, mem, ln, -⟩
      rw [List.take_length] at mem
      have rng : ∀ v ∈ ns, 0 ≤ v ∧ v < M.us.length := fun v hv => by
        rcases (mem v).mp hv with h | ⟨g, h1, h2⟩
        · exact Fact.ok_vars okf v h
        · exact Fact.ok_vars (hfs g h1) v h2
      walk_at "cg"
      refine r_setS2 elu (by omega) fun S H3 cS hS eS hcS k3 => ?_
      have cc := hcS (upTo M.us.length) fun j hj => mem_upTo.mpr (rng j hj)
      have cc2 : cS < 64 := by simp [upTo] at cc; omega
      walk_at "cg"
      refine r_sortS eS cc2 fun lk ks H4 hlk elk asc mk k4 => ?_
      have mk' : ∀ v, v ∈ ks ↔ v ∈ ns := fun v => by rw [mk v, decide_eq_true_eq]
      have K4 : Kp [] H H4 := Kp.tr0 k4 (Kp.tr0 k3 (Kp.tr0 kk k1))
      walk_at "cg"
      refine ⟨a, M, lk, ks, rfl, hM.kp0 K4, h60, us, elk, asc.imp (fun {a b} h => by omega), fun v hv => rng v ((mk' v).mp hv), fun d H5 hd D5 k5 => ?_⟩
      have okD : DomOk ks (fullD M.us) := fullD_ok us fun v hv => rng v ((mk' v).mp hv)
      have l60 : ks.length ≤ 60 := by
        have := nodup_le (us := upTo M.us.length) (asc.imp (fun {a b} h => by omega)) fun k hk' => mem_upTo.mpr (rng k ((mk' k).mp hk'))
        simp [upTo] at this
        omega
      have K5 : Kp [] H H5 := Kp.tr0 k5 K4
      have fd : H d = none := K4.free0 hd
      have hvf : ∀ v ∈ f.vars, v ∈ ks := fun v hv => (mk' v).mpr ((mem v).mpr (.inl hv))
      have hvs : ∀ g ∈ fs, g.ok (M.us.length : Int) ∧ ∀ v ∈ g.vars, v ∈ ks := fun g hg => ⟨hfs g hg, fun v hv => (mk' v).mpr ((mem v).mpr (.inr ⟨g, hg, hv⟩))⟩
      walk_at "cg"
      refine ⟨d, p, ks, _, f, _, rfl, D5, okD, l60, K5.im hf, okf, hvf, fun H6 e k6 => ?_, fun D' H6 e D6 k6 => ?_⟩
      · walk_at "cg"
        have q := k H6 (Kp.trN k6 K5 fd)
        unfold unitB at q
        rw [e] at q
        exact q
      · have K6 := Kp.trN k6 K5 fd
        have okD' : DomOk ks D' := by
          cases f with
          | any ls => exact dropL_ok ls okD (fun l hl => hvf l.v (List.mem_map.mpr ⟨l, hl, rfl⟩)) e
          | row ts n => exact applyR_ok okD (fun z hz => by
              obtain ⟨y, hy, rfl⟩ := List.mem_map.mp hz
              exact hvf y.1 (List.mem_map.mpr ⟨y, hy, rfl⟩)) e
        walk_at "cg"
        refine ⟨d, l, ks, D', refs, fs, _, rfl, D6, okD', l60, K6.get0 hl, K6.imAll hA, hvs, fun H7 k7 => ?_⟩
        have q := k H7 (Kp.trN k7 K6 fd)
        unfold unitB at q
        rw [e] at q
        exact q

theorem ok_follows_sum {f : Addr} {fd : FuncData} (F : Fun K "follows_sum" "follows_sum" s_follows_sum f fd) (B : Bi K mg C_Model) (D_as_row : Is P w K mg base CX0 1 "as_row" ["fact"] (spAsRow K)) : FnOk P w K mg base CX0 2 f fd ["entries", "fact", "pairs"] (spSum K) := by
  have nd := sc_follows_sum.nd
  refine F.ok sc_follows_sum ?len (fun cdv A outer s H vs Q E hr h => ?body)
  case len =>
    rintro vs H Q E ⟨l, p, q, es, f, ps, n, rfl, _⟩
    rfl
  case body =>
    obtain ⟨l, p, q, es, f, ps, n, rfl, hE, ok, n60, hf, hq, hps, k⟩ := h
    refine ⟨_, (pss_cons (ps_if (pt_cmpR op_ne (pe_ix (ixT K) (pv 1) pe_int (fun _ _ => rfl)) pe_str (nomark _))
      (pss_one (ps_ret pe_bl))
      pss_nil)
      (pss_cons (ps_set (i := 3) nd rfl (Or.inr rfl) pe_dnewK)
      (pss_cons (ps_set (i := 4) nd rfl (Or.inl rfl) pe_int)
      (pss_cons (ps_for PassesOwn.never rfl (pi_tup (pv 2)) (pg_tup (n := 2) rfl (pgs_cons (pg_name (i := 5) nd rfl (Or.inl rfl)) (pgs_cons (pg_name (i := 6) nd rfl (Or.inl rfl)) pgs_nil)))
      (pss_cons (ps_set (i := 7) nd rfl (Or.inl rfl) (pe_is D_as_row (hr.mono (by decide)) rfl pass0 (pa_cons (pe_ix (ixT K) (pe_ix (ixL K) (pv 0) (pv 5) (fun _ _ => rfl)) pe_int (fun _ _ => rfl)) pa_nil)))
      (pss_cons (ps_if (PW.pt (pw_or (pt_cmpR op_lt (pv 6) pe_int (nomark _)) (pw_or1 (pt_cmpR cg_isN (pv 7) pe_non (nomark _)))))
      (pss_one (ps_ret pe_bl))
      pss_nil)
      (pss_cons (ps_for PassesOwn.never rfl (pi_tup (pe_ix (ixT K) (pv 7) pe_int (fun _ _ => rfl))) (pg_tup (n := 2) rfl (pgs_cons (pg_name (i := 8) nd rfl (Or.inl rfl)) (pgs_cons (pg_name (i := 9) nd rfl (Or.inl rfl)) pgs_nil)))
      (pss_one (ps_dput (hu_of hr) (pv 3) (pv 8) (pe_op op_add (pe_dget2 (hu_of hr) (pv 3) (pv 8) pe_int ⟨rfl, rfl, rfl, rfl⟩) (pe_op op_mul (pv 6) (pv 9))) rfl)))
      (pss_one (ps_aug (i := 4) nd rfl (Or.inl rfl) (pe_op op_mul (pv 6) (pe_ix (ixT K) (pv 7) pe_int (fun _ _ => rfl))) ip_add))))))
      (pss_cons (ps_set (i := 10) nd rfl (Or.inl rfl) (pe_callTy (cgTuple K) (by rfl) B.n_tuple (by decide +kernel) (pa_cons (by exact pe_lc (own := [("v", 8)]) (g := (gName 8)) rfl nd ((piLst K) (pe_callB (cg_sortDI rfl) (by rfl) B.n_sorted (by decide +kernel) (pa_cons (pv 3) pa_nil))) (blkOk_by (N := ["entries", "fact", "pairs", "sums", "rhs", "i", "m", "row", "v", "c", "terms"]) (sc := defScope s_follows_sum) (by decide +kernel)) (fun _ _ _ _ _ => (pg_name (i := 8) nd rfl (Or.inl rfl))) (fun _ _ _ _ _ => pts_one (pt_cmpR op_ne (pe_ix ix_dK (pv 3) (pv 8) (fun _ _ => rfl)) pe_int (nomark _))) (fun _ _ _ _ _ => (pe_tup (pa_cons (pv 8) (pa_cons (pe_ix ix_dK (pv 3) (pv 8) (fun _ _ => rfl)) pa_nil))))) pa_nil)))
      (pss_one (ps_ret (pe_and (pe_cmpR (eqD K hr) (pe_ix (ixT K) (pv 1) pe_int (fun _ _ => rfl)) (pv 10) (nomark _)) (pe_one (pe_cmpR op_ge (pe_ix (ixT K) (pv 1) pe_int (fun _ _ => rfl)) (pv 4) (nomark _))))))))))), ?_⟩
    try dsimp only [L2.cxOf, L2.Cx.nox, L2.Cx.wish]
    rw [st_follows_sum]
    cases f with
    | any ls =>
      obtain ⟨qf, sf, jf⟩ := any_open hf
      walk_at "cg"
      have e : sumDue n (addL es ps) (.any ls) = false := by unfold sumDue; cases addL es ps <;> rfl
      rw [e] at k
      exact k _ .refl
    | row us r =>
      obtain ⟨qf, sf, jf⟩ := row_open hf
      obtain ⟨refs, el, A⟩ := hE.ex
      obtain ⟨xs, s1, i1⟩ := hq.open
      walk_at "cg"
      rename_i d H1 hd ed k1
      have nld : l ≠ d := ne_newL hd el
      have bs : Kp [d] H1 H1 := Kp.base fun b hb => by rw [List.mem_singleton] at hb; rw [hb, ed]; trivial
      have bad : ∀ {i : Nat} {z : Int × Int} {H' : Hp}, ps[i]? = some z → pairRow es z = none → Kp [d] H1 H' → Q (.bl false) H' := fun hz e kk => by
        have q := k _ (Kp.trN kk k1 hd)
        rw [addL_bad hz e] at q
        exact q
      refine r_forTI [d] (k1.tup s1) (k1.imAll i1) (fun i σ' H' => ∃ (ts : Tms) (rhs : Int) (ks : List Int) (x5 x6 x7 x8 x9 : Option V), σ' = [some (.ref l), some (.ref p), some (.ref q), some (.ref d), some (.int rhs), x5, x6, x7, x8, x9, none] ∧ addL es (ps.take i) = some (ts, rhs) ∧ H' d = some (.dK (ents ks fun v => .int (coefF ts v))) ∧ ks.Nodup ∧ (∀ v, v ∈ ks ↔ v ∈ ts.map (·.1)) ∧ Kp [d] H1 H') ⟨[], 0, [], none, none, none, none, none, rfl, rfl, ed, List.nodup_nil, fun v => by simp, bs⟩ (fun i σ' H' ⟨_, _, _, _, _, _, _, _, _, _, _, _, _, h⟩ => h) ?_ ?_
      · rintro i z x σ' H' hz hx kk ⟨ts, rhs, ks, x5, x6, x7, x8, x9, rfl, ea, ed', nd9, hks, -⟩
        obtain ⟨px, rfl, sx⟩ := term_at hx
        have hpz := hps z (List.mem_of_getElem? hz)
        have K' := Kp.trN kk k1 hd
        obtain ⟨pe, qe, s, ys, ex, hpr, hsm, _, spe, fe⟩ := ent_awake (K'.imAll A) hpz.1
        have okts : ∀ y ∈ ts, 0 ≤ y.1 ∧ y.1 < (n : Int) := addL_ok ok (ps.take i) (o := some ([], 0)) (t := (ts, rhs)) (fun t e => by cases e; simp) ea
        walk_at "cg"
        refine r_ixL (kk.get (by simpa using nld) (k1.get0 el)) ex ?_
        walk_at "cg"
        refine r_ixT spe atI_0 ?_
        walk_at "cg"
        refine ⟨qe, s.f, rfl, fe, fun y H2 hy k2 => ?_⟩
        have kk2 := Kp.tr0 k2 kk
        have ed2 := k2.get0 ed'
        walk_at "cg"
        refine if_S (fun g => ?_) (fun g => ?_)
        · walk_at "cg"
          exact bad hz (by unfold pairRow; rw [if_pos g]) kk2
        · have epr : pairRow es z = (s.f.asRow).map fun r => (scaleT z.2 r.1, z.2 * r.2) := by
            unfold pairRow
            rw [if_neg g, hpr]
            rfl
          have okr : ∀ ts n9, s.f.asRow = some (ts, n9) → Fact.ok n (.row ts n9) := fun ts n9 e => asRow_ok (ok s hsm) e
          generalize s.f.asRow = ro at hy epr okr
          cases hy with
          | none =>
            walk_at "cg"
            exact bad hz epr kk2
          | some hr =>
            rename_i pr vs nr
            obtain ⟨qr, sr, ir⟩ := row_open hr
            obtain ⟨ys2, s2, i2⟩ := ir.open
            have ovs := okr vs nr rfl
            have nsn : addL es (ps.take (i + 1)) = some (ts ++ scaleT z.2 vs, rhs + z.2 * nr) := by
              rw [addL_take hz, ea]
              unfold addStep
              rw [epr]
              rfl
            clear hr ir ed' spe fe hx kk K'
            walk_at "cg"
            have bs2 : Kp [d] H2 H2 := Kp.base fun b hb => by rw [List.mem_singleton] at hb; rw [hb, ed2]; trivial
            refine r_forTI [d] s2 i2 (fun j σ' H' => ∃ (ks : List Int) (x8 x9 : Option V), σ' = [some (.ref l), some (.ref p), some (.ref q), some (.ref d), some (.int rhs), some (.int z.1), some (.int z.2), some (.ref pr), x8, x9, none] ∧ H' d = some (.dK (ents ks fun v => .int (coefF (ts ++ scaleT z.2 (vs.take j)) v))) ∧ ks.Nodup ∧ (∀ v, v ∈ ks ↔ v ∈ (ts ++ scaleT z.2 (vs.take j)).map (·.1)) ∧ Kp [d] H2 H') ⟨ks, x8, x9, rfl, by simpa [scaleT] using ed2, nd9, by simpa [scaleT] using hks, bs2⟩ (fun i σ' H' ⟨_, _, _, _, _, _, _, h⟩ => h) ?_ ?_
            · rintro j u x2 σ' H3 hu hx2 k3 ⟨ks3, x8, x9, rfl, ed3, nd3, hks3, -⟩
              obtain ⟨px2, rfl, sx2⟩ := term_at hx2
              have ou := ovs.1 u (List.mem_of_getElem? hu)
              have est : ∀ v, coefF (ts ++ scaleT z.2 (vs.take (j + 1))) v = if v = u.1 then coefF (ts ++ scaleT z.2 (vs.take j)) u.1 + z.2 * u.2 else coefF (ts ++ scaleT z.2 (vs.take j)) v := fun v => by
                rw [scale_take hu, ← List.append_assoc, coefF_snoc]
              have emem : ∀ v, v ∈ (ts ++ scaleT z.2 (vs.take (j + 1))).map (·.1) ↔ v ∈ (ts ++ scaleT z.2 (vs.take j)).map (·.1) ∨ v = u.1 := fun v => by
                rw [scale_take hu, ← List.append_assoc, List.map_append, List.mem_append]
                simp
              have hin : ∀ v, v ∈ ks3 → 0 ≤ v ∧ v < (n : Int) := fun v hv => by
                obtain ⟨y, hy, rfl⟩ := List.mem_map.mp ((hks3 v).mp hv)
                rcases List.mem_append.mp hy with h | h
                · exact okts y h
                · exact scale_ok (fun w hw => by have := ovs.1 w (List.mem_of_mem_take hw); omega) h
              have l60 : ks3.length ≤ 60 := by
                have := nodup_le (us := upTo n) nd3 fun k hk => mem_upTo.mpr (hin k hk)
                simp [upTo] at this
                omega
              walk_at "cg"
              refine r_isDk ed3 ?_
              walk_at "cg"
              refine r_dgC ed3 (fun h => coefF_zero fun h2 => h ((hks3 _).mpr h2)) ?_
              walk_at "cg"
              refine r_putE ed3 (by omega) fun H4 e4 k4 => ?_
              walk_at "cg"
              refine ⟨if u.1 ∈ ks3 then ks3 else ks3 ++ [u.1], _, _, rfl, ?_, ?_, ?_, Kp.tr1 k4 k3⟩
              · rw [e4]
                congr 2
                congr 1
                funext v
                rw [est v]
                by_cases e : v = u.1
                · rw [if_pos e, if_pos e]
                · rw [if_neg e, if_neg e]
              · by_cases h : u.1 ∈ ks3
                · rw [if_pos h]
                  exact nd3
                · rw [if_neg h, List.nodup_append]
                  refine ⟨nd3, by simp, fun a ha b hb e => ?_⟩
                  rw [List.mem_singleton] at hb
                  rw [e, hb] at ha
                  exact h ha
              · intro v
                rw [emem v, ← hks3 v]
                by_cases h : u.1 ∈ ks3
                · rw [if_pos h]
                  exact ⟨.inl, fun q => q.elim id fun e => e ▸ h⟩
                · rw [if_neg h, List.mem_append, List.mem_singleton]
            · rintro σ' H3 k3 ⟨ks3, x8, x9, rfl, ed3, nd3, hks3, -⟩
              rw [List.take_length] at ed3 hks3
              have sr3 := k3.tup sr
              walk_at "cg"
              exact ⟨_, _, ks3, _, _, _, _, _, rfl, nsn, ed3, nd3, hks3, Kp.tr1 k3 kk2⟩
      · rintro σ' H' kk ⟨ts, rhs, ks, x5, x6, x7, x8, x9, rfl, ea, ed', nd9, hks, -⟩
        rw [List.take_length] at ea
        have okts : ∀ y ∈ ts, 0 ≤ y.1 ∧ y.1 < (n : Int) := addL_ok ok ps (o := some ([], 0)) (t := (ts, rhs)) (fun t e => by cases e; simp) ea
        have hin : ∀ v, v ∈ ks → 0 ≤ v ∧ v < (n : Int) := fun v hv => by
          obtain ⟨y, hy, rfl⟩ := List.mem_map.mp ((hks v).mp hv)
          exact okts y hy
        have l60 : ks.length ≤ 60 := by
          have := nodup_le (us := upTo n) nd9 fun k hk => mem_upTo.mpr (hin k hk)
          simp [upTo] at this
          omega
        have K' := Kp.trN kk k1 hd
        walk_at "cg"
        refine r_sortDI ed' nd9 (by omega) fun ys ly H2 hys hmem hly ely k2 => ?_
        walk_at "cg"
        have lys : ys.length ≤ 60 := by
          have := nodup_le (us := ks) (hys.imp fun {a b} h => by omega) fun k hk => (hmem k).mp hk
          omega
        refine lcL_f (xs := ys.map V.int) (as := ys) (d := PyData.int) ely (imInts ys) (fun v => if coefF ts v = 0 then none else some (tD (v, coefF ts v))) (by omega) (fun j v x H3 R R' hv k3 hx q1 q2 => ?_) (fun D H3 acc hD eD hA k3 => ?_)
        · cases hx
          have hvk : v ∈ ks := (hmem v).mp (List.mem_of_getElem? hv)
          have ed3 := k3.get0 (k2.get0 ed')
          walk_at "cg"
          refine r_ixDK ed3 hvk ?_
          walk_at "cg"
          refine if_S (fun g => ?_) (fun g => ?_)
          · walk_at "cg"
            refine r_ixDK ed3 hvk ?_
            walk_at "cg"
            exact q1 _ _ (tD (v, coefF ts v)) (by rw [if_neg g]) (.tup (by assumption) (.cons (.int _) (.cons (.int _) .nil))) (by walk_at "cg kp")
          · walk_at "cg"
            exact q2 _ (by rw [if_pos (Decidable.of_not_not g)]) .refl
        · have hN : ImAll K H3 acc ((normT n ts).map tD) := by
            have e : ys.filterMap (fun v => if coefF ts v = 0 then none else some (tD (v, coefF ts v))) = (normT n ts).map tD := by
              unfold normT
              rw [List.map_filterMap, ← fm_asc hys (fun k hk => hin k ((hmem k).mp hk)) (fun k hk => ?_)]
              · congr 1
                funext v
                by_cases g : coefF ts v = 0
                · rw [if_pos g, if_pos g]; rfl
                · rw [if_neg g, if_neg g]; rfl
              · rw [if_pos (coefF_zero fun h => hk ((hmem k).mpr ((hks k).mpr h)))]
                rfl
            rw [← e]
            exact hA
          have K3 := Kp.tr0 k3 (Kp.tr0 k2 K')
          have sf3 := K3.tup sf
          have jf3 := K3.im jf
          walk_at "cg"
          rename_i p5 H5 hp5 s5 k5
          have N5 : Im K H5 (.ref p5) (tmD (normT n ts)) := .tup s5 (k5.imAll hN)
          rw [ea] at k
          have ed5 : sumDue n (some (ts, rhs)) (.row us r) = (decide (us = normT n ts) && decide (r ≥ rhs)) := rfl
          rw [ed5] at k
          refine r_eqTm (a := us) (b := normT n ts) (k5.im jf3) N5 ?_
          walk_at "cg"
          refine if_S (fun g => ?_) (fun g => ?_)
          · rw [decide_eq_true g, Bool.true_and] at k
            walk_at "cg"
            exact k _ (Kp.tr0 k5 K3)
          · rw [decide_eq_false g, Bool.false_and] at k
            walk_at "cg"
            exact k _ (Kp.tr0 k5 K3)

end
section
variable {P : Program} {w : World} {K : PySem.W.Frag} {mg : Str → Option Value} {base : Heap} {C_Model : Addr}
theorem ok_table_choices {f : Addr} {fd : FuncData} (F : Fun K "table_choices" "table_choices" s_table_choices f fd) (B : Bi K mg C_Model)  : FnOk P w K mg base CX0 1 f fd ["body", "domains"] (spBodyCh K isTab) := by
  have nd := sc_table_choices.nd
  refine F.ok sc_table_choices ?len (fun cdv A outer s H vs Q E hr h => ?body)
  case len =>
    rintro vs H Q E ⟨p, d, b, m, D, rfl, _⟩
    rfl
  case body =>
    obtain ⟨p, d, b, m, D, rfl, hP, hb, fit, m60, hD, ok, _, k⟩ := h
    refine ⟨_, (pss_cons (ps_set (i := 2) nd rfl (Or.inl rfl) (pe_lst pa_nil))
      (pss_cons (ps_for PassesOwn.never rfl (pi_tup (pe_ix (ixT K) (pv 0) pe_int (fun _ _ => rfl))) (pg_name (i := 3) nd rfl (Or.inl rfl))
      (pss_one (ps_if (pt_val (pe_callB (cr_all rfl) (by rfl) B.n_all (by decide +kernel) (pa_cons (by exact pe_lc (own := [("v", 4), ("a", 5)]) (g := (gTup K 2 (gCons (gName 4) (gCons (gName 5) gNil)))) (tt := tYes) rfl nd (piZipA K rfl B.n_zip (pa_cons (pe_ix (ixT K) (pv 0) pe_int (fun _ _ => rfl)) (pa_cons (pv 3) pa_nil))) (blkOk_by (N := ["body", "domains", "found", "row", "v", "a"]) (sc := defScope s_table_choices) (by decide +kernel)) (fun _ _ _ _ _ => (pg_tup (n := 2) rfl (pgs_cons (pg_name (i := 4) nd rfl (Or.inl rfl)) (pgs_cons (pg_name (i := 5) nd rfl (Or.inl rfl)) pgs_nil)))) (fun _ _ _ _ _ => pts_nil) (fun _ _ _ _ _ => (pe_cmpR (inS K) (pv 5) (pe_ix ix_dK (pv 1) (pv 4) (fun _ _ => rfl)) rfl))) pa_nil)))
      (pss_one (ps_expr (pe_bm PySem.F.plainAttrs_list PySem.F.slot_list_append PySem.F.type_list_append mt_append (pv 2) (pa_cons (by exact pe_dc (own := [("v", 4), ("a", 5)]) (g := (gTup K 2 (gCons (gName 4) (gCons (gName 5) gNil)))) (tt := tYes) rfl nd (piZipA K rfl B.n_zip (pa_cons (pe_ix (ixT K) (pv 0) pe_int (fun _ _ => rfl)) (pa_cons (pv 3) pa_nil))) (blkOk_by (N := ["body", "domains", "found", "row", "v", "a"]) (sc := defScope s_table_choices) (by decide +kernel)) (fun _ _ _ _ _ => (pg_tup (n := 2) rfl (pgs_cons (pg_name (i := 4) nd rfl (Or.inl rfl)) (pgs_cons (pg_name (i := 5) nd rfl (Or.inl rfl)) pgs_nil)))) (fun _ _ _ _ _ => pts_nil) (fun _ _ _ _ _ => (pv 4)) (fun _ _ _ _ _ => (pv 5))) pa_nil))))
      pss_nil)))
      (pss_one (ps_ret (pv 2))))), ?_⟩
    try dsimp only [L2.cxOf, L2.Cx.nox, L2.Cx.wish]
    rw [st_table_choices]
    cases b with
    | table us rows =>
      clear hP
      obtain ⟨q1, q2, s0, s1, i2⟩ := b_table hb
      obtain ⟨xs, h1, h2⟩ := i2.open
      have nd9 : us.Nodup := fit.1.2.1
      have rng : ∀ v ∈ us, 0 ≤ v ∧ v < m := fit.1.2.2
      have u6 : us.length ≤ 6 := fit.1.1.2
      have r200 : rows.length ≤ 200 := fit.2.1.2
      have rl : ∀ r ∈ rows, r.length = us.length := fun r hr => (fit.2.2 r hr).1
      have mc : ∀ v, v ∈ us ↔ v ∈ canon m us := fun v => (mem_canon rng v).symm
      walk_at "cg"
      rename_i l H1 hl el k1
      have bs : Kp [l] H1 H1 := Kp.base fun b hb => by rw [List.mem_singleton] at hb; rw [hb, el]; trivial
      refine r_forTI [l] (k1.tup h1) (k1.imAll h2) (fun i σ' H' => ∃ (r2 : List V) (x3 x4 x5 : Option V), σ' = [some (.ref p), some (.ref d), some (.ref l), x3, x4, x5] ∧ H' l = some (.lst r2) ∧ ChsAt H' r2 (((rows.take i).filter fun r => inRow D us r).map (rowG us)) us ∧ Kp [l] H1 H') ⟨[], _, _, _, rfl, el, .nil, bs⟩ (fun i σ' H' ⟨_, _, _, _, _, _, _, h⟩ => h) ?_ ?_
      · clear bs
        rintro i r x σ' H2 hr hx kk ⟨r2, x3, x4, x5, rfl, e2, C2, -⟩
        obtain ⟨pr, rfl⟩ := Im.isRef (show Im K H2 x (.tuple _) from hx)
        have sr := hx.intsT
        have hi : i < rows.length := (List.getElem?_eq_some_iff.mp hr).1
        have lr := rl r (List.mem_of_getElem? hr)
        have K2 : Kp [] H H2 := Kp.trN kk k1 hl
        have sq := K2.tup s1
        have s02 := K2.tup s0
        have D2 := hD.kp0 K2
        have wz := walk_zipT (K := K) (a := q1) (b := pr) (xs := us.map V.int) (ys := r.map V.int) (by rw [List.length_map, List.length_map, lr])
        have lr2 : r2.length ≤ 200 := by
          have h3 := C2.len
          rw [List.length_map] at h3
          have h4 := List.length_filter_le (fun r => inRow D us r) (rows.take i)
          rw [List.length_take] at h4
          omega
        have zipAt : ∀ {j : Nat} {x y : V}, (us.map V.int)[j]? = some x → (r.map V.int)[j]? = some y → ∃ v a, us[j]? = some v ∧ r[j]? = some a ∧ x = .int v ∧ y = .int a := fun {j x y} hx hy => by
          rw [List.getElem?_map] at hx hy
          obtain ⟨v, h3, h4⟩ := Option.map_eq_some_iff.mp hx
          obtain ⟨a, h5, h6⟩ := Option.map_eq_some_iff.mp hy
          exact ⟨v, a, h3, h5, h4.symm, h6.symm⟩
        clear h1 h2 i2 hb K2 s0 s1 hD hx
        walk_at "cg"
        refine r_zipT sq sr ?_
        refine lc_by wz (fun D1 j H' => H2 D1 = none ∧ H' D1 = some (.lst ((((us.zip r).take j).map fun z => decide (z.2 ∈ D z.1)).map V.bl)) ∧ Kp [] H2 H') (fun D1 H3 hD1 e3 k3 => ⟨hD1, e3, k3⟩) (fun D1 j H' h => ⟨h.2.2.tup sq, h.2.2.tup sr⟩) ?_ ?_
        · rintro D1 j x H3 H4 hj ⟨hD1, e3, k3⟩ ⟨T, x, y, rfl, hT, rfl, hx, hy⟩
          obtain ⟨v, a, hv, ha, rfl, rfl⟩ := zipAt hx hy
          have kT : Kp [] H3 (upd H3 T (.tup [.int v, .int a])) := Kp.new hT
          have sT : SqT K (upd H3 T (.tup [.int v, .int a])) T [.int v, .int a] := SqT.of upd_same
          generalize upd H3 T (.tup [.int v, .int a]) = H4 at kT sT
          have hvk := (mc v).mp (List.mem_of_getElem? hv)
          have jl : j < us.length := (List.getElem?_eq_some_iff.mp hv).1
          walk_at "cg"
          refine r_getDom ((D2.kp0 k3).kp0 kT) hvk fun b hb => ?_
          walk_at "cg"
          refine r_inL (b := decide (a ∈ D v)) hb rfl (flat_ints _) (inV_ints _ _) ?_
          refine r_ap (kT.get0 e3) (small1000 (by simp; omega)) fun H5 e5 k5 => ⟨hD1, ?_, Kp.trN k5 (Kp.tr0 kT k3) hD1⟩
          have hz : (us.zip r)[j]? = some (v, a) := by rw [List.getElem?_zip_eq_some]; exact ⟨hv, ha⟩
          rw [e5, map_take_snoc hz, List.map_append]
          rfl
        rintro D1 H3 ⟨hD1, e3, k3⟩
        have ez : (us.zip r).take (us.map V.int).length = us.zip r := List.take_of_length_le (by simp; omega)
        rw [ez] at e3
        walk_at "cg"
        refine r_all e3 ?_
        have er : ((us.zip r).map fun z => decide (z.2 ∈ D z.1)).all id = inRow D us r := by rw [List.all_map]; rfl
        rw [er]
        have efl : ∀ c, inRow D us r = c → (((rows.take (i + 1)).filter fun r => inRow D us r).map (rowG us)) = (((rows.take i).filter fun r => inRow D us r).map (rowG us)) ++ (if c = true then [rowG us r] else []) := fun c hc => by
          rw [List.take_add_one, hr, List.filter_append, List.map_append]
          congr 1
          simp only [Option.toList_some, List.filter_cons, List.filter_nil, hc]
          cases c <;> rfl
        walk_at "cg"
        refine if_B (fun g => ?_) (fun g => ?_)
        · have sq3 := k3.tup sq
          have sr3 := k3.tup sr
          have s03 := k3.tup s02
          have e23 := k3.get0 e2
          have C3 := C2.kp0 k3
          have rm := rowG_map nd9 lr
          clear sq sr s02 e2 C2 D2 hr k1
          walk_at "cg"
          refine r_zipT sq3 sr3 ?_
          refine dc_by wz (fun D4 j H' => H3 D4 = none ∧ H' D4 = some (.dK (ents (us.take j) fun v => .int (rowG us r v))) ∧ Kp [] H3 H') (fun D4 H4 hD4 e4 k4 => ⟨hD4, e4, k4⟩) (fun D4 j H' h => ⟨h.2.2.tup sq3, h.2.2.tup sr3⟩) ?_ ?_
          · rintro D4 j x H4 H5 hj ⟨hD4, e4, k4⟩ ⟨T, x, y, rfl, hT, rfl, hx, hy⟩
            obtain ⟨v, a, hv, ha, rfl, rfl⟩ := zipAt hx hy
            have kT : Kp [] H4 (upd H4 T (.tup [.int v, .int a])) := Kp.new hT
            have sT : SqT K (upd H4 T (.tup [.int v, .int a])) T [.int v, .int a] := SqT.of upd_same
            generalize upd H4 T (.tup [.int v, .int a]) = H5 at kT sT
            have jl : j < us.length := (List.getElem?_eq_some_iff.mp hv).1
            have ev : rowG us r v = a := by
              have q := congrArg (fun l : List Int => l[j]?) rm
              simp only [List.getElem?_map, hv, ha, Option.map_some] at q
              exact Option.some.inj q
            have nv : ¬ v ∈ us.take j := fun hm => by
              obtain ⟨_, ei⟩ := List.getElem?_eq_some_iff.mp hv
              obtain ⟨j2, hj2⟩ := List.getElem?_of_mem hm
              obtain ⟨hjl, ej⟩ := List.getElem?_eq_some_iff.mp hj2
              rw [List.length_take] at hjl
              rw [List.getElem_take] at ej
              exact absurd (ej.trans ei.symm) (List.pairwise_iff_getElem.mp nd9 j2 j (by omega) jl (by omega))
            walk_at "cg"
            refine r_pkE (kT.get0 e4) (by rw [List.length_take]; omega) fun H6 e6 k6 => ⟨hD4, ?_, Kp.trN k6 (Kp.tr0 kT k4) hD4⟩
            have et : us.take (j + 1) = us.take j ++ [v] := by rw [List.take_add_one, hv]; rfl
            rw [e6, if_neg nv, et]
            congr 2
            congr 1
            funext u
            by_cases e : u = v
            · rw [if_pos e, e, ev]
            · rw [if_neg e]
          rintro D4 H4 ⟨hD4, e4, k4⟩
          rw [List.length_map, List.take_length] at e4
          have e24 := k4.get0 e23
          walk_at "cg"
          rename_i H5 e5 k5
          refine ⟨_, _, _, _, rfl, e5, ?_, Kp.tr1 k5 (Kp.tr0 k4 (Kp.tr0 k3 kk))⟩
          rw [efl _ g, if_pos rfl]
          refine ((C3.kp0 k4).kpL k5 e24).snoc ⟨us, k5.get1 (fun z => by rw [z, e24] at e4; cases e4) e4, fun v => Iff.rfl, Nat.le_refl _⟩
        · walk_at "cg"
          refine ⟨_, _, _, _, rfl, k3.get0 e2, ?_, Kp.tr0 k3 kk⟩
          rw [efl _ g, if_neg (by decide), List.append_nil]
          exact C2.kp0 k3
      · rintro σ' H2 kk ⟨r2, x3, x4, x5, rfl, e2, C2, -⟩
        rw [List.take_length] at C2
        walk_at "cg"
        exact k l r2 _ _ hl e2 (C2.conv nd9 mc) ((table_ok nd9 rl).conv mc) (Kp.trN kk k1 hl)
    | _ => exact hP.elim
theorem ok_result_choices {f : Addr} {fd : FuncData} (F : Fun K "result_choices" "result_choices" s_result_choices f fd) (B : Bi K mg C_Model) (D_all_choices : Is P w K mg base CX0 2 "all_choices" ["unknowns", "domains"] (spAllCh K)) (D_with_result : Is P w K mg base CX0 1 "with_result" ["choice", "z", "worth", "domains"] (spWithR K)) : FnOk P w K mg base CX0 3 f fd ["body", "domains"] (spBodyCh K isRes) := by
  have nd := sc_result_choices.nd
  refine F.ok sc_result_choices ?len (fun cdv A outer s H vs Q E hr h => ?body)
  case len =>
    rintro vs H Q E ⟨p, d, b, m, D, rfl, _⟩
    rfl
  case body =>
    obtain ⟨p, d, b, m, D, rfl, hP, hb, fit, m60, hD, ok, cost, k⟩ := h
    refine ⟨_, (pss_cons (ps_set (i := 2) nd rfl (Or.inl rfl) (pe_lst pa_nil))
      (Evl.pss_cut (ps_if (pt_cmpR op_eq (pe_ix (ixT K) (pv 0) pe_int (fun _ _ => rfl)) pe_str (nomark _))
      (pss_one (ps_set (i := 3) nd rfl (Or.inl rfl) (pe_lst (pa_cons (pe_ix (ixT K) (pv 0) pe_int (fun _ _ => rfl)) pa_nil))))
      (pss_one (ps_set (i := 3) nd rfl (Or.inl rfl) (pe_callB (cr_sortedSet rfl) (by rfl) B.n_sorted (by decide +kernel) (pa_cons (pe_callTy (cg_setL rfl) (by rfl) B.n_set PyProof.Rows.boot_set (pa_cons (pe_lst (pa_cons (pe_ix (ixT K) (pv 0) pe_int (fun _ _ => rfl)) (pa_cons (pe_ix (ixT K) (pv 0) pe_int (fun _ _ => rfl)) pa_nil))) pa_nil)) pa_nil)))))
      (pss_cons (ps_for PassesOwn.never rfl ((piLst K) (pe_is D_all_choices (hr.mono (by decide)) rfl pass0 (pa_cons (pv 3) (pa_cons (pv 1) pa_nil)))) (pg_name (i := 4) nd rfl (Or.inl rfl))
      (pss_cons (ps_set (i := 5) nd rfl (Or.inl rfl) pe_non)
      (Evl.pss_cut (ps_if (pt_cmpR op_eq (pe_ix (ixT K) (pv 0) pe_int (fun _ _ => rfl)) pe_str (nomark _))
      (pss_one (ps_set (i := 5) nd rfl (Or.inl rfl) (pe_op op_mul (pe_ix ix_dK (pv 4) (pe_ix (ixT K) (pv 0) pe_int (fun _ _ => rfl)) (fun _ _ => rfl)) (pe_ix ix_dK (pv 4) (pe_ix (ixT K) (pv 0) pe_int (fun _ _ => rfl)) (fun _ _ => rfl)))))
      (pss_one (ps_if (pt_chain op_le op_lt pe_int (pe_ix ix_dK (pv 4) (pe_ix (ixT K) (pv 0) pe_int (fun _ _ => rfl)) (fun _ _ => rfl)) (pe_callB (cgLen K) (by rfl) B.n_len PySem.boot_len (pa_cons (pe_ix (ixT K) (pv 0) pe_int (fun _ _ => rfl)) pa_nil)))
      (pss_one (ps_set (i := 5) nd rfl (Or.inl rfl) (pe_ix (ixT K) (pe_ix (ixT K) (pv 0) pe_int (fun _ _ => rfl)) (pe_ix ix_dK (pv 4) (pe_ix (ixT K) (pv 0) pe_int (fun _ _ => rfl)) (fun _ _ => rfl)) (fun _ _ => rfl))))
      pss_nil)))
      (pss_one (ps_if (pt_cmpR cg_notN (pv 5) pe_non (nomark _))
      (pss_cons (ps_set (i := 6) nd rfl (Or.inl rfl) (pe_is D_with_result (hr.mono (by decide)) rfl pass0 (pa_cons (pv 4) (pa_cons (pe_ix (ixT K) (pv 0) pe_int (fun _ _ => rfl)) (pa_cons (pv 5) (pa_cons (pv 1) pa_nil))))))
      (pss_one (ps_if (pt_cmpR cg_notN (pv 6) pe_non (nomark _))
      (pss_one (ps_expr (pe_bm PySem.F.plainAttrs_list PySem.F.slot_list_append PySem.F.type_list_append mt_append (pv 2) (pa_cons (pv 6) pa_nil))))
      pss_nil)))
      pss_nil)))))
      (pss_one (ps_ret (pv 2)))))), ?_⟩
    try dsimp only [L2.cxOf, L2.Cx.nox, L2.Cx.wish]
    rw [st_result_choices]
    obtain ⟨ndI, lI, hU, hpr, wc, bh⟩ := res_facts hP fit ok cost
    have hbv : ∀ v ∈ b.vars, v ∈ canon m b.vars := fun v hv => (mem_canon (Body.fit_vars fit) v).mpr hv
    walk_at "cg"
    rename_i l H1 hl el k1
    refine ⟨fun σ' H' => ∃ (li : Addr), σ' = [some (.ref p), some (.ref d), some (.ref l), some (.ref li), none, none, none] ∧ H' li = some (.lst ((resI m b).map V.int)) ∧ Kp [] H1 H', ?_, ?_⟩
    · have hb1 := k1.im hb
      cases b with
      | elem x es y =>
        obtain ⟨q1, s0, s1⟩ := b_elem hb1
        walk_at "cg"
        exact ⟨_, rfl, by assumption, by assumption⟩
      | times x y z =>
        have s0 := b_times hb1
        walk_at "cg"
        rename_i l2 H2 hl2 el2 k2
        have el2' : H2 l2 = some (.lst (([x, y] : List Int).map V.int)) := el2
        refine r_setS2 el2' (by simp) fun S H3 cS hS eS hcS k3 => ?_
        walk_at "cg"
        have cc := hcS [x, y] fun j hj => hj
        refine r_sortS eS (by simp at cc; omega) fun lk ks H4 hlk elk asc mk k4 => ?_
        have fx : ∀ v ∈ [x, y], 0 ≤ v ∧ v < (m : Int) := fun v hv => by
          simp only [List.mem_cons, List.not_mem_nil, or_false] at hv
          rcases hv with rfl | rfl
          · exact fit.1
          · exact fit.2.1
        have e : ks = canon m [x, y] := canon_eq asc (fun k => by rw [mk k, decide_eq_true_eq]) fx
        subst e
        walk_at "cg"
        exact ⟨_, rfl, elk, Kp.tr0 k4 (Kp.tr0 k3 k2)⟩
      | _ => exact hP.elim
    rintro σ' H2 ⟨li, rfl, eli, k2⟩
    have el2 := k2.get0 el
    have K2 : Kp [] H H2 := Kp.tr0 k2 k1
    have D2 := hD.kp0 K2
    have hb2 := K2.im hb
    have hsub : ∀ v ∈ resI m b, v ∈ canon m b.vars := fun v hv => (hU v).mpr (.inl hv)
    have fl : H l = none := hl
    clear k2 k1 el hl hb
    walk_at "cg"
    refine ⟨li, d, resI m b, canon m b.vars, D, rfl, eli, ndI, by omega, D2, hsub, fun v hv => ok v (hsub v hv), hpr, fun lc refs H3 hlc elc C3 k3 => ?_⟩
    have el3 := k3.get0 el2
    have K3 := Kp.tr0 k3 K2
    have D3 := D2.kp0 k3
    have hb3 := k3.im hb2
    have nlc : lc ≠ l := ne_newR hlc el2
    have gsz : (chF (resI m b) D).length ≤ 2001 := by
      have := chF_len (resI m b) D (resI m b).length
      rw [List.take_length] at this
      omega
    have chA : ChAll (resI m b) D (chF (resI m b) D) := by
      have := chF_all ndI D (resI m b).length
      rw [List.take_length] at this
      exact this
    clear k3 K2 D2 hb2 el2 eli
    generalize chF (resI m b) D = gs at C3 gsz chA
    have bs : Kp [l] H3 H3 := Kp.base fun b hb => by rw [List.mem_singleton] at hb; rw [hb, el3]; trivial
    walk_at "cg"
    refine r_forL refs (fun i σ' H' => ∃ (r2 : List V) (x4 x5 x6 : Option V), σ' = [some (.ref p), some (.ref d), some (.ref l), some (.ref li), x4, x5, x6] ∧ H' l = some (.lst r2) ∧ ChsAt H' r2 (resG (resI m b) D (resZ b) (resW b) (gs.take i)) (canon m b.vars) ∧ Kp [l] H3 H') ⟨[], _, _, _, rfl, el3, .nil, bs⟩ (fun i σ' H' ⟨_, _, _, _, _, _, _, kk⟩ => kk.get1 nlc elc) ?_ ?_
    · clear bs
      rintro i x σ' H4 hx ⟨r2, x4, x5, x6, rfl, e4, C4, kk⟩
      have nod : ∀ b ∈ [l], ∀ kvs, H3 b ≠ some (.dK kvs) := fun b hb kvs z => by
        rw [List.mem_singleton] at hb
        rw [hb, el3] at z
        cases z
      obtain ⟨g, pg, hg, rfl, cp⟩ := (C3.kp kk nod).get hx
      have hi : i < gs.length := (List.getElem?_eq_some_iff.mp hg).1
      have K4 : Kp [] H H4 := Kp.trN kk K3 fl
      have hb4 := kk.im hb3
      have D4 : DomAt H4 d (canon m b.vars) D := hD.kp0 K4
      have wI := chA.snd g (List.mem_of_getElem? hg)
      have r2l : r2.length ≤ 2001 := by
        have h3 := C4.len
        unfold resG at h3
        have h4 := List.length_filterMap_le (fun g => (resW b g).bind fun w => withR (resI m b) D (resZ b) w g) (gs.take i)
        rw [List.length_take] at h4
        omega
      have et : resG (resI m b) D (resZ b) (resW b) (gs.take (i + 1)) = resG (resI m b) D (resZ b) (resW b) (gs.take i) ++ ((resW b g).bind fun w => withR (resI m b) D (resZ b) w g).toList := by
        unfold resG
        rw [fm_take hg]
      clear C3 K3 hb3 D3
      walk_at "cg"
      refine ⟨fun σ' H' => ∃ xw : V, H4 = H' ∧ σ' = [some (.ref p), some (.ref d), some (.ref l), some (.ref li), some (.ref pg), some (xw), x6] ∧ xw = wV (resW b g), ?_, ?_⟩
      · obtain ⟨js, ej, mj, lj⟩ := cp.ex
        cases b with
        | elem x es y =>
          obtain ⟨q1, s0, s1⟩ := b_elem hb4
          have hx := (mj x).mpr (by simp [resI])
          have er : resW (.elem x es y) g = wfE x es g := rfl
          rw [er]
          walk_at "cg"
          refine r_ixDK ej hx ?_
          walk_at "cg"
          refine if_S (fun g1 => ?_) (fun g1 => ?_)
          · walk_at "cg"
            refine if_S (fun g2 => ?_) (fun g2 => ?_)
            · walk_at "cg"
              refine r_ixDK ej hx ?_
              walk_at "cg"
              rw [List.length_map] at g2
              refine r_ixT s1 (atI_ints g1 g2) ?_
              walk_at "cg"
              refine ⟨_, rfl, rfl, ?_⟩
              unfold wfE
              rw [if_pos ⟨g1, g2⟩]
              rfl
            · walk_at "cg"
              refine ⟨_, rfl, rfl, ?_⟩
              unfold wfE
              rw [List.length_map] at g2
              rw [if_neg (fun h => g2 h.2)]
              rfl
          · walk_at "cg"
            refine ⟨_, rfl, rfl, ?_⟩
            unfold wfE
            rw [if_neg (fun h => g1 h.1)]
            rfl
        | times x y z =>
          have s0 := b_times hb4
          have fx : ∀ v ∈ [x, y], 0 ≤ v ∧ v < (m : Int) := fun v hv => by
            simp only [List.mem_cons, List.not_mem_nil, or_false] at hv
            rcases hv with rfl | rfl
            · exact fit.1
            · exact fit.2.1
          have hxI : x ∈ resI m (.times x y z) := (mem_canon fx x).mpr (by simp)
          have hyI : y ∈ resI m (.times x y z) := (mem_canon fx y).mpr (by simp)
          have bx := (ok x (hsub x hxI)).bd _ (wI x hxI)
          have cm : CMul (g x) (g y) := .inl ⟨by omega, by omega⟩
          walk_at "cg"
          refine r_ixDK ej ((mj x).mpr hxI) ?_
          walk_at "cg"
          refine r_ixDK ej ((mj y).mpr hyI) ?_
          walk_at "cg"
          exact ⟨_, rfl, rfl, rfl⟩
        | _ => exact hP.elim
      rintro σ' H' ⟨xw, rfl, rfl, exw⟩
      cases ew : resW b g with
      | none =>
        rw [ew] at et
        obtain rfl : xw = .non := by rw [exw, ew]; rfl
        walk_at "cg"
        refine ⟨r2, _, _, _, rfl, e4, ?_, kk⟩
        rw [et]
        simpa using C4
      | some wv =>
        have hz : ∀ {q : Addr} {xs : List V}, True := trivial
        obtain ⟨sk, x1, x2, s0⟩ : ∃ sk x1 x2, SqT K H4 p [.str sk, x1, x2, .int (resZ b)] := by
          cases b with
          | elem x es y =>
            obtain ⟨q1, s0, s1⟩ := b_elem hb4
            exact ⟨_, _, _, s0⟩
          | times x y z => exact ⟨_, _, _, b_times hb4⟩
          | _ => exact hP.elim
        have hzU : resZ b ∈ canon m b.vars := (hU _).mpr (.inr rfl)
        rw [ew] at et
        obtain rfl : xw = .int wv := by rw [exw, ew]; rfl
        walk_at "cg"
        refine ⟨pg, d, resZ b, wv, resI m b, canon m b.vars, D, g, rfl, cp, by omega, D4, hzU, fun e H5 k5 => ?_, fun g' p' H5 e c5 k5 => ?_⟩
        · walk_at "cg"
          refine ⟨r2, _, _, _, rfl, k5.get0 e4, ?_, Kp.tr0 k5 kk⟩
          rw [et]
          simp only [Option.bind_some, e, Option.toList_none, List.append_nil]
          exact C4.kp0 k5
        · have e5 := k5.get0 e4
          walk_at "cg"
          refine r_app e5 (small1e4 (by omega)) fun H6 e6 k6 => ?_
          walk_at "cg"
          refine ⟨_, _, _, _, rfl, e6, ?_, Kp.tr1 k6 (Kp.tr0 k5 kk)⟩
          rw [et]
          simp only [Option.bind_some, e, Option.toList_some]
          have ndz : (if resZ b ∈ resI m b then resI m b else resI m b ++ [resZ b]).Nodup := by
            split
            · exact ndI
            · rename_i h
              rw [List.nodup_append]
              refine ⟨ndI, by simp, fun a ha c hc e => ?_⟩
              rw [List.mem_singleton] at hc
              rw [e, hc] at ha
              exact h ha
          have mz : ∀ v, v ∈ (if resZ b ∈ resI m b then resI m b else resI m b ++ [resZ b]) ↔ v ∈ canon m b.vars := fun v => by
            rw [hU v]
            split
            · rename_i h
              exact ⟨.inl, fun q => q.elim id fun e => e ▸ h⟩
            · rw [List.mem_append, List.mem_singleton]
          refine ((C4.kp0 k5).kpL k6 e5).snoc ((c5.conv ndz mz).kp k6 fun b hb kvs z => ?_)
          rw [List.mem_singleton] at hb
          rw [hb, e5] at z
          cases z
    · rintro σ' H4 ⟨r2, x4, x5, x6, rfl, e4, C4, kk⟩
      rw [C3.len, List.take_length] at C4
      walk_at "cg"
      exact k l r2 _ _ fl e4 C4 (res_ok chA hU wc bh hbv) (Kp.trN kk K3 fl)
theorem ok_body_choices {f : Addr} {fd : FuncData} (F : Fun K "body_choices" "body_choices" s_body_choices f fd) (B : Bi K mg C_Model) (D_table_choices : Is P w K mg base CX0 1 "table_choices" ["body", "domains"] (spBodyCh K isTab)) (D_result_choices : Is P w K mg base CX0 3 "result_choices" ["body", "domains"] (spBodyCh K isRes)) (D_all_choices : Is P w K mg base CX0 2 "all_choices" ["unknowns", "domains"] (spAllCh K)) (D_body_holds : Is P w K mg base CX0 3 "body_holds" ["body", "point"] (spHolds K)) (D_unknowns_of : Is P w K mg base CX0 1 "unknowns_of" ["body"] (spUnkn K)) : FnOk P w K mg base CX0 4 f fd ["body", "domains"] (spBodyCh K (fun _ => True)) := by
  have nd := sc_body_choices.nd
  refine F.ok sc_body_choices ?len (fun cdv A outer s H vs Q E hr h => ?body)
  case len =>
    rintro vs H Q E ⟨p, d, b, m, D, rfl, _⟩
    rfl
  case body =>
    obtain ⟨p, d, b, m, D, rfl, hP, hb, fit, m60, hD, ok, cost, k⟩ := h
    refine ⟨_, (pss_cons (ps_if (pt_cmpR op_eq (pe_ix (ixT K) (pv 0) pe_int (fun _ _ => rfl)) pe_str (nomark _))
      (pss_one (ps_ret (pe_is D_table_choices (hr.mono (by decide)) rfl pass0 (pa_cons (pv 0) (pa_cons (pv 1) pa_nil)))))
      pss_nil)
      (pss_cons (ps_if (pt_cmpR (inS K) (pe_ix (ixT K) (pv 0) pe_int (fun _ _ => rfl)) (pe_tup (pa_cons pe_str (pa_cons pe_str pa_nil))) rfl)
      (pss_one (ps_ret (pe_is D_result_choices (hr.mono (by decide)) rfl pass0 (pa_cons (pv 0) (pa_cons (pv 1) pa_nil)))))
      pss_nil)
      (pss_one (ps_ret (by exact pe_lc (own := [("choice", 2)]) (g := (gName 2)) rfl nd ((piLst K) (pe_is D_all_choices (hr.mono (by decide)) rfl pass0 (pa_cons (pe_is D_unknowns_of (hr.mono (by decide)) rfl pass0 (pa_cons (pv 0) pa_nil)) (pa_cons (pv 1) pa_nil)))) (blkOk_by (N := ["body", "domains", "choice"]) (sc := defScope s_body_choices) (by decide +kernel)) (fun _ _ _ _ _ => (pg_name (i := 2) nd rfl (Or.inl rfl))) (fun _ _ _ _ _ => pts_one (pt_val (pe_is D_body_holds (hr.mono (by decide)) rfl pass0 (pa_cons (pv 0) (pa_cons (pv 2) pa_nil))))) (fun _ _ _ _ _ => (pv 2))))))), ?_⟩
    try dsimp only [L2.cxOf, L2.Cx.nox, L2.Cx.wish]
    rw [st_body_choices]
    have rng : ∀ v ∈ b.vars, 0 ≤ v ∧ v < m := Body.fit_vars fit
    have mc := mem_canon rng
    rcases plain_open (m := m) (D := D) hb with (h | h) | ⟨hc, s, xs, s0, hs⟩
    · cases b with
      | table us rows =>
        obtain ⟨q1, q2, s0, s1, i2⟩ := b_table hb
        walk_at "cg"
        exact ⟨p, d, .table us rows, m, D, rfl, trivial, hb, fit, m60, hD, ok, cost, k⟩
      | _ => exact h.elim
    · cases b with
      | elem x es y =>
        obtain ⟨q1, s0, s1⟩ := b_elem hb
        walk_at "cg"
        rename_i pT HT hpT sT kT
        exact ⟨p, d, .elem x es y, m, D, rfl, trivial, kT.im hb, fit, m60, hD.kp0 kT, ok, cost, fun l refs gs H' hl el C ch kk => k l refs gs H' (kT.free0 hl) el C ch (Kp.tr0 kk kT)⟩
      | times x y z =>
        have s0 := b_times hb
        walk_at "cg"
        rename_i pT HT hpT sT kT
        exact ⟨p, d, .times x y z, m, D, rfl, trivial, kT.im hb, fit, m60, hD.kp0 kT, ok, cost, fun l refs gs H' hl el C ch kk => k l refs gs H' (kT.free0 hl) el C ch (Kp.tr0 kk kT)⟩
      | _ => exact h.elim
    · rw [hc] at cost
      have bd := Body.fit_bd fit
      have cl := canon_len m b.vars
      have chA : ChAll (canon m b.vars) D (chF (canon m b.vars) D) := by
        have := chF_all (canon_nodup m b.vars) D (canon m b.vars).length
        rw [List.take_length] at this
        exact this
      have gsz : (chF (canon m b.vars) D).length ≤ 400 := by
        have := chF_len (canon m b.vars) D (canon m b.vars).length
        rw [List.take_length] at this
        omega
      rcases hs with rfl | rfl | rfl | rfl
      all_goals
        walk_at "cg"
        refine r_ixT s0 atI_0 ?_
        walk_at "cg"
        refine r_ixT s0 atI_0 ?_
        walk_at "cg"
        rename_i pT HT hpT sT kT
        refine ⟨p, b, rfl, kT.im hb, bd, fun lu ns H1 hlu elu asc mem k1' => ?_⟩
        have k1 := Kp.tr0 k1' kT
        clear k1' kT sT
        have e : ns = canon m b.vars := canon_eq asc mem rng
        subst e
        walk_at "cg"
        refine ⟨lu, d, _, canon m b.vars, D, rfl, elu, canon_nodup m _, by omega, hD.kp0 k1, fun v hv => hv, ok, by omega, fun lc refs H2 hlc elc C2 k2 => ?_⟩
        generalize chF (canon m b.vars) D = gs at C2 gsz chA
        have K2 := Kp.tr0 k2 k1
        walk_at "cg"
        refine r_lcL refs (fun D3 i H' => H2 D3 = none ∧ Kp [] H2 H' ∧ ∃ r2, H' D3 = some (.lst r2) ∧ ChsAt H' r2 ((gs.take i).filter fun g => b.h g) (canon m b.vars)) (fun D3 H3 hD3 e3 k3 => ⟨hD3, k3, [], e3, .nil⟩) (fun D3 i H' h => h.2.1.get0 elc) ?_ ?_
        · rintro D3 i x H3 hx ⟨hD3, k3, r2, e3, C3⟩
          obtain ⟨g, pg, hg, rfl, cp⟩ := (C2.kp0 k3).get hx
          have hi : i < gs.length := (List.getElem?_eq_some_iff.mp hg).1
          have wI := chA.snd g (List.mem_of_getElem? hg)
          have r2l : r2.length ≤ 400 := by
            have h3 := C3.len
            have h4 := List.length_filter_le (fun g => b.h g) (gs.take i)
            rw [List.length_take] at h4
            omega
          have et : ∀ c, b.h g = c → ((gs.take (i + 1)).filter fun g => b.h g) = ((gs.take i).filter fun g => b.h g) ++ (if c = true then [g] else []) := fun c hc => by
            rw [List.take_add_one, hg, List.filter_append]
            congr 1
            simp only [Option.toList_some, List.filter_cons, List.filter_nil, hc]
          have b3 : BodyAt K H3 p b := (Kp.tr0 k3 K2).im hb
          walk_at "cg"
          refine ⟨p, pg, b, g, _, rfl, b3, bd, cp.pt, fun v hv => by have := (ok v hv).bd _ (wI v hv); omega, fun v hv => (mc v).mpr hv, fun H4 k4 => ?_⟩
          walk_at "cg"
          cases eh : b.h g
          · walk_at "cg"
            refine ⟨hD3, Kp.tr0 k4 k3, r2, k4.get0 e3, ?_⟩
            rw [et _ eh, if_neg (by decide), List.append_nil]
            exact C3.kp0 k4
          · walk_at "cg"
            have e4 := k4.get0 e3
            refine r_ap e4 (small1000 (by omega)) fun H5 e5 k5 => ⟨hD3, Kp.trN k5 (Kp.tr0 k4 k3) hD3, _, e5, ?_⟩
            rw [et _ eh, if_pos rfl]
            refine ((C3.kp0 k4).kpL k5 e4).snoc ((cp.kp0 k4).kp k5 fun b hb kvs z => ?_)
            rw [List.mem_singleton] at hb
            rw [hb, e4] at z
            cases z
        · rintro D3 H3 ⟨hD3, k3, r2, e3, C3⟩
          rw [C2.len, List.take_length] at C3
          walk_at "cg"
          exact k D3 r2 _ H3 (K2.free0 hD3) e3 C3 (chA.filter fun v hv => (mc v).mpr hv) (Kp.tr0 k3 K2)

end
section
variable {P : Program} {w : World} {K : PySem.W.Frag} {mg : Str → Option Value} {base : Heap} {C_Model : Addr}
theorem ok_cost_of {f : Addr} {fd : FuncData} (F : Fun K "cost_of" "cost_of" s_cost_of f fd) (B : Bi K mg C_Model) (D_unknowns_of : Is P w K mg base CX0 1 "unknowns_of" ["body"] (spUnkn K)) : FnOk P w K mg base CX0 2 f fd ["body", "domains"] (spCostOf K) := by
  have nd := sc_cost_of.nd
  refine F.ok sc_cost_of ?len (fun cdv A outer s H vs Q E hr h => ?body)
  case len =>
    rintro vs H Q E ⟨p, d, b, m, D, rfl, _⟩
    rfl
  case body =>
    obtain ⟨p, d, b, m, D, rfl, hb, fit, m60, hD, ok, k⟩ := h
    refine ⟨_, (pss_cons (ps_set (i := 2) nd rfl (Or.inl rfl) (pe_ix (ixT K) (pv 0) pe_int (fun _ _ => rfl)))
      (pss_cons (ps_if (pt_cmpR (inS K) (pv 2) (pe_tup (pa_cons pe_str (pa_cons pe_str pa_nil))) rfl)
      (pss_one (ps_ret pe_int))
      pss_nil)
      (pss_cons (ps_set (i := 3) nd rfl (Or.inl rfl) (pe_is D_unknowns_of (hr.mono (by decide)) rfl pass0 (pa_cons (pv 0) pa_nil)))
      (pss_cons (ps_if (pt_cmpR op_eq (pv 2) pe_str (nomark _))
      (pss_one (ps_set (i := 3) nd rfl (Or.inl rfl) (pe_callB (cr_sortedSet rfl) (by rfl) B.n_sorted (by decide +kernel) (pa_cons (pe_callTy (cg_setL rfl) (by rfl) B.n_set PyProof.Rows.boot_set (pa_cons (pe_lst (pa_cons (pe_ix (ixT K) (pv 0) pe_int (fun _ _ => rfl)) (pa_cons (pe_ix (ixT K) (pv 0) pe_int (fun _ _ => rfl)) pa_nil))) pa_nil)) pa_nil))))
      pss_nil)
      (pss_cons (ps_set (i := 4) nd rfl (Or.inl rfl) pe_int)
      (pss_cons (ps_for PassesOwn.never rfl ((piLst K) (pv 3)) (pg_name (i := 5) nd rfl (Or.inl rfl))
      (pss_one (ps_aug (i := 4) nd rfl (Or.inl rfl) (pe_callB (cgLen K) (by rfl) B.n_len PySem.boot_len (pa_cons (pe_ix ix_dK (pv 1) (pv 5) (fun _ _ => rfl)) pa_nil)) iop_mul)))
      (pss_one (ps_ret (pv 4))))))))), ?_⟩
    try dsimp only [L2.cxOf, L2.Cx.nox, L2.Cx.wish]
    rw [st_cost_of]
    have rng : ∀ v ∈ b.vars, 0 ≤ v ∧ v < m := Body.fit_vars fit
    have mc := mem_canon rng
    have bd := Body.fit_bd fit
    rcases plain_open (m := m) (D := D) hb with (h | h) | ⟨hc, s, xs, s0, hs⟩
    · cases b with
      | table us rows =>
        obtain ⟨q1, q2, s0, s1, i2⟩ := b_table hb
        walk_at "cg"
        exact k _ (by walk_at "cg kp")
      | _ => exact h.elim
    · cases hbb : b with
      | elem x es y =>
        rw [hbb] at hb
        obtain ⟨q1, s0, s1⟩ := b_elem hb
        rw [hbb] at k
        walk_at "cg"
        exact k _ (by walk_at "cg kp")
      | times x y z =>
        have hb0 := hb
        rw [hbb] at hb0
        have s0 := b_times hb0
        have fx : ∀ v ∈ [x, y], 0 ≤ v ∧ v < (m : Int) := fun v hv => by
          rw [hbb] at fit
          simp only [List.mem_cons, List.not_mem_nil, or_false] at hv
          rcases hv with rfl | rfl
          · exact fit.1
          · exact fit.2.1
        have sub : ∀ v ∈ canon m [x, y], v ∈ canon m b.vars := fun v hv => by
          rw [mc v, hbb]
          have := (mem_canon fx v).mp hv
          simp only [List.mem_cons, List.not_mem_nil, or_false] at this
          rcases this with rfl | rfl <;> simp [Body.vars]
        have ec : costB m b D = prodL (canon m [x, y]) D := by rw [hbb]; rfl
        rw [ec] at k
        walk_at "cg"
        rename_i pT HT hpT sT kT
        refine ⟨p, b, rfl, kT.im hb, bd, fun lu0 ns H1 hlu elu asc mem k1 => ?_⟩
        have K1 := Kp.tr0 k1 kT
        have s01 := K1.tup s0
        clear kT k1 sT elu
        walk_at "cg"
        rename_i l2 H2 hl2 el2 k2
        have el2' : H2 l2 = some (.lst (([x, y] : List Int).map V.int)) := el2
        refine r_setS2 el2' (by simp) fun S H3 cS hS eS hcS k3 => ?_
        walk_at "cg"
        have cc := hcS [x, y] fun j hj => hj
        refine r_sortS eS (by simp at cc; omega) fun lu ks H4 hlk elk asc mk k4 => ?_
        have e : ks = canon m [x, y] := canon_eq asc (fun k => by rw [mk k, decide_eq_true_eq]) fx
        subst e
        have K4 := Kp.tr0 k4 (Kp.tr0 k3 (Kp.tr0 k2 K1))
        clear k2 k3 k4 el2 el2' eS hlk hS
        walk_at "cg"
        refine r_forLI (canon m [x, y]) (fun i σ' H' => ∃ xo : Option V, σ' = [some (.ref p), some (.ref d), some (.str (Str.ofString "times")), some (.ref lu), some (.int (prodL ((canon m [x, y]).take i) D)), xo] ∧ H4 = H') ⟨_, rfl, rfl⟩ (fun i σ' H' ⟨_, _, e⟩ => e ▸ elk) ?_ ?_
        · rintro i v σ' H' hv ⟨xv, rfl, rfl⟩
          have hvm : v ∈ canon m b.vars := sub v (List.mem_of_getElem? hv)
          have dl := (ok v hvm).len
          walk_at "cg"
          refine r_getDom (hD.kp0 K4) hvm fun q hq => ?_
          have cm : CMul (prodL ((canon m [x, y]).take i) D) (((D v).map V.int).length : Int) := .inr ⟨by rw [List.length_map]; omega, by rw [List.length_map]; omega⟩
          walk_at "cg"
          have et : (canon m [x, y]).take (i + 1) = (canon m [x, y]).take i ++ [v] := by rw [List.take_add_one, hv]; rfl
          refine ⟨some (.int v), ?_, rfl⟩
          rw [et, prodL_snoc, List.length_map]
        · rintro σ' H' ⟨xv, rfl, rfl⟩
          rw [List.take_length]
          walk_at "cg"
          exact k _ K4
      | _ => rw [hbb] at h; exact h.elim
    · rw [hc] at k
      rcases hs with rfl | rfl | rfl | rfl
      all_goals
        walk_at "cg"
        refine r_ixT s0 atI_0 ?_
        walk_at "cg"
        rename_i pT HT hpT sT kT
        refine ⟨p, b, rfl, kT.im hb, bd, fun lu ns H1 hlu elu asc mem k1 => ?_⟩
        have e : ns = canon m b.vars := canon_eq asc mem rng
        subst e
        have K1 := Kp.tr0 k1 kT
        walk_at "cg"
        refine r_forLI (canon m b.vars) (fun i σ' H' => ∃ xo : Option V, σ' = [some (.ref p), some (.ref d), some (.str _), some (.ref lu), some (.int (prodL ((canon m b.vars).take i) D)), xo] ∧ H1 = H') ⟨_, rfl, rfl⟩ (fun i σ' H' ⟨_, _, e⟩ => e ▸ elu) ?_ ?_
        · rintro i v σ' H' hv ⟨xv, rfl, rfl⟩
          have hvm : v ∈ canon m b.vars := (fun v h => h) v (List.mem_of_getElem? hv)
          have dl := (ok v hvm).len
          walk_at "cg"
          refine r_getDom (hD.kp0 K1) hvm fun q hq => ?_
          have cm : CMul (prodL ((canon m b.vars).take i) D) (((D v).map V.int).length : Int) := .inr ⟨by rw [List.length_map]; omega, by rw [List.length_map]; omega⟩
          walk_at "cg"
          have et : (canon m b.vars).take (i + 1) = (canon m b.vars).take i ++ [v] := by rw [List.take_add_one, hv]; rfl
          refine ⟨some (.int v), ?_, rfl⟩
          rw [et, prodL_snoc, List.length_map]
        · rintro σ' H' ⟨xv, rfl, rfl⟩
          rw [List.take_length]
          walk_at "cg"
          exact k _ K1
theorem ok_fact_holds {f : Addr} {fd : FuncData} (F : Fun K "fact_holds" "fact_holds" s_fact_holds f fd) (B : Bi K mg C_Model) (D_terms_sum : Is P w K mg base CX0 1 "terms_sum" ["terms", "point"] (spSumF K)) (D_literal_holds : Is P w K mg base CX0 2 "literal_holds" ["literal", "worth"] (spLit K)) : FnOk P w K mg base CX0 3 f fd ["fact", "point"] (spTrue K) := by
  have nd := sc_fact_holds.nd
  refine F.ok sc_fact_holds ?len (fun cdv A outer s H vs Q E hr h => ?body)
  case len =>
    rintro vs H Q E ⟨p, q, f, g, dom, m, rfl, _⟩
    rfl
  case body =>
    obtain ⟨p, q, f, g, dom, m, rfl, hf, hP, ok, hD, k⟩ := h
    refine ⟨_, (pss_cons (ps_if (pt_cmpR op_eq (pe_ix (ixT K) (pv 0) pe_int (fun _ _ => rfl)) pe_str (nomark _))
      (pss_one (ps_ret (pe_cmpR op_le (pe_is D_terms_sum (hr.mono (by decide)) rfl pass0 (pa_cons (pe_ix (ixT K) (pv 0) pe_int (fun _ _ => rfl)) (pa_cons (pv 1) pa_nil))) (pe_ix (ixT K) (pv 0) pe_int (fun _ _ => rfl)) (nomark _))))
      pss_nil)
      (pss_one (ps_ret (pe_callB (cr_any rfl) (by rfl) B.n_any (by decide +kernel) (pa_cons (by exact pe_lc (own := [("literal", 2)]) (g := (gName 2)) (tt := tYes) rfl nd (pi_tup (pe_ix (ixT K) (pv 0) pe_int (fun _ _ => rfl))) (blkOk_by (N := ["fact", "point", "literal"]) (sc := defScope s_fact_holds) (by decide +kernel)) (fun _ _ _ _ _ => (pg_name (i := 2) nd rfl (Or.inl rfl))) (fun _ _ _ _ _ => pts_nil) (fun _ _ _ _ _ => (pe_is D_literal_holds (hr.mono (by decide)) rfl pass0 (pa_cons (pv 2) (pa_cons (pe_ix (ixP K) (pv 1) (pe_ix (ixT K) (pv 2) pe_int (fun _ _ => rfl)) (fun _ _ => rfl)) pa_nil))))) pa_nil))))), ?_⟩
    try dsimp only [L2.cxOf, L2.Cx.nox, L2.Cx.wish]
    rw [st_fact_holds]
    cases f with
    | row ts n =>
      obtain ⟨q1, s1, i1⟩ := row_open hf
      walk_at "cg"
      refine spSumF_i i1 hP (fun z hz => hD _ (List.mem_map.mpr ⟨z, hz, rfl⟩)) (fun z hz => by have := ok.1 z hz; omega) ?_
      walk_at "cg"
      exact k _ .refl
    | any ls =>
      obtain ⟨q1, s1, i1⟩ := any_open hf
      obtain ⟨xs, s2, i2⟩ := Im.open i1
      walk_at "cg"
      refine lcT_b (xs := xs) (as := ls) (d := Lit.d) s2 i2 (fun l => l.h g) (by have := ok.2; omega) (fun i l x H' R R' hl k2 hx q2 => ?_) (fun D H' hD' eD k2 => ?_)
      · obtain ⟨px, rfl, hs⟩ := lit_at hx
        walk_at "cg"
        refine r_pt (hP.kp0 k2) (hD _ (List.mem_map.mpr ⟨l, List.mem_of_getElem? hl, rfl⟩)) ?_
        walk_at "cg"
        exact q2 _ .refl
      · walk_at "cg"
        refine r_any eD ?_
        have ea : (ls.map fun l => l.h g).any id = ls.any fun l => l.h g := by rw [List.any_map]; rfl
        rw [ea]
        exact k _ k2
theorem ok_follows_look {f : Addr} {fd : FuncData} (F : Fun K "follows_look" "follows_look" s_follows_look f fd) (B : Bi K mg C_Model) (D_unknowns_of : Is P w K mg base CX0 1 "unknowns_of" ["body"] (spUnkn K)) (D_full_domains : Is P w K mg base CX0 3 "full_domains" ["model", "unknowns"] (spFullD K C_Model)) (D_body_choices : Is P w K mg base CX0 4 "body_choices" ["body", "domains"] (spBodyCh K (fun _ => True))) (D_as_literal : Is P w K mg base CX0 1 "as_literal" ["fact"] (spAsLit K)) (D_cost_of : Is P w K mg base CX0 2 "cost_of" ["body", "domains"] (spCostOf K)) (D_drop_literals : Is P w K mg base CX0 3 "drop_literals" ["domains", "literals"] (spDropL K)) (D_keep_literal : Is P w K mg base CX0 3 "keep_literal" ["domains", "literal"] (spKeepL K)) (D_fact_holds : Is P w K mg base CX0 3 "fact_holds" ["fact", "point"] (spTrue K)) (D_unknowns_in : Is P w K mg base CX0 1 "unknowns_in" ["fact"] (spUnkIn K)) : FnOk P w K mg base CX0 5 f fd ["model", "body", "fact", "hints"] (spLook K C_Model) := by
  have nd := sc_follows_look.nd
  refine F.ok sc_follows_look ?len (fun cdv A outer s H vs Q E hr h => ?body)
  case len =>
    rintro vs H Q E ⟨a, M, pb, pf, l, b, f, refs, hs, rfl, _⟩
    rfl
  case body =>
    obtain ⟨a, M, pb, pf, l, b, f, refs, hs, rfl, hM, n60, uok, hb, fit, hf, okf, hl, hA, ohs, h60, k⟩ := h
    refine ⟨_, (pss_cons (ps_set (i := 4) nd rfl (Or.inr rfl) (pe_is D_unknowns_of (hr.mono (by decide)) rfl pass0 (pa_cons (pv 1) pa_nil)))
      (pss_cons (ps_for PassesOwn.never rfl ((piLst K) (pe_op (op_catL K) (pe_lst (pa_cons (pv 2) pa_nil)) (pv 3))) (pg_name (i := 5) nd rfl (Or.inl rfl))
      (pss_one (ps_if (pt_not (pt_val (pe_callB (cr_all rfl) (by rfl) B.n_all (by decide +kernel) (pa_cons (by exact pe_lc (own := [("v", 10)]) (g := (gName 10)) (tt := tYes) rfl nd ((piLst K) (pe_is D_unknowns_in (hr.mono (by decide)) rfl pass0 (pa_cons (pv 5) pa_nil))) (blkOk_by (N := ["model", "body", "fact", "hints", "unknowns", "other", "domains", "hint", "literal", "choice", "v"]) (sc := defScope s_follows_look) (by decide +kernel)) (fun _ _ _ _ _ => (pg_name (i := 10) nd rfl (Or.inl rfl))) (fun _ _ _ _ _ => pts_nil) (fun _ _ _ _ _ => (pe_cmpR (inS K) (pv 10) (pv 4) rfl))) pa_nil))))
      (pss_one (ps_ret pe_bl))
      pss_nil)))
      (pss_cons (ps_set (i := 6) nd rfl (Or.inl rfl) (pe_is D_full_domains (hr.mono (by decide)) rfl pass0 (pa_cons (pv 0) (pa_cons (pv 4) pa_nil))))
      (Evl.pss_cut (ps_if (PW.pt (pw_and (pt_cmpR op_eq (pe_ix (ixT K) (pv 2) pe_int (fun _ _ => rfl)) pe_str (nomark _)) (pw_and1 (pt_not (pt_val (pe_is D_drop_literals (hr.mono (by decide)) rfl pass0 (pa_cons (pv 6) (pa_cons (pe_ix (ixT K) (pv 2) pe_int (fun _ _ => rfl)) pa_nil))))))))
      (pss_one (ps_ret pe_bl))
      pss_nil)
      (pss_cons (ps_for PassesOwn.never rfl ((piLst K) (pv 3)) (pg_name (i := 7) nd rfl (Or.inl rfl))
      (pss_cons (ps_set (i := 8) nd rfl (Or.inl rfl) (pe_is D_as_literal (hr.mono (by decide)) rfl pass0 (pa_cons (pv 7) pa_nil)))
      (pss_one (ps_if (pt_cmpR cg_notN (pv 8) pe_non (nomark _))
      (pss_cons (ps_expr (pe_is D_keep_literal (hr.mono (by decide)) rfl pass0 (pa_cons (pv 6) (pa_cons (pv 8) pa_nil))))
      (pss_one (ps_if (pt_cmpR op_eq (pe_callB (cgLen K) (by rfl) B.n_len PySem.boot_len (pa_cons (pe_ix ix_dK (pv 6) (pe_ix (ixT K) (pv 8) pe_int (fun _ _ => rfl)) (fun _ _ => rfl)) pa_nil)) pe_int (nomark _))
      (pss_one (ps_ret pe_bl))
      pss_nil)))
      pss_nil))))
      (pss_cons (ps_if (pt_cmpR op_gt (pe_is D_cost_of (hr.mono (by decide)) rfl pass0 (pa_cons (pv 1) (pa_cons (pv 6) pa_nil))) (pe_gc rfl B.c_COST_MOST) (nomark _))
      (pss_one (ps_ret pe_bl))
      pss_nil)
      (pss_cons (ps_for PassesOwn.never rfl ((piLst K) (pe_is D_body_choices (hr.mono (by decide)) rfl pass0 (pa_cons (pv 1) (pa_cons (pv 6) pa_nil)))) (pg_name (i := 9) nd rfl (Or.inr rfl))
      (pss_one (ps_if (PW.pt (pw_and (pt_val (pe_callB (cr_all rfl) (by rfl) B.n_all (by decide +kernel) (pa_cons (by exact pe_lc (own := [("hint", 7)]) (g := (gName 7)) (tt := tYes) rfl nd ((piLst K) (pv 3)) (blkOk_by (N := ["model", "body", "fact", "hints", "unknowns", "other", "domains", "hint", "literal", "choice", "v"]) (sc := defScope s_follows_look) (by decide +kernel)) (fun _ _ _ _ _ => (pg_name (i := 7) nd rfl (Or.inl rfl))) (fun _ _ _ _ _ => pts_nil) (fun _ _ _ _ _ => (pe_is D_fact_holds (hr.mono (by decide)) rfl pass0 (pa_cons (pv 7) (pa_cons (pv 9) pa_nil))))) pa_nil))) (pw_and1 (pt_not (pt_val (pe_is D_fact_holds (hr.mono (by decide)) rfl pass0 (pa_cons (pv 2) (pa_cons (pv 9) pa_nil))))))))
      (pss_one (ps_ret pe_bl))
      pss_nil)))
      (pss_one (ps_ret pe_bl))))))))), ?_⟩
    try dsimp only [L2.cxOf, L2.Cx.nox, L2.Cx.wish]
    rw [st_follows_look]
    have rng : ∀ v ∈ b.vars, 0 ≤ v ∧ v < M.us.length := Body.fit_vars fit
    have mc := mem_canon rng
    have bd := Body.fit_bd fit
    have l60 := Nat.le_trans (canon_len M.us.length b.vars) n60
    have okD : DomOk (canon M.us.length b.vars) (fullD M.us) := fullD_ok uok fun v hv => rng v ((mc v).mp hv)
    have oall : ∀ o ∈ f :: hs, o.ok (M.us.length : Int) := fun o ho => by
      rcases List.mem_cons.mp ho with rfl | ho
      · exact okf
      · exact ohs o ho
    walk_at "cg"
    refine ⟨pb, b, rfl, hb, bd, fun lu ns H1 hlu elu asc mem k1 => ?_⟩
    have e : ns = canon M.us.length b.vars := canon_eq asc mem rng
    subst e
    walk_at "cg"
    rename_i l1 H2 hl1 el1 k2
    refine r_cat el1 (k2.get0 (k1.get0 hl)) (by have := mapLenP hA; simp; omega) fun l3 H3 hl3 el3 k3 => ?_
    have K3 := Kp.tr0 k3 (Kp.tr0 k2 k1)
    have A3 : ImAll K H3 (.ref pf :: refs) ((f :: hs).map Fact.d) := .cons (K3.im hf) (K3.imAll hA)
    have elu3 := k3.get0 (k2.get0 elu)
    have el3' : H3 l3 = some (.lst (.ref pf :: refs)) := el3
    clear k1 k2 k3 elu el1 hl1 hlu el3
    have bad : ∀ {i : Nat} {o : Fact} {H' : Hp}, (f :: hs)[i]? = some o → (o.vars.all fun v => decide (v ∈ b.vars)) = false → Kp [] H H' → Q (.bl false) H' := fun ho e kk => by
      have q := k _ kk
      have e2 : ((f :: hs).all fun o => o.vars.all fun v => decide (v ∈ b.vars)) = false := by
        rw [Bool.eq_false_iff]
        intro h
        rw [List.all_eq_true.mp h _ (List.mem_of_getElem? ho)] at e
        cases e
      unfold lookB at q
      rw [e2, Bool.false_and] at q
      exact q
    walk_at "cg"
    refine r_forLD [] el3' (by simp) A3 (fun i σ' H' => ∃ x5 x6 : Option V, σ' = [some (.ref a.p), some (.ref pb), some (.ref pf), some (.ref l), some (.ref lu), x5, none, none, none, none, x6] ∧ (((f :: hs).take i).all fun o => o.vars.all fun v => decide (v ∈ b.vars)) = true ∧ Kp [] H3 H') ⟨_, _, rfl, rfl, .refl⟩ (fun i σ' H' ⟨_, _, _, _, h⟩ => h) ?_ ?_
    · rintro i o x σ' H4 ho hx kk ⟨x5, x6, rfl, ea, -⟩
      obtain ⟨po, rfl, Fo⟩ := fact_at hx
      walk_at "cg"
      refine ⟨po, o, rfl, Fo, ok_few (oall o (List.mem_of_getElem? ho)), fun u2 ns2 H5 hu2 eu2 as2 m2 k5 => ?_⟩
      have elu5 := k5.get0 (kk.get0 elu3)
      have few2 : ns2.length ≤ 60 := by have := asc_le as2 m2; have := ok_few (oall o (List.mem_of_getElem? ho)); omega
      have K5 := Kp.tr0 k5 (Kp.tr0 kk K3)
      have kk5 := Kp.tr0 k5 kk
      clear k5 kk
      walk_at "cg"
      refine lcL_b (as := ns2) (d := PyData.int) eu2 (imInts _) (fun v => decide (v ∈ canon M.us.length b.vars)) (by omega) (fun j v x2 H6 R R' hv k6 hx2 q1 => ?_) (fun D1 H6 hD1 eD1 k6 => ?_)
      · cases hx2
        walk_at "cg"
        refine r_inL (b := decide (v ∈ canon M.us.length b.vars)) (k6.get0 elu5) rfl (flat_ints _) (inV_ints _ _) ?_
        exact q1 _ .refl
      walk_at "cg"
      refine r_all eD1 ?_
      have ev : ((ns2.map fun v => decide (v ∈ canon M.us.length b.vars)).all id) = o.vars.all fun v => decide (v ∈ b.vars) := by
        rw [List.all_map, Bool.eq_iff_iff, List.all_eq_true, List.all_eq_true]
        constructor
        · intro h v hv
          have := h v ((m2 v).mpr hv)
          simp only [Function.comp, id, decide_eq_true_eq] at this ⊢
          exact (mc v).mp this
        · intro h v hv
          have := h v ((m2 v).mp hv)
          simp only [Function.comp, id, decide_eq_true_eq] at this ⊢
          exact (mc v).mpr this
      rw [ev]
      walk_at "cg"
      cases eo : o.vars.all fun v => decide (v ∈ b.vars)
      · walk_at "cg"
        exact bad ho eo (Kp.tr0 k6 K5)
      · walk_at "cg"
        refine ⟨_, _, rfl, ?_, Kp.tr0 k6 kk5⟩
        rw [all_takeL ho, ea, eo]
        rfl
    rintro σ' H4 kk ⟨x5, x6, rfl, ea, -⟩
    have K4 := Kp.tr0 kk K3
    have elu4 := kk.get0 elu3
    rw [List.take_length] at ea
    have hin : ∀ o ∈ f :: hs, ∀ v ∈ o.vars, v ∈ canon M.us.length b.vars := fun o ho v hv => by
      have := List.all_eq_true.mp (List.all_eq_true.mp ea o ho) v hv
      rw [decide_eq_true_eq] at this
      exact (mc v).mpr this
    have ke : ∀ H', Kp [] H H' → Q (.bl (lookE M.us.length b f hs (dropF (fullD M.us) f))) H' := fun H' kk => by
      have q := k H' kk
      unfold lookB at q
      rw [ea, Bool.true_and] at q
      exact q
    clear k bad kk K3 A3 elu3 el3' hl3
    walk_at "cg"
    refine ⟨a, M, lu, canon M.us.length b.vars, rfl, hM.kp0 K4, n60, uok, elu4, canon_nodup _ _, fun v hv => rng v ((mc v).mp hv), fun d H5 hd D5 k5 => ?_⟩
    have K5 := Kp.tr0 k5 K4
    have fd : H d = none := K4.free0 hd
    clear k5 K4 elu4 hd
    walk_at "cg"
    refine ⟨fun σ' H' => ∃ D1, σ' = [some (.ref a.p), some (.ref pb), some (.ref pf), some (.ref l), some (.ref lu), x5, some (.ref d), none, none, none, x6] ∧ dropF (fullD M.us) f = some D1 ∧ DomAt H' d (canon M.us.length b.vars) D1 ∧ DomOk (canon M.us.length b.vars) D1 ∧ Kp [] H H', ?_, ?_⟩
    · cases f with
      | row ts n =>
        obtain ⟨qf, sf, jf⟩ := row_open (K5.im hf)
        walk_at "cg"
        exact ⟨_, rfl, rfl, D5, okD, K5⟩
      | any ls =>
        obtain ⟨qf, sf, jf⟩ := any_open (K5.im hf)
        have hk : ∀ l ∈ ls, l.v ∈ canon M.us.length b.vars := fun l hl => hin (.any ls) List.mem_cons_self l.v (List.mem_map.mpr ⟨l, hl, rfl⟩)
        walk_at "cg"
        refine ⟨d, qf, _, _, ls, rfl, D5, okD, l60, jf, hk, fun H6 e k6 => ?_, fun D' H6 e D6 k6 => ?_⟩
        · walk_at "cg"
          have q := ke H6 (Kp.trN k6 K5 fd)
          rw [show dropF (fullD M.us) (.any ls) = none from e] at q
          exact q
        · walk_at "cg"
          exact ⟨D', rfl, e, D6, dropL_ok ls okD hk e, Kp.trN k6 K5 fd⟩
    clear D5 K5 okD
    rintro σ' H6 ⟨D1, rfl, e1, D6, ok6, K6⟩
    have ke2 : ∀ H', Kp [] H H' → Q (.bl (lookE M.us.length b f hs (some D1))) H' := fun H' kk => by
      have q := ke H' kk
      rw [e1] at q
      exact q
    clear ke e1
    have hlh := mapLenP hA
    walk_at "cg"
    refine r_forL refs (fun i σ' H' => ∃ D2 x8 x9 x10, σ' = [some (.ref a.p), some (.ref pb), some (.ref pf), some (.ref l), some (.ref lu), x5, some (.ref d), x8, x9, x10, x6] ∧ cutH D1 hs = cutH D2 (hs.drop i) ∧ DomAt H' d (canon M.us.length b.vars) D2 ∧ DomOk (canon M.us.length b.vars) D2 ∧ Kp [] H H') ⟨D1, _, _, _, rfl, rfl, D6, ok6, K6⟩ (fun i σ' H' ⟨_, _, _, _, _, _, _, _, kk⟩ => kk.get0 hl) ?_ ?_
    · clear D6 ok6 K6
      rintro i x σ' H7 hx ⟨D2, x8, x9, x10, rfl, e2, D7, ok7, kk⟩
      obtain ⟨h, hh, hxx⟩ := mapGetP (kk.imAll hA) hx
      obtain ⟨ph, rfl, Fh⟩ := fact_at hxx
      have hm := List.mem_of_getElem? hh
      have oh := ohs h hm
      have ed : hs.drop i = h :: hs.drop (i + 1) := by
        obtain ⟨hi, rfl⟩ := List.getElem?_eq_some_iff.mp hh
        exact List.drop_eq_getElem_cons hi
      rw [ed] at e2
      walk_at "cg"
      refine ⟨ph, h, _, rfl, Fh, oh, fun y H8 hy k8 => ?_⟩
      have K8 := Kp.tr0 k8 kk
      have D8 := D7.kp0 k8
      cases el : h.asLit with
      | none =>
        rw [el] at hy
        cases hy
        have e3 : cutH D2 (h :: hs.drop (i + 1)) = cutH D2 (hs.drop (i + 1)) := by rw [cutH, el]
        rw [e3] at e2
        walk_at "cg"
        exact ⟨D2, _, _, _, rfl, e2, D8, ok7, K8⟩
      | some lt =>
        rw [el] at hy
        cases hy with
        | some L =>
        rename_i pl
        have hlv : lt.v ∈ canon M.us.length b.vars := hin h (List.mem_cons_of_mem _ hm) lt.v (by rw [asLit_vars el]; exact List.mem_singleton.mpr rfl)
        have e3 : cutH D2 (h :: hs.drop (i + 1)) = if (keepL D2 lt) lt.v = [] then none else cutH (keepL D2 lt) (hs.drop (i + 1)) := by rw [cutH, el]
        rw [e3] at e2
        walk_at "cg"
        refine ⟨d, pl, _, D2, lt, rfl, D8, ok7, l60, L, hlv, fun H9 D9 k9 => ?_⟩
        have L9 : LitAt K H9 pl lt.v lt.r lt.a := k9.tup L
        have K9 := Kp.trN k9 K8 fd
        clear kk k8 k9 D7 D8 K8 hxx Fh
        walk_at "cg"
        refine r_getDom D9 hlv fun q hq => ?_
        walk_at "cg"
        refine if_S (fun g => ?_) (fun g => ?_)
        · have ge : keepL D2 lt lt.v = [] := by
            rw [List.length_map] at g
            exact List.length_eq_zero_iff.mp (by omega)
          rw [if_pos ge] at e2
          walk_at "cg"
          have q := ke2 _ K9
          unfold lookE at q
          simp only [e2] at q
          exact q
        · have ge : ¬ keepL D2 lt lt.v = [] := fun e => g (by rw [e]; rfl)
          rw [if_neg ge] at e2
          have ok9 : DomOk (canon M.us.length b.vars) (keepL D2 lt) := ok7.upd ((ok7 lt.v hlv).filter (by rw [← keepL_at]; exact ge))
          walk_at "cg"
          exact ⟨_, _, _, _, rfl, e2, D9, ok9, K9⟩
    clear D6 ok6 K6
    rintro σ' H7 ⟨D2, x8, x9, x10, rfl, e2, D7, ok7, K7⟩
    rw [hlh, List.drop_length] at e2
    have e2 : cutH D1 hs = some D2 := e2
    have ke3 : ∀ H', Kp [] H H' → Q (.bl (decide (costB M.us.length b D2 ≤ 400) && lookD (canon M.us.length b.vars) D2 b f hs)) H' := fun H' kk => by
      have q := ke2 H' kk
      unfold lookE at q
      simp only [e2] at q
      exact q
    clear ke2 e2
    have hb7 := K7.im hb
    walk_at "cg"
    refine ⟨pb, d, b, M.us.length, D2, rfl, hb7, fit, n60, D7, ok7, fun H8 k8 => ?_⟩
    have K8 := Kp.tr0 k8 K7
    walk_at "cg"
    refine if_S (fun g => ?_) (fun g => ?_)
    · walk_at "cg"
      have q := ke3 _ K8
      rw [decide_eq_false (by omega), Bool.false_and] at q
      exact q
    rw [decide_eq_true (show costB M.us.length b D2 ≤ 400 by omega)] at ke3
    simp only [Bool.true_and] at ke3
    have D8 := D7.kp0 k8
    have hb8 := k8.im hb7
    clear k8 K7 D7 hb7
    walk_at "cg"
    refine ⟨pb, d, b, M.us.length, D2, rfl, trivial, hb8, fit, n60, D8, ok7, by omega, fun lc refs2 gs H9 hlc elc C9 ch k9 => ?_⟩
    rw [lookP_all ch (fun v hv => (mc v).mpr hv) hin] at ke3
    have K9 := Kp.tr0 k9 K8
    clear k9 K8 D8 hb8 hlc
    walk_at "cg"
    refine r_forL refs2 (fun i σ' H' => ∃ x8 x9 x10, σ' = [some (.ref a.p), some (.ref pb), some (.ref pf), some (.ref l), some (.ref lu), x5, some (.ref d), x8, x9, x10, x6] ∧ ((gs.take i).all fun g => !(hs.all fun h => h.h g) || f.h g) = true ∧ Kp [] H9 H') ⟨_, _, _, rfl, rfl, .refl⟩ (fun i σ' H' ⟨_, _, _, _, _, kk⟩ => kk.get0 elc) ?_ ?_
    · rintro i x σ' H10 hx ⟨x8, x9, x10, rfl, ea2, kk⟩
      obtain ⟨g, pg, hg, rfl, cp⟩ := (C9.kp0 kk).get hx
      have K10 := Kp.tr0 kk K9
      have hl10 := K10.get0 hl
      have A10 := K10.imAll hA
      have F10 := K10.im hf
      clear K9 elc C9
      walk_at "cg"
      refine lcL_b (as := hs) (d := Fact.d) hl10 A10 (fun h => h.h g) (by omega) (fun j h x2 H11 R R' hh k11 hx2 q1 => ?_) (fun D3 H11 hD3 eD3 k11 => ?_)
      · obtain ⟨ph, rfl, Fh⟩ := fact_at hx2
        have hm := List.mem_of_getElem? hh
        walk_at "cg"
        exact ⟨ph, pg, h, g, _, _, rfl, Fh, (cp.kp0 k11).pt, ohs h hm, hin h (List.mem_cons_of_mem _ hm), fun H' k' => q1 H' k'⟩
      walk_at "cg"
      refine r_all eD3 ?_
      have ev : (hs.map fun h => h.h g).all id = hs.all fun h => h.h g := by rw [List.all_map]; rfl
      rw [ev]
      walk_at "cg"
      refine if_B (fun e1 => ?_) (fun e1 => ?_)
      · walk_at "cg"
        refine ⟨pf, pg, f, g, _, _, rfl, k11.im F10, (cp.kp0 k11).pt, okf, hin f List.mem_cons_self, fun H12 k12 => ?_⟩
        walk_at "cg"
        cases ef : f.h g
        · walk_at "cg"
          have q := ke3 H12 (Kp.tr0 k12 (Kp.tr0 k11 K10))
          have e9 : (gs.all fun g => !(hs.all fun h => h.h g) || f.h g) = false := by
            rw [Bool.eq_false_iff]
            intro hq
            have := List.all_eq_true.mp hq g (List.mem_of_getElem? hg)
            rw [e1, ef] at this
            cases this
          rw [e9] at q
          exact q
        · walk_at "cg"
          refine ⟨_, _, _, rfl, ?_, Kp.tr0 k12 (Kp.tr0 k11 kk)⟩
          rw [all_takeL hg, ea2, ef, Bool.or_true]
          rfl
      · walk_at "cg"
        refine ⟨_, _, _, rfl, ?_, Kp.tr0 k11 kk⟩
        rw [all_takeL hg, ea2, e1]
        rfl
    · rintro σ' H10 ⟨x8, x9, x10, rfl, ea2, kk⟩
      rw [C9.len, List.take_length] at ea2
      walk_at "cg"
      have q := ke3 H10 (Kp.tr0 kk K9)
      rw [ea2] at q
      exact q

end
/-! ### follows, all rules -/
def stepOf (es : List (Option Step)) (i : Int) : Option Step := match es[i.toNat]? with | some (some s) => some s | _ => none
theorem premOf_step (es : List (Option Step)) (i : Int) : premOf es i = (stepOf es i).map (·.f) := by
  unfold premOf stepOf
  cases es[i.toNat]? with
  | none => rfl
  | some o => cases o <;> rfl
def weakE (es : List (Option Step)) (f : Fact) (i : Int) : Bool := (stepOf es i).any fun s => implF s.f f
def absE (es : List (Option Step)) (i : Int) : Bool := (stepOf es i).any fun s => s.f.isCon
def supE (es : List (Option Step)) (i : Int) : Bool := (stepOf es i).any fun s => decide (s.r.name = Str.ofString "suppose")
def negE (es : List (Option Step)) (s t : Int) : Bool := (stepOf es s).any fun a => (stepOf es t).any fun b => decide (some b.f = a.f.ngt)
def casesE (es : List (Option Step)) (f : Fact) (i j s t : Int) : Bool := supE es s && (supE es t && (negE es s t && (weakE es f i && weakE es f j)))
def bodyOf (M : Mdl) (x : Str) : Option Body := (M.bs.find? fun z => decide (z.1 = x)).map (·.2)
theorem bodyOf_some {M : Mdl} {x : Str} (h : x ∈ M.bs.map (·.1)) : ∃ b, bodyOf M x = some b ∧ (x, b) ∈ M.bs := by
  obtain ⟨z, hz, e⟩ := List.mem_map.mp h
  unfold bodyOf
  cases q : M.bs.find? fun z => decide (z.1 = x) with
  | none => exact absurd (List.find?_eq_none.mp q z hz) (by simp [e])
  | some y =>
    have h1 := List.mem_of_find?_eq_some q
    have h2 := List.find?_some q
    rw [decide_eq_true_eq] at h2
    exact ⟨y.2, rfl, by rw [← h2]; exact h1⟩
theorem bodyOf_mem {M : Mdl} {x : Str} {b : Body} (h : bodyOf M x = some b) : (x, b) ∈ M.bs := by
  unfold bodyOf at h
  obtain ⟨y, h1, rfl⟩ := Option.map_eq_some_iff.mp h
  have h2 := List.mem_of_find?_eq_some h1
  have h3 := List.find?_some h1
  rw [decide_eq_true_eq] at h3
  rw [← h3]
  exact h2
noncomputable def ruleF (M : Mdl) (es : List (Option Step)) (f : Fact) : Rule → Bool
  | .bound v => boundB M v f
  | .given x => (bodyOf M x).any fun b => givenB b f
  | .suppose => f.ngt.isSome
  | .sum ps => sumDue M.us.length (addL es ps) f
  | .divide i d => (stepOf es i).any fun s => divideB f s.f d
  | .look x is => (bodyOf M x).any fun b => lookB M.us b f (is.filterMap (premOf es))
  | .apart x => (bodyOf M x).any fun b => apartB b f
  | .thn x i => (bodyOf M x).any fun b => (stepOf es i).any fun s => thenB b f s.f
  | .unit is => unitB M.us f (is.filterMap (premOf es))
  | .cases i j s t => casesE es f i j s t
  | .absurd i => absE es i
  | .weaken i => weakE es f i
noncomputable def followsB (M : Mdl) (es : List (Option Step)) (st : Step) : Bool := knownB M es st && ruleF M es st.f st.r
/-- sizes of a step's numbers -/
def Rule.num : Rule → Prop
  | .sum ps => ps.length ≤ 60 ∧ ∀ p ∈ ps, -1000000000000000000 ≤ p.2 ∧ p.2 ≤ 1000000000000000000
  | .divide _ d => d ≤ 1000000
  | .look _ is => is.length ≤ 60
  | .unit is => is.length ≤ 60
  | _ => True
theorem Rule.num_bd {r : Rule} (h : r.num) : r.bd := by
  cases r with
  | sum ps => exact h.1
  | look x is => exact h
  | unit is => exact h
  | _ => trivial
/-- sizes of a fact, wherever its unknowns lie -/
def Fact.bnd : Fact → Prop
  | .row ts _ => (∀ z ∈ ts, z.2 ≠ 0 ∧ -1000000000000000000 ≤ z.2 ∧ z.2 ≤ 1000000000000000000) ∧ ts.length ≤ 60
  | .any ls => (∀ l ∈ ls, -1000000000000000000 ≤ l.a ∧ l.a ≤ 1000000000000000000) ∧ ls.length ≤ 60
theorem Fact.ok_bnd {f : Fact} {m : Int} (h : f.ok m) : f.bnd := by
  cases f with
  | row ts n => exact ⟨fun z hz => (h.1 z hz).2.2, h.2.1⟩
  | any ls => exact ⟨fun l hl => (h.1 l hl).2.2, h.2⟩
theorem Fact.bnd_ok {f : Fact} {m : Int} (h : f.bnd) (hv : ∀ v ∈ f.vars, 0 ≤ v ∧ v < m) : f.ok m := by
  cases f with
  | row ts n => exact ⟨fun z hz => ⟨(hv z.1 (List.mem_map.mpr ⟨z, hz, rfl⟩)).1, (hv z.1 (List.mem_map.mpr ⟨z, hz, rfl⟩)).2, h.1 z hz⟩, h.2, Int.le_refl _, Int.le_refl _⟩
  | any ls => exact ⟨fun l hl => ⟨(hv l.v (List.mem_map.mpr ⟨l, hl, rfl⟩)).1, (hv l.v (List.mem_map.mpr ⟨l, hl, rfl⟩)).2, h.1 l hl⟩, h.2⟩
theorem Fact.bnd_few {f : Fact} (h : f.bnd) : f.vars.length ≤ 60 := by
  cases f with
  | row ts n => simpa [Fact.vars] using h.2
  | any ls => simpa [Fact.vars] using h.2
theorem known_ok {M : Mdl} {es : List (Option Step)} {st : Step} (h : knownB M es st = true) : (∀ i ∈ st.r.prem, awake es i = true) ∧ (∀ x, st.r.label = some x → x ∈ M.bs.map (·.1)) ∧ ∀ v ∈ st.f.vars, 0 ≤ v ∧ v < M.us.length := by
  unfold knownB at h
  rw [Bool.and_eq_true, Bool.and_eq_true, List.all_eq_true, List.all_eq_true] at h
  refine ⟨h.1, fun x hx => ?_, fun v hv => ?_⟩
  · have := h.2.1
    rw [hx] at this
    exact of_decide_eq_true this
  · have := h.2.2 v hv
    simp only [Bool.and_eq_true, decide_eq_true_eq] at this
    exact this
/-- an awake entry, read -/
theorem ent_at {K : PySem.W.Frag} {H : Hp} {es : List (Option Step)} {refs : List V} {i : Int} (A : ImAll K H refs (es.map entD)) (aw : awake es i = true) : ∃ (p q : Addr) (s : Step) (xs : List V), atI refs i = some (.ref p) ∧ stepOf es i = some s ∧ premOf es i = some s.f ∧ some s ∈ es ∧ SqT K H p (.ref q :: .str s.r.name :: xs) ∧ FactAt K H q s.f := by
  obtain ⟨p, q, s, xs, h1, h2, h3, h4, h5, h6⟩ := ent_awake A aw
  refine ⟨p, q, s, xs, h1, ?_, h2, h3, h5, h6⟩
  unfold stepOf
  rw [h4]
def premD (o : Option Fact) : PyData := match o with
  | some f => f.d
  | none => .none
theorem prem_mapD {es : List (Option Step)} : ∀ {is : List Int}, (∀ i ∈ is, ∃ f, premOf es i = some f) → is.map (fun i => premD (premOf es i)) = (is.filterMap (premOf es)).map Fact.d
  | [], _ => rfl
  | i :: is, h => by
    obtain ⟨f, hf⟩ := h i List.mem_cons_self
    rw [List.map_cons, List.filterMap_cons, hf, prem_mapD fun j hj => h j (List.mem_cons_of_mem _ hj)]
    rfl
theorem prem_ok {es : List (Option Step)} {m : Int} {i : Int} {f : Fact} (ok : ∀ s, some s ∈ es → s.f.ok m) (e : premOf es i = some f) : f.ok m := by
  unfold premOf at e
  split at e
  · rename_i s hs'
    cases e
    exact ok s (List.mem_of_getElem? hs')
  · cases e
theorem prems_ok {es : List (Option Step)} {m : Int} {is : List Int} (ok : ∀ s, some s ∈ es → s.f.ok m) : ∀ f ∈ is.filterMap (premOf es), f.ok m := fun f hf => by
  obtain ⟨i, _, e⟩ := List.mem_filterMap.mp hf
  exact prem_ok ok e
def spCasesE (K : PySem.W.Frag) : Sp := fun vs H Q _ => ∃ (l p : Addr) (es : List (Option Step)) (f : Fact) (i j s t m : Int), vs = [.ref l, .ref p] ∧ EntAt K H l es ∧ (∀ s, some s ∈ es → s.f.ok m) ∧ f.ok m ∧ Im K H (.ref p) (Step.d ⟨f, .cases i j s t⟩) ∧ (∀ k ∈ [i, j, s, t], awake es k = true) ∧ ∀ H', Kp [] H H' → Q (.bl (casesE es f i j s t)) H'
def spFollowsG (K : PySem.W.Frag) (C : Addr) : Sp := fun vs H Q _ => ∃ (a : MA) (M : Mdl) (l p : Addr) (es : List (Option Step)) (st : Step), vs = [.ref a.p, .ref l, .ref p] ∧ MdlAt K C H a M ∧ M.ok ∧ EntAt K H l es ∧ es.length ≤ 1000 ∧ (∀ s, some s ∈ es → s.f.ok M.us.length) ∧ st.f.bnd ∧ st.r.num ∧ Im K H (.ref p) st.d ∧ ∀ H', Kp [] H H' → Q (.bl (followsB M es st)) H'
def spLabelG (K : PySem.W.Frag) (C : Addr) : Sp := fun vs H Q _ => ∃ (a : MA) (M : Mdl) (l p : Addr) (es : List (Option Step)) (st : Step) (x : Str), vs = [.ref a.p, .ref l, .ref p] ∧ MdlAt K C H a M ∧ M.ok ∧ EntAt K H l es ∧ es.length ≤ 1000 ∧ (∀ s, some s ∈ es → s.f.ok M.us.length) ∧ st.f.ok M.us.length ∧ st.r.num ∧ Im K H (.ref p) st.d ∧ (∀ i ∈ st.r.prem, awake es i = true) ∧ st.r.label = some x ∧ x ∈ M.bs.map (·.1) ∧ ∀ H', Kp [] H H' → Q (.bl (ruleF M es st.f st.r)) H'

section
variable {P : Program} {w : World} {K : PySem.W.Frag} {mg : Str → Option Value} {base : Heap} {C_Model : Addr}
theorem ok_follows_cases {f : Addr} {fd : FuncData} (F : Fun K "follows_cases" "follows_cases" s_follows_cases f fd) (B : Bi K mg C_Model) (D_negation : Is P w K mg base CX0 2 "negation" ["fact"] (spNegF K)) (D_implies : Is P w K mg base CX0 4 "implies" ["first", "second"] (spImpl K implF)) : FnOk P w K mg base CX0 5 f fd ["entries", "step"] (spCasesE K) := by
  have nd := sc_follows_cases.nd
  refine F.ok sc_follows_cases ?len (fun cdv A outer s H vs Q E hr h => ?body)
  case len =>
    rintro vs H Q E ⟨l, p, es, f, i, j, s, t, m, rfl, _⟩
    rfl
  case body =>
    obtain ⟨l, p, es, f, i, j, s, t, m, rfl, hE, oks, okf, hs, hin, k⟩ := h
    refine ⟨_, (pss_cons (ps_asg (pv 1) (pg_tup (n := 6) rfl (pgs_cons (pg_name (i := 2) nd rfl (Or.inl rfl)) (pgs_cons (pg_name (i := 3) nd rfl (Or.inl rfl)) (pgs_cons (pg_name (i := 4) nd rfl (Or.inl rfl)) (pgs_cons (pg_name (i := 5) nd rfl (Or.inl rfl)) (pgs_cons (pg_name (i := 6) nd rfl (Or.inl rfl)) (pgs_cons (pg_name (i := 7) nd rfl (Or.inl rfl)) pgs_nil))))))))
      (pss_cons (ps_if (PW.pt (pw_or (pt_cmpR op_ne (pe_ix (ixT K) (pe_ix (ixL K) (pv 0) (pv 6) (fun _ _ => rfl)) pe_int (fun _ _ => rfl)) pe_str (nomark _)) (pw_or1 (pt_cmpR op_ne (pe_ix (ixT K) (pe_ix (ixL K) (pv 0) (pv 7) (fun _ _ => rfl)) pe_int (fun _ _ => rfl)) pe_str (nomark _)))))
      (pss_one (ps_ret pe_bl))
      pss_nil)
      (pss_cons (ps_if (pt_cmpR (neD K hr) (pe_ix (ixT K) (pe_ix (ixL K) (pv 0) (pv 7) (fun _ _ => rfl)) pe_int (fun _ _ => rfl)) (pe_is D_negation (hr.mono (by decide)) rfl pass0 (pa_cons (pe_ix (ixT K) (pe_ix (ixL K) (pv 0) (pv 6) (fun _ _ => rfl)) pe_int (fun _ _ => rfl)) pa_nil)) (nomark _))
      (pss_one (ps_ret pe_bl))
      pss_nil)
      (pss_one (ps_ret (pe_and (pe_is D_implies (hr.mono (by decide)) rfl pass0 (pa_cons (pe_ix (ixT K) (pe_ix (ixL K) (pv 0) (pv 4) (fun _ _ => rfl)) pe_int (fun _ _ => rfl)) (pa_cons (pv 2) pa_nil))) (pe_one (pe_is D_implies (hr.mono (by decide)) rfl pass0 (pa_cons (pe_ix (ixT K) (pe_ix (ixL K) (pv 0) (pv 5) (fun _ _ => rfl)) pe_int (fun _ _ => rfl)) (pa_cons (pv 2) pa_nil)))))))))), ?_⟩
    try dsimp only [L2.cxOf, L2.Cx.nox, L2.Cx.wish]
    rw [st_follows_cases]
    obtain ⟨q, xs, sp, hf, ha⟩ := step_open hs
    dsimp only [Rule.name, Rule.args] at sp ha
    obtain ⟨_, _, rfl, a1, h2⟩ := ha.c
    obtain ⟨_, _, rfl, a2, h2⟩ := h2.c
    obtain ⟨_, _, rfl, a3, h2⟩ := h2.c
    obtain ⟨_, _, rfl, a4, h2⟩ := h2.c
    obtain rfl := h2.n
    cases a1; cases a2; cases a3; cases a4
    obtain ⟨refs, el, A⟩ := hE.ex
    obtain ⟨pi, qi, si, ysi, ei, gi, _, mi, spi, fi⟩ := ent_at A (hin i (by simp))
    obtain ⟨pj, qj, sj, ysj, ej, gj, _, mj, spj, fj⟩ := ent_at A (hin j (by simp))
    obtain ⟨ps, qs, sa, yss, es1, gs, _, ms, sps, fs⟩ := ent_at A (hin s (by simp))
    obtain ⟨pt, qt, sb, yst, et, gt, _, mt, spt, ft⟩ := ent_at A (hin t (by simp))
    have e1 : supE es s = decide (sa.r.name = Str.ofString "suppose") := by unfold supE; rw [gs]; rfl
    have e2 : supE es t = decide (sb.r.name = Str.ofString "suppose") := by unfold supE; rw [gt]; rfl
    have e3 : negE es s t = decide (some sb.f = sa.f.ngt) := by unfold negE; rw [gs, gt]; rfl
    have e4 : weakE es f i = implF si.f f := by unfold weakE; rw [gi]; rfl
    have e5 : weakE es f j = implF sj.f f := by unfold weakE; rw [gj]; rfl
    unfold casesE at k
    rw [e1, e2, e3, e4, e5] at k
    clear hs hE A hin
    walk_at "cg"
    refine r_ixL el es1 ?_
    walk_at "cg"
    refine r_ixT sps atI_1 ?_
    walk_at "cg"
    refine if_S (fun g1 => ?_) (fun g1 => ?_)
    · walk_at "cg"
      rw [decide_eq_false g1, Bool.false_and] at k
      exact k _ .refl
    · rw [decide_eq_true (by simpa using g1), Bool.true_and] at k
      walk_at "cg"
      refine r_ixL el et ?_
      walk_at "cg"
      refine r_ixT spt atI_1 ?_
      walk_at "cg"
      refine if_S (fun g2 => ?_) (fun g2 => ?_)
      · walk_at "cg"
        rw [decide_eq_false g2, Bool.false_and] at k
        exact k _ .refl
      · rw [decide_eq_true (by simpa using g2), Bool.true_and] at k
        walk_at "cg"
        refine r_ixL el et ?_
        walk_at "cg"
        refine r_ixT spt atI_0 ?_
        walk_at "cg"
        refine r_ixL el es1 ?_
        walk_at "cg"
        refine r_ixT sps atI_0 ?_
        walk_at "cg"
        refine ⟨qs, sa.f, rfl, fs, ok_tms (oks sa ms), fun x H1 hx k1 => ?_⟩
        have ft1 := k1.im ft
        have fi1 := k1.im fi
        have fj1 := k1.im fj
        have hf1 := k1.im hf
        have el1 := k1.get0 el
        have spi1 := k1.tup spi
        have spj1 := k1.tup spj
        walk_at "cg"
        refine r_neFO (a := some sb.f) ft1 hx.im ?_
        walk_at "cg"
        refine if_B (fun g3 => ?_) (fun g3 => ?_)
        · walk_at "cg"
          rw [Bool.not_eq_true'] at g3
          rw [g3, Bool.false_and] at k
          exact k _ k1
        · rw [Bool.not_eq_false'] at g3
          rw [g3, Bool.true_and] at k
          walk_at "cg"
          refine r_ixL el1 ei ?_
          walk_at "cg"
          refine r_ixT spi1 atI_0 ?_
          walk_at "cg"
          refine ⟨qi, q, si.f, f, m, rfl, fi1, hf1, oks si mi, okf, fun H2 k2 => ?_⟩
          have el2 := k2.get0 el1
          have spj2 := k2.tup spj1
          have fj2 := k2.im fj1
          have hf2 := k2.im hf1
          cases e6 : implF si.f f
          · walk_at "cg"
            rw [e6, Bool.false_and] at k
            exact k _ (Kp.tr0 k2 k1)
          · rw [e6, Bool.true_and] at k
            walk_at "cg"
            refine r_ixL el2 ej ?_
            walk_at "cg"
            refine r_ixT spj2 atI_0 ?_
            walk_at "cg"
            exact ⟨qj, q, sj.f, f, m, rfl, fj2, hf2, oks sj mj, okf, fun H3 k3 => k _ (Kp.tr0 k3 (Kp.tr0 k2 k1))⟩
theorem ok_follows_label {f : Addr} {fd : FuncData} (F : Fun K "follows_label" "follows_label" s_follows_label f fd) (B : Bi K mg C_Model) (D_Model_body : IsM P w K mg base CX0 1 C_Model "body" ["self", "label"] (spBody K C_Model)) (D_follows_then : Is P w K mg base CX0 5 "follows_then" ["body", "fact", "premise"] (spThen K)) (D_follows_given : Is P w K mg base CX0 3 "follows_given" ["body", "fact"] (spGiven K)) (D_follows_look : Is P w K mg base CX0 5 "follows_look" ["model", "body", "fact", "hints"] (spLook K C_Model)) (D_follows_apart : Is P w K mg base CX0 1 "follows_apart" ["body", "fact"] (spApart K)) : FnOk P w K mg base CX0 6 f fd ["model", "entries", "step"] (spLabelG K C_Model) := by
  have nd := sc_follows_label.nd
  obtain ⟨f_Model_body, fd_Model_body, G_Model_body, m_Model_body, b_Model_body⟩ := D_Model_body.ex
  refine F.ok sc_follows_label ?len (fun cdv A outer s H vs Q E hr h => ?body)
  case len =>
    rintro vs H Q E ⟨a, M, l, p, es, st, x, rfl, _⟩
    rfl
  case body =>
    obtain ⟨a, M, l, p, es, st, x, rfl, hM, mok, hE, e1000, oks, okf, num, hs, hp, hlab, hx, k⟩ := h
    refine ⟨_, (pss_cons (ps_set (i := 3) nd rfl (Or.inl rfl) (pe_ix (ixT K) (pv 2) pe_int (fun _ _ => rfl)))
      (pss_cons (ps_set (i := 4) nd rfl (Or.inl rfl) (pe_meth (pv 0) D_Model_body.cl m_Model_body G_Model_body (hr.mono (by decide)) b_Model_body .nil pass0 (pa_cons (pe_ix (ixT K) (pv 2) pe_int (fun _ _ => rfl)) pa_nil)))
      (pss_cons (ps_if (pt_cmpR op_eq (pv 3) pe_str (nomark _))
      (pss_one (ps_ret (pe_is D_follows_given (hr.mono (by decide)) rfl pass0 (pa_cons (pv 4) (pa_cons (pe_ix (ixT K) (pv 2) pe_int (fun _ _ => rfl)) pa_nil)))))
      pss_nil)
      (pss_cons (ps_if (pt_cmpR op_eq (pv 3) pe_str (nomark _))
      (pss_one (ps_ret (pe_is D_follows_look (hr.mono (by decide)) rfl pass0 (pa_cons (pv 0) (pa_cons (pv 4) (pa_cons (pe_ix (ixT K) (pv 2) pe_int (fun _ _ => rfl)) (pa_cons (by exact pe_lc (own := [("i", 5)]) (g := (gName 5)) (tt := tYes) rfl nd (pi_tup (pe_ix (ixT K) (pv 2) pe_int (fun _ _ => rfl))) (blkOk_by (N := ["model", "entries", "step", "rule", "body", "i"]) (sc := defScope s_follows_label) (by decide +kernel)) (fun _ _ _ _ _ => (pg_name (i := 5) nd rfl (Or.inl rfl))) (fun _ _ _ _ _ => pts_nil) (fun _ _ _ _ _ => (pe_ix (ixT K) (pe_ix (ixL K) (pv 1) (pv 5) (fun _ _ => rfl)) pe_int (fun _ _ => rfl)))) pa_nil)))))))
      pss_nil)
      (pss_cons (ps_if (pt_cmpR op_eq (pv 3) pe_str (nomark _))
      (pss_one (ps_ret (pe_is D_follows_apart (hr.mono (by decide)) rfl pass0 (pa_cons (pv 4) (pa_cons (pe_ix (ixT K) (pv 2) pe_int (fun _ _ => rfl)) pa_nil)))))
      pss_nil)
      (pss_one (ps_ret (pe_is D_follows_then (hr.mono (by decide)) rfl pass0 (pa_cons (pv 4) (pa_cons (pe_ix (ixT K) (pv 2) pe_int (fun _ _ => rfl)) (pa_cons (pe_ix (ixT K) (pe_ix (ixL K) (pv 1) (pe_ix (ixT K) (pv 2) pe_int (fun _ _ => rfl)) (fun _ _ => rfl)) pe_int (fun _ _ => rfl)) pa_nil))))))))))), ?_⟩
    try dsimp only [L2.cxOf, L2.Cx.nox, L2.Cx.wish]
    rw [st_follows_label]
    obtain ⟨b, hb, hm⟩ := bodyOf_some hx
    have fit := mok.bf _ hm
    have n60 := mok.n1
    have uok : usOk M.us := fun u hu => (mok.un u hu).2.2
    obtain ⟨f, r⟩ := st
    obtain ⟨q, xs, sp, hf, ha⟩ := step_open hs
    obtain ⟨refs, el, A⟩ := hE.ex
    dsimp only at okf num hp hlab
    cases r with
    | given y =>
      cases hlab
      dsimp only [Rule.name, Rule.args] at sp ha
      obtain ⟨_, _, rfl, a1, h2⟩ := ha.c
      obtain rfl := h2.n
      cases a1
      walk_at "cg"
      refine ⟨a, M, x, b, rfl, hM, mok.ln, hm, fun pb hpb => ?_⟩
      walk_at "cg"
      refine ⟨pb, q, b, f, rfl, hpb, Body.fit_bd fit, hf, fun H2 k2 => ?_⟩
      have q2 : Q (.bl ((bodyOf M _).any fun b => givenB b f)) H2 := k H2 k2
      rw [hb] at q2
      exact q2
    | look y is =>
      cases hlab
      dsimp only [Rule.name, Rule.args] at sp ha
      obtain ⟨_, _, rfl, a1, h2⟩ := ha.c
      obtain ⟨_, _, rfl, a2, h2⟩ := h2.c
      obtain rfl := h2.n
      cases a1
      obtain ⟨qi, rfl⟩ := Im.isRef (show Im K H _ (.tuple _) from a2)
      have si := a2.intsT
      have li : is.length ≤ 60 := num
      walk_at "cg"
      refine ⟨a, M, x, b, rfl, hM, mok.ln, hm, fun pb hpb => ?_⟩
      walk_at "cg"
      refine lcT_m (xs := is.map V.int) (as := is) (d := PyData.int) si (imInts is) (fun i => premD (premOf es i)) (by omega) (fun j i x H' R R' hi k2 hx q1 => ?_) (fun D1 H2 acc hD1 eD1 hA k2 => ?_)
      · cases hx
        have aw := hp i (List.mem_of_getElem? hi)
        obtain ⟨pe, qe, s, ys, ex, _, hpr, hsm, spe, fe⟩ := ent_at (k2.imAll A) aw
        walk_at "cg"
        refine r_ixL (k2.get0 el) ex ?_
        walk_at "cg"
        refine r_ixT spe atI_0 ?_
        walk_at "cg"
        exact q1 _ _ (by rw [hpr]; exact fe) .refl
      rw [prem_mapD fun i hi => by
        obtain ⟨pe, qe, s, ys, ex, _, hpr, _⟩ := ent_at A (hp i hi)
        exact ⟨_, hpr⟩] at hA
      walk_at "cg"
      refine ⟨a, M, pb, q, D1, b, f, acc, _, rfl, hM.kp0 k2, n60, uok, k2.im hpb, fit, k2.im hf, okf, eD1, hA, prems_ok oks, Nat.le_trans (List.length_filterMap_le _ _) li, fun H3 k3 => ?_⟩
      have q2 : Q (.bl ((bodyOf M _).any fun b => lookB M.us b f (is.filterMap (premOf es)))) H3 := k H3 (Kp.tr0 k3 k2)
      rw [hb] at q2
      exact q2
    | apart y =>
      cases hlab
      dsimp only [Rule.name, Rule.args] at sp ha
      obtain ⟨_, _, rfl, a1, h2⟩ := ha.c
      obtain rfl := h2.n
      cases a1
      walk_at "cg"
      refine ⟨a, M, x, b, rfl, hM, mok.ln, hm, fun pb hpb => ?_⟩
      walk_at "cg"
      refine ⟨pb, q, b, f, rfl, hpb, hf, ?_⟩
      have q2 : Q (.bl ((bodyOf M _).any fun b => apartB b f)) H := k H .refl
      rw [hb] at q2
      exact q2
    | thn y i =>
      cases hlab
      dsimp only [Rule.name, Rule.args] at sp ha
      obtain ⟨_, _, rfl, a1, h2⟩ := ha.c
      obtain ⟨_, _, rfl, a2, h2⟩ := h2.c
      obtain rfl := h2.n
      cases a1; cases a2
      obtain ⟨pe, qe, s, ys, ex, gi, hpr, hsm, spe, fe⟩ := ent_at A (hp i (by simp [Rule.prem]))
      walk_at "cg"
      refine ⟨a, M, x, b, rfl, hM, mok.ln, hm, fun pb hpb => ?_⟩
      walk_at "cg"
      refine r_ixL el ex ?_
      walk_at "cg"
      refine r_ixT spe atI_0 ?_
      walk_at "cg"
      refine ⟨pb, q, qe, b, f, s.f, _, rfl, hpb, fit, by omega, hf, fe, oks s hsm, fun H2 k2 => ?_⟩
      have q2 : Q (.bl ((bodyOf M _).any fun b => (stepOf es i).any fun s => thenB b f s.f)) H2 := k H2 k2
      rw [hb, gi] at q2
      exact q2
    | _ => cases hlab
theorem ok_follows {f : Addr} {fd : FuncData} (F : Fun K "follows" "follows" s_follows f fd) (B : Bi K mg C_Model) (D_follows_label : Is P w K mg base CX0 6 "follows_label" ["model", "entries", "step"] (spLabelG K C_Model)) (D_known : Is P w K mg base CX0 2 "known" ["model", "entries", "step"] (spKnown K C_Model)) (D_follows_bound : Is P w K mg base CX0 3 "follows_bound" ["model", "fact", "v"] (spBound K C_Model)) (D_follows_sum : Is P w K mg base CX0 2 "follows_sum" ["entries", "fact", "pairs"] (spSum K)) (D_follows_divide : Is P w K mg base CX0 2 "follows_divide" ["fact", "premise", "d"] (spDivide K)) (D_follows_unit : Is P w K mg base CX0 5 "follows_unit" ["model", "fact", "facts"] (spUnit K C_Model)) (D_follows_cases : Is P w K mg base CX0 5 "follows_cases" ["entries", "step"] (spCasesE K)) (D_is_contradiction : Is P w K mg base CX0 1 "is_contradiction" ["fact"] (spCon K)) (D_implies : Is P w K mg base CX0 4 "implies" ["first", "second"] (spImpl K implF)) (D_negation : Is P w K mg base CX0 2 "negation" ["fact"] (spNegF K)) : FnOk P w K mg base CX0 7 f fd ["model", "entries", "step"] (spFollowsG K C_Model) := by
  have nd := sc_follows.nd
  refine F.ok sc_follows ?len (fun cdv A outer s H vs Q E hr h => ?body)
  case len =>
    rintro vs H Q E ⟨a, M, l, p, es, st, rfl, _⟩
    rfl
  case body =>
    obtain ⟨a, M, l, p, es, st, rfl, hM, mok, hE, e1000, oks, bnd, num, hs, k⟩ := h
    refine ⟨_, (pss_cons (ps_if (pt_not (pt_val (pe_is D_known (hr.mono (by decide)) rfl pass0 (pa_cons (pv 0) (pa_cons (pv 1) (pa_cons (pv 2) pa_nil))))))
      (pss_one (ps_ret pe_bl))
      pss_nil)
      (pss_cons (ps_set (i := 3) nd rfl (Or.inl rfl) (pe_ix (ixT K) (pv 2) pe_int (fun _ _ => rfl)))
      (pss_cons (ps_if (pt_cmpR op_eq (pv 3) pe_str (nomark _))
      (pss_one (ps_ret (pe_is D_follows_bound (hr.mono (by decide)) rfl pass0 (pa_cons (pv 0) (pa_cons (pe_ix (ixT K) (pv 2) pe_int (fun _ _ => rfl)) (pa_cons (pe_ix (ixT K) (pv 2) pe_int (fun _ _ => rfl)) pa_nil))))))
      pss_nil)
      (pss_cons (ps_if (pt_cmpR op_eq (pv 3) pe_str (nomark _))
      (pss_one (ps_ret (pe_cmpR cg_notN (pe_is D_negation (hr.mono (by decide)) rfl pass0 (pa_cons (pe_ix (ixT K) (pv 2) pe_int (fun _ _ => rfl)) pa_nil)) pe_non (nomark _))))
      pss_nil)
      (pss_cons (ps_if (pt_cmpR op_eq (pv 3) pe_str (nomark _))
      (pss_one (ps_ret (pe_is D_follows_sum (hr.mono (by decide)) rfl pass0 (pa_cons (pv 1) (pa_cons (pe_ix (ixT K) (pv 2) pe_int (fun _ _ => rfl)) (pa_cons (pe_ix (ixT K) (pv 2) pe_int (fun _ _ => rfl)) pa_nil))))))
      pss_nil)
      (pss_cons (ps_if (pt_cmpR op_eq (pv 3) pe_str (nomark _))
      (pss_one (ps_ret (pe_is D_follows_divide (hr.mono (by decide)) rfl pass0 (pa_cons (pe_ix (ixT K) (pv 2) pe_int (fun _ _ => rfl)) (pa_cons (pe_ix (ixT K) (pe_ix (ixL K) (pv 1) (pe_ix (ixT K) (pv 2) pe_int (fun _ _ => rfl)) (fun _ _ => rfl)) pe_int (fun _ _ => rfl)) (pa_cons (pe_ix (ixT K) (pv 2) pe_int (fun _ _ => rfl)) pa_nil))))))
      pss_nil)
      (pss_cons (ps_if (pt_cmpR op_eq (pv 3) pe_str (nomark _))
      (pss_one (ps_ret (pe_is D_follows_unit (hr.mono (by decide)) rfl pass0 (pa_cons (pv 0) (pa_cons (pe_ix (ixT K) (pv 2) pe_int (fun _ _ => rfl)) (pa_cons (by exact pe_lc (own := [("i", 4)]) (g := (gName 4)) (tt := tYes) rfl nd (pi_tup (pe_ix (ixT K) (pv 2) pe_int (fun _ _ => rfl))) (blkOk_by (N := ["model", "entries", "step", "rule", "i"]) (sc := defScope s_follows) (by decide +kernel)) (fun _ _ _ _ _ => (pg_name (i := 4) nd rfl (Or.inl rfl))) (fun _ _ _ _ _ => pts_nil) (fun _ _ _ _ _ => (pe_ix (ixT K) (pe_ix (ixL K) (pv 1) (pv 4) (fun _ _ => rfl)) pe_int (fun _ _ => rfl)))) pa_nil))))))
      pss_nil)
      (pss_cons (ps_if (pt_cmpR op_eq (pv 3) pe_str (nomark _))
      (pss_one (ps_ret (pe_is D_follows_cases (hr.mono (by decide)) rfl pass0 (pa_cons (pv 1) (pa_cons (pv 2) pa_nil)))))
      pss_nil)
      (pss_cons (ps_if (pt_cmpR op_eq (pv 3) pe_str (nomark _))
      (pss_one (ps_ret (pe_is D_is_contradiction (hr.mono (by decide)) rfl pass0 (pa_cons (pe_ix (ixT K) (pe_ix (ixL K) (pv 1) (pe_ix (ixT K) (pv 2) pe_int (fun _ _ => rfl)) (fun _ _ => rfl)) pe_int (fun _ _ => rfl)) pa_nil))))
      pss_nil)
      (pss_cons (ps_if (pt_cmpR op_eq (pv 3) pe_str (nomark _))
      (pss_one (ps_ret (pe_is D_implies (hr.mono (by decide)) rfl pass0 (pa_cons (pe_ix (ixT K) (pe_ix (ixL K) (pv 1) (pe_ix (ixT K) (pv 2) pe_int (fun _ _ => rfl)) (fun _ _ => rfl)) pe_int (fun _ _ => rfl)) (pa_cons (pe_ix (ixT K) (pv 2) pe_int (fun _ _ => rfl)) pa_nil)))))
      pss_nil)
      (pss_one (ps_ret (pe_is D_follows_label (hr.mono (by decide)) rfl pass0 (pa_cons (pv 0) (pa_cons (pv 1) (pa_cons (pv 2) pa_nil)))))))))))))))), ?_⟩
    try dsimp only [L2.cxOf, L2.Cx.nox, L2.Cx.wish]
    rw [st_follows]
    have n60 := mok.n1
    have uok : usOk M.us := fun u hu => (mok.un u hu).2.2
    walk_at "cg"
    refine ⟨a, M, l, p, es, st, rfl, hM, n60, hE, e1000, hs, Rule.num_bd num, Fact.bnd_few bnd, fun H1 k1 => ?_⟩
    have hs1 := k1.im hs
    have E1 := hE.kp0 k1
    have M1 := hM.kp0 k1
    unfold followsB at k
    cases kn : knownB M es st
    · walk_at "cg"
      have q2 := k H1 k1
      rw [kn, Bool.false_and] at q2
      exact q2
    obtain ⟨hp, hlab, hv⟩ := known_ok kn
    have okf := Fact.bnd_ok bnd hv
    rw [kn] at k
    simp only [Bool.true_and] at k
    have kk : ∀ H2, Kp [] H1 H2 → Q (.bl (ruleF M es st.f st.r)) H2 := fun H2 k2 => k H2 (Kp.tr0 k2 k1)
    clear k k1 hs hE hM kn
    obtain ⟨f, r⟩ := st
    obtain ⟨q, xs, sp, hf, ha⟩ := step_open hs1
    obtain ⟨refs, el, A⟩ := E1.ex
    dsimp only at okf num hp hlab kk bnd
    cases r with
    | bound v =>
      dsimp only [Rule.name, Rule.args] at sp ha
      obtain ⟨_, _, rfl, a1, h2⟩ := ha.c
      obtain rfl := h2.n
      cases a1
      walk_at "cg"
      exact ⟨a, M, q, f, v, rfl, M1, n60, hf, kk⟩
    | suppose =>
      dsimp only [Rule.name, Rule.args] at sp ha
      obtain rfl := ha.n
      walk_at "cg"
      refine ⟨q, f, rfl, hf, ok_tms okf, fun x H2 hx k2 => ?_⟩
      have q2 : Q (.bl f.ngt.isSome) H2 := kk H2 k2
      generalize f.ngt = o at hx q2
      cases hx with
      | none =>
        walk_at "cg"
        exact q2
      | some hg =>
        walk_at "cg"
        exact q2
    | sum ps =>
      dsimp only [Rule.name, Rule.args] at sp ha
      obtain ⟨_, _, rfl, a1, h2⟩ := ha.c
      obtain rfl := h2.n
      obtain ⟨qp, rfl⟩ := Im.isRef (show Im K H1 _ (.tuple _) from a1)
      walk_at "cg"
      exact ⟨l, q, qp, es, f, ps, _, rfl, E1, oks, n60, hf, a1, fun p hpp => ⟨hp p.1 (List.mem_map.mpr ⟨p, hpp, rfl⟩), num.2 p hpp⟩, kk⟩
    | divide i d =>
      dsimp only [Rule.name, Rule.args] at sp ha
      obtain ⟨_, _, rfl, a1, h2⟩ := ha.c
      obtain ⟨_, _, rfl, a2, h2⟩ := h2.c
      obtain rfl := h2.n
      cases a1; cases a2
      obtain ⟨pe, qe, s, ys, ex, gi, hpr, hsm, spe, fe⟩ := ent_at A (hp i (by simp [Rule.prem]))
      walk_at "cg"
      refine r_ixL el ex ?_
      walk_at "cg"
      refine r_ixT spe atI_0 ?_
      walk_at "cg"
      refine ⟨q, qe, f, s.f, d, _, rfl, hf, fe, oks s hsm, num, fun H2 k2 => ?_⟩
      have q2 : Q (.bl ((stepOf es i).any fun s => divideB f s.f d)) H2 := kk H2 k2
      rw [gi] at q2
      exact q2
    | unit is =>
      dsimp only [Rule.name, Rule.args] at sp ha
      obtain ⟨_, _, rfl, a1, h2⟩ := ha.c
      obtain rfl := h2.n
      obtain ⟨qi, rfl⟩ := Im.isRef (show Im K H1 _ (.tuple _) from a1)
      have si := a1.intsT
      have li : is.length ≤ 60 := num
      walk_at "cg"
      refine lcT_m (xs := is.map V.int) (as := is) (d := PyData.int) si (imInts is) (fun i => premD (premOf es i)) (by omega) (fun j i x H' R R' hi k2 hx q1 => ?_) (fun D1 H2 acc hD1 eD1 hA k2 => ?_)
      · cases hx
        have aw := hp i (List.mem_of_getElem? hi)
        obtain ⟨pe, qe, s, ys, ex, _, hpr, hsm, spe, fe⟩ := ent_at (k2.imAll A) aw
        walk_at "cg"
        refine r_ixL (k2.get0 el) ex ?_
        walk_at "cg"
        refine r_ixT spe atI_0 ?_
        walk_at "cg"
        exact q1 _ _ (by rw [hpr]; exact fe) .refl
      rw [prem_mapD fun i hi => by
        obtain ⟨pe, qe, s, ys, ex, _, hpr, _⟩ := ent_at A (hp i hi)
        exact ⟨_, hpr⟩] at hA
      walk_at "cg"
      exact ⟨a, M, q, D1, acc, f, _, rfl, M1.kp0 k2, n60, uok, k2.im hf, okf, eD1, hA, prems_ok oks, Nat.le_trans (List.length_filterMap_le _ _) li, fun H3 k3 => kk H3 (Kp.tr0 k3 k2)⟩
    | cases i j s t =>
      dsimp only [Rule.name, Rule.args] at sp
      walk_at "cg"
      refine r_ixT sp atI_1 ?_
      walk_at "cg"
      exact ⟨l, p, es, f, i, j, s, t, _, rfl, E1, oks, okf, hs1, hp, kk⟩
    | absurd i =>
      dsimp only [Rule.name, Rule.args] at sp ha
      obtain ⟨_, _, rfl, a1, h2⟩ := ha.c
      obtain rfl := h2.n
      cases a1
      obtain ⟨pe, qe, s, ys, ex, gi, hpr, hsm, spe, fe⟩ := ent_at A (hp i (by simp [Rule.prem]))
      walk_at "cg"
      refine r_ixL el ex ?_
      walk_at "cg"
      refine r_ixT spe atI_0 ?_
      walk_at "cg"
      refine ⟨qe, s.f, rfl, fe, ?_⟩
      have q2 : Q (.bl ((stepOf es i).any fun s => s.f.isCon)) H1 := kk H1 .refl
      rw [gi] at q2
      exact q2
    | weaken i =>
      dsimp only [Rule.name, Rule.args] at sp ha
      obtain ⟨_, _, rfl, a1, h2⟩ := ha.c
      obtain rfl := h2.n
      cases a1
      obtain ⟨pe, qe, s, ys, ex, gi, hpr, hsm, spe, fe⟩ := ent_at A (hp i (by simp [Rule.prem]))
      walk_at "cg"
      refine r_ixL el ex ?_
      walk_at "cg"
      refine r_ixT spe atI_0 ?_
      walk_at "cg"
      refine ⟨qe, q, s.f, f, _, rfl, fe, hf, oks s hsm, okf, fun H2 k2 => ?_⟩
      have q2 : Q (.bl ((stepOf es i).any fun s => implF s.f f)) H2 := kk H2 k2
      rw [gi] at q2
      exact q2
    | _ =>
      dsimp only [Rule.name, Rule.args] at sp
      walk_at "cg"
      refine r_ixT sp atI_1 ?_
      walk_at "cg"
      exact ⟨a, M, l, p, es, _, _, rfl, M1, mok, E1, e1000, oks, okf, num, hs1, hp, rfl, hlab _ rfl, kk⟩

end
section
variable {P : Program} {w : World} {K : PySem.W.Frag} {mg : Str → Option Value} {base : Heap} {C_Model : Addr}
theorem ok_unknowns_of {f : Addr} {fd : FuncData} (F : Fun K "unknowns_of" "unknowns_of" s_unknowns_of f fd) (B : Bi K mg C_Model)  : FnOk P w K mg base CX0 1 f fd ["body"] (spUnkn K) := by
  have nd := sc_unknowns_of.nd
  refine F.ok sc_unknowns_of ?len (fun cdv A outer s H vs Q E hr h => ?body)
  case len =>
    rintro vs H Q E ⟨p, b, rfl, _⟩
    rfl
  case body =>
    obtain ⟨p, b, rfl, hb, bd, k⟩ := h
    refine ⟨_, (pss_cons (ps_set (i := 1) nd rfl (Or.inl rfl) (pe_ix (ixT K) (pv 0) pe_int (fun _ _ => rfl)))
      (pss_cons (ps_set (i := 2) nd rfl (Or.inl rfl) (pe_lst pa_nil))
      (pss_cons (ps_if (pt_cmpR op_eq (pv 1) pe_str (nomark _))
      (pss_one (ps_setLc (i := 2) (own := [("v", 3), ("c", 4)]) (g := (gTup K 2 (gCons (gName 3) (gCons (gName 4) gNil)))) (tt := tYes) rfl nd rfl rfl (sw_true rfl rfl rfl (by decide +kernel)) (pi_tup (pe_ix (ixT K) (pv 0) pe_int (fun _ _ => rfl))) (blkOk_by (N := ["body", "kind", "found", "v", "c", "literal"]) (sc := defScope s_unknowns_of) (by decide +kernel)) (fun _ _ _ _ _ => (pg_tup (n := 2) rfl (pgs_cons (pg_name (i := 3) nd rfl (Or.inl rfl)) (pgs_cons (pg_name (i := 4) nd rfl (Or.inl rfl)) pgs_nil)))) (fun _ _ _ _ _ => pts_nil) (fun _ _ _ _ _ => (pv 3))))
      (pss_one (ps_if (pt_cmpR op_eq (pv 1) pe_str (nomark _))
      (pss_one (ps_setLc (i := 2) (own := [("literal", 5)]) (g := (gName 5)) (tt := tYes) rfl nd rfl rfl (sw_true rfl rfl rfl (by decide +kernel)) (pi_tup (pe_ix (ixT K) (pv 0) pe_int (fun _ _ => rfl))) (blkOk_by (N := ["body", "kind", "found", "v", "c", "literal"]) (sc := defScope s_unknowns_of) (by decide +kernel)) (fun _ _ _ _ _ => (pg_name (i := 5) nd rfl (Or.inl rfl))) (fun _ _ _ _ _ => pts_nil) (fun _ _ _ _ _ => (pe_ix (ixT K) (pv 5) pe_int (fun _ _ => rfl)))))
      (pss_one (ps_if (pt_cmpR op_eq (pv 1) pe_str (nomark _))
      (pss_one (ps_set (i := 2) nd rfl (Or.inl rfl) (pe_op (op_catL K) (pe_lst (pa_cons (pe_ix (ixT K) (pe_ix (ixT K) (pv 0) pe_int (fun _ _ => rfl)) pe_int (fun _ _ => rfl)) pa_nil)) (by exact pe_lc (own := [("v", 3), ("c", 4)]) (g := (gTup K 2 (gCons (gName 3) (gCons (gName 4) gNil)))) (tt := tYes) rfl nd (pi_tup (pe_ix (ixT K) (pv 0) pe_int (fun _ _ => rfl))) (blkOk_by (N := ["body", "kind", "found", "v", "c", "literal"]) (sc := defScope s_unknowns_of) (by decide +kernel)) (fun _ _ _ _ _ => (pg_tup (n := 2) rfl (pgs_cons (pg_name (i := 3) nd rfl (Or.inl rfl)) (pgs_cons (pg_name (i := 4) nd rfl (Or.inl rfl)) pgs_nil)))) (fun _ _ _ _ _ => pts_nil) (fun _ _ _ _ _ => (pv 3))))))
      (pss_one (ps_if (pt_cmpR (inS K) (pv 1) (pe_tup (pa_cons pe_str (pa_cons pe_str pa_nil))) rfl)
      (pss_one (ps_set (i := 2) nd rfl (Or.inl rfl) (pe_callTy (cgList K) (by rfl) B.n_list (by decide +kernel) (pa_cons (pe_ix (ixT K) (pv 0) pe_int (fun _ _ => rfl)) pa_nil))))
      (pss_one (ps_if (pt_cmpR op_eq (pv 1) pe_str (nomark _))
      (pss_one (ps_set (i := 2) nd rfl (Or.inl rfl) (pe_lst (pa_cons (pe_ix (ixT K) (pv 0) pe_int (fun _ _ => rfl)) (pa_cons (pe_ix (ixT K) (pv 0) pe_int (fun _ _ => rfl)) pa_nil)))))
      (pss_one (ps_set (i := 2) nd rfl (Or.inl rfl) (pe_lst (pa_cons (pe_ix (ixT K) (pv 0) pe_int (fun _ _ => rfl)) (pa_cons (pe_ix (ixT K) (pv 0) pe_int (fun _ _ => rfl)) (pa_cons (pe_ix (ixT K) (pv 0) pe_int (fun _ _ => rfl)) pa_nil)))))))))))))))
      (pss_one (ps_ret (pe_callB (cr_sortedSet rfl) (by rfl) B.n_sorted (by decide +kernel) (pa_cons (pe_callTy (cg_setL rfl) (by rfl) B.n_set PyProof.Rows.boot_set (pa_cons (pv 2) pa_nil)) pa_nil))))))), ?_⟩
    try dsimp only [L2.cxOf, L2.Cx.nox, L2.Cx.wish]
    rw [st_unknowns_of]
    have few := Body.bd_vars bd
    cases b with
    | row ts r n =>
      obtain ⟨q, s1, i1⟩ := b_row hb
      obtain ⟨xs, s2, i2⟩ := Im.open i1
      walk_at "cg"
      refine lcT_i (xs := xs) (as := ts) (d := tD) (by walk_at "cg h") (by walk_at "cg h") (fun z => z.1) (by have := bd.2; omega) (fun i z x H' R R' hz k2 hx q => ?_) (fun D H' hD eD k2 => ?_)
      · obtain ⟨px, rfl, hs⟩ := term_at hx
        walk_at "cg"
        exact q _ .refl
      · walk_at "cg"
        refine r_setS eD (by show (Body.vars (.row ts r n)).length ≤ _; omega) fun S H3 c hS eS hc k3 => ?_
        walk_at "cg"
        have hc2 : c ≤ (Body.vars (.row ts r n)).length := hc
        refine r_sortS eS (by omega) fun l ns H4 hl el asc mem k4 => ?_
        exact k _ _ _ (by walk_at "cg fr") el asc (fun j => by rw [mem, decide_eq_true_eq]; try exact Iff.rfl) (by walk_at "cg kp")
    | any ls =>
      obtain ⟨q, s1, i1⟩ := b_any hb
      obtain ⟨xs, s2, i2⟩ := Im.open i1
      walk_at "cg"
      refine lcT_i (xs := xs) (as := ls) (d := Lit.d) (by walk_at "cg h") (by walk_at "cg h") (fun z => z.v) (by have : ls.length ≤ 62 := bd; omega) (fun i z x H' R R' hz k2 hx q => ?_) (fun D H' hD eD k2 => ?_)
      · obtain ⟨px, rfl, hs⟩ := lit_at hx
        walk_at "cg"
        exact q _ .refl
      · walk_at "cg"
        refine r_setS eD (by show (Body.vars (.any ls)).length ≤ _; omega) fun S H3 c hS eS hc k3 => ?_
        walk_at "cg"
        have hc2 : c ≤ (Body.vars (.any ls)).length := hc
        refine r_sortS eS (by omega) fun l ns H4 hl el asc mem k4 => ?_
        exact k _ _ _ (by walk_at "cg fr") el asc (fun j => by rw [mem, decide_eq_true_eq]; try exact Iff.rfl) (by walk_at "cg kp")
    | when l ts r n =>
      obtain ⟨q1, q, s1, L, i1⟩ := b_when hb
      obtain ⟨xs, s2, i2⟩ := Im.open i1
      walk_at "cg"
      refine lcT_i (xs := xs) (as := ts) (d := tD) (by walk_at "cg h") (by walk_at "cg h") (fun z => z.1) (by have := bd.2; omega) (fun i z x H' R R' hz k2 hx q => ?_) (fun D H' hD eD k2 => ?_)
      · obtain ⟨px, rfl, hs⟩ := term_at hx
        walk_at "cg"
        exact q _ .refl
      · walk_at "cg"
        refine r_cat (by walk_at "cg h") eD (by simp; have := bd.2; omega) fun D2 H5 hD2 eD2 k5 => ?_
        walk_at "cg"
        refine r_setS (ns := (Body.vars (.when l ts r n))) eD2 (by omega) fun S H3 c hS eS hc k3 => ?_
        walk_at "cg"
        refine r_sortS eS (by omega) fun l ns H4 hl el asc mem k4 => ?_
        exact k _ _ _ (by walk_at "cg fr") el asc (fun j => by rw [mem, decide_eq_true_eq]; try exact Iff.rfl) (by walk_at "cg kp")
    | diff us =>
      obtain ⟨q, s1, s2⟩ := b_diff hb
      walk_at "cg"
      refine r_setS (ns := us) (by assumption) (by have : us.length ≤ 62 := bd; omega) fun S H3 c hS eS hc k3 => ?_
      walk_at "cg"
      refine r_sortS eS (by have : us.length ≤ 62 := bd; omega) fun l ns H4 hl el asc mem k4 => ?_
      exact k _ _ _ (by walk_at "cg fr") el asc (fun j => by rw [mem, decide_eq_true_eq]; try exact Iff.rfl) (by walk_at "cg kp")
    | table us rows =>
      obtain ⟨q, q2, s1, s2, i2⟩ := b_table hb
      walk_at "cg"
      refine r_setS (ns := us) (by assumption) (by have : us.length ≤ 62 := bd.1; omega) fun S H3 c hS eS hc k3 => ?_
      walk_at "cg"
      refine r_sortS eS (by have : us.length ≤ 62 := bd.1; omega) fun l ns H4 hl el asc mem k4 => ?_
      exact k _ _ _ (by walk_at "cg fr") el asc (fun j => by rw [mem, decide_eq_true_eq]; try exact Iff.rfl) (by walk_at "cg kp")
    | elem x es y =>
      obtain ⟨q, s1, s2⟩ := b_elem hb
      walk_at "cg"
      refine r_setS (ns := [x, y]) (by assumption) (by simp) fun S H3 c hS eS hc k3 => ?_
      walk_at "cg"
      refine r_sortS eS (by simp at hc; omega) fun l ns H4 hl el asc mem k4 => ?_
      exact k _ _ _ (by walk_at "cg fr") el asc (fun j => by rw [mem, decide_eq_true_eq]; try exact Iff.rfl) (by walk_at "cg kp")
    | times x y z =>
      have s1 := b_times hb
      walk_at "cg"
      refine r_setS (ns := [x, y, z]) (by assumption) (by simp) fun S H3 c hS eS hc k3 => ?_
      walk_at "cg"
      refine r_sortS eS (by simp at hc; omega) fun l ns H4 hl el asc mem k4 => ?_
      exact k _ _ _ (by walk_at "cg fr") el asc (fun j => by rw [mem, decide_eq_true_eq]; try exact Iff.rfl) (by walk_at "cg kp")

theorem ok_body_holds {f : Addr} {fd : FuncData} (F : Fun K "body_holds" "body_holds" s_body_holds f fd) (B : Bi K mg C_Model) (D_relation_holds : Is P w K mg base CX0 1 "relation_holds" ["relation", "left", "right"] spRel) (D_terms_sum : Is P w K mg base CX0 1 "terms_sum" ["terms", "point"] (spSumF K)) (D_literal_holds : Is P w K mg base CX0 2 "literal_holds" ["literal", "worth"] (spLit K)) : FnOk P w K mg base CX0 3 f fd ["body", "point"] (spHolds K) := by
  have nd := sc_body_holds.nd
  refine F.ok sc_body_holds ?len (fun cdv A outer s H vs Q E hr h => ?body)
  case len =>
    rintro vs H Q E ⟨p, q, b, f, dom, rfl, _⟩
    rfl
  case body =>
    obtain ⟨p, q, b, f, dom, rfl, hb, bd, hP, hF, hD, k⟩ := h
    refine ⟨_, (pss_cons (ps_set (i := 2) nd rfl (Or.inl rfl) (pe_ix (ixT K) (pv 0) pe_int (fun _ _ => rfl)))
      (pss_cons (ps_if (pt_cmpR op_eq (pv 2) pe_str (nomark _))
      (pss_one (ps_ret (pe_is D_relation_holds (hr.mono (by decide)) rfl pass0 (pa_cons (pe_ix (ixT K) (pv 0) pe_int (fun _ _ => rfl)) (pa_cons (pe_is D_terms_sum (hr.mono (by decide)) rfl pass0 (pa_cons (pe_ix (ixT K) (pv 0) pe_int (fun _ _ => rfl)) (pa_cons (pv 1) pa_nil))) (pa_cons (pe_ix (ixT K) (pv 0) pe_int (fun _ _ => rfl)) pa_nil))))))
      pss_nil)
      (pss_cons (ps_if (pt_cmpR op_eq (pv 2) pe_str (nomark _))
      (pss_one (ps_ret (pe_callB (cr_any rfl) (by rfl) B.n_any (by decide +kernel) (pa_cons (by exact pe_lc (own := [("literal", 3)]) (g := (gName 3)) (tt := tYes) rfl nd (pi_tup (pe_ix (ixT K) (pv 0) pe_int (fun _ _ => rfl))) (blkOk_by (N := ["body", "point", "kind", "literal", "at", "v"]) (sc := defScope s_body_holds) (by decide +kernel)) (fun _ _ _ _ _ => (pg_name (i := 3) nd rfl (Or.inl rfl))) (fun _ _ _ _ _ => pts_nil) (fun _ _ _ _ _ => (pe_is D_literal_holds (hr.mono (by decide)) rfl pass0 (pa_cons (pv 3) (pa_cons (pe_ix (ixP K) (pv 1) (pe_ix (ixT K) (pv 3) pe_int (fun _ _ => rfl)) (fun _ _ => rfl)) pa_nil))))) pa_nil))))
      pss_nil)
      (pss_cons (ps_if (pt_cmpR op_eq (pv 2) pe_str (nomark _))
      (pss_cons (ps_set (i := 3) nd rfl (Or.inl rfl) (pe_ix (ixT K) (pv 0) pe_int (fun _ _ => rfl)))
      (pss_cons (ps_if (pt_not (pt_val (pe_is D_literal_holds (hr.mono (by decide)) rfl pass0 (pa_cons (pv 3) (pa_cons (pe_ix (ixP K) (pv 1) (pe_ix (ixT K) (pv 3) pe_int (fun _ _ => rfl)) (fun _ _ => rfl)) pa_nil)))))
      (pss_one (ps_ret pe_bl))
      pss_nil)
      (pss_one (ps_ret (pe_is D_relation_holds (hr.mono (by decide)) rfl pass0 (pa_cons (pe_ix (ixT K) (pv 0) pe_int (fun _ _ => rfl)) (pa_cons (pe_is D_terms_sum (hr.mono (by decide)) rfl pass0 (pa_cons (pe_ix (ixT K) (pv 0) pe_int (fun _ _ => rfl)) (pa_cons (pv 1) pa_nil))) (pa_cons (pe_ix (ixT K) (pv 0) pe_int (fun _ _ => rfl)) pa_nil))))))))
      pss_nil)
      (pss_cons (ps_if (pt_cmpR op_eq (pv 2) pe_str (nomark _))
      (pss_one (ps_ret (pe_cmpR op_eq (pe_callB cg_lenN (by rfl) B.n_len PySem.boot_len (pa_cons (pe_callTy (cg_setLn rfl) (by rfl) B.n_set PyProof.Rows.boot_set (pa_cons (by exact pe_lc (own := [("v", 5)]) (g := (gName 5)) (tt := tYes) rfl nd (pi_tup (pe_ix (ixT K) (pv 0) pe_int (fun _ _ => rfl))) (blkOk_by (N := ["body", "point", "kind", "literal", "at", "v"]) (sc := defScope s_body_holds) (by decide +kernel)) (fun _ _ _ _ _ => (pg_name (i := 5) nd rfl (Or.inl rfl))) (fun _ _ _ _ _ => pts_nil) (fun _ _ _ _ _ => (pe_ix (ixP K) (pv 1) (pv 5) (fun _ _ => rfl)))) pa_nil)) pa_nil)) (pe_callB (cgLen K) (by rfl) B.n_len PySem.boot_len (pa_cons (pe_ix (ixT K) (pv 0) pe_int (fun _ _ => rfl)) pa_nil)) (nomark _))))
      pss_nil)
      (pss_cons (ps_if (pt_cmpR op_eq (pv 2) pe_str (nomark _))
      (pss_one (ps_ret (pe_cmpR (inDT K hr) (pe_callTy (cgTuple K) (by rfl) B.n_tuple (by decide +kernel) (pa_cons (by exact pe_lc (own := [("v", 5)]) (g := (gName 5)) (tt := tYes) rfl nd (pi_tup (pe_ix (ixT K) (pv 0) pe_int (fun _ _ => rfl))) (blkOk_by (N := ["body", "point", "kind", "literal", "at", "v"]) (sc := defScope s_body_holds) (by decide +kernel)) (fun _ _ _ _ _ => (pg_name (i := 5) nd rfl (Or.inl rfl))) (fun _ _ _ _ _ => pts_nil) (fun _ _ _ _ _ => (pe_ix (ixP K) (pv 1) (pv 5) (fun _ _ => rfl)))) pa_nil)) (pe_ix (ixT K) (pv 0) pe_int (fun _ _ => rfl)) rfl)))
      pss_nil)
      (pss_cons (ps_if (pt_cmpR op_eq (pv 2) pe_str (nomark _))
      (pss_cons (ps_set (i := 4) nd rfl (Or.inl rfl) (pe_ix (ixP K) (pv 1) (pe_ix (ixT K) (pv 0) pe_int (fun _ _ => rfl)) (fun _ _ => rfl)))
      (pss_one (ps_ret (pe_and (pe_chain op_le op_lt pe_int (pv 4) (pe_callB (cgLen K) (by rfl) B.n_len PySem.boot_len (pa_cons (pe_ix (ixT K) (pv 0) pe_int (fun _ _ => rfl)) pa_nil))) (pe_one (pe_cmpR op_eq (pe_ix (ixT K) (pe_ix (ixT K) (pv 0) pe_int (fun _ _ => rfl)) (pv 4) (fun _ _ => rfl)) (pe_ix (ixP K) (pv 1) (pe_ix (ixT K) (pv 0) pe_int (fun _ _ => rfl)) (fun _ _ => rfl)) (nomark _)))))))
      pss_nil)
      (pss_one (ps_ret (pe_cmpR op_eq (pe_op op_mul (pe_ix (ixP K) (pv 1) (pe_ix (ixT K) (pv 0) pe_int (fun _ _ => rfl)) (fun _ _ => rfl)) (pe_ix (ixP K) (pv 1) (pe_ix (ixT K) (pv 0) pe_int (fun _ _ => rfl)) (fun _ _ => rfl))) (pe_ix (ixP K) (pv 1) (pe_ix (ixT K) (pv 0) pe_int (fun _ _ => rfl)) (fun _ _ => rfl)) (nomark _))))))))))), ?_⟩
    try dsimp only [L2.cxOf, L2.Cx.nox, L2.Cx.wish]
    rw [st_body_holds]
    cases b with
    | row ts r n =>
      obtain ⟨q1, s1, i1⟩ := b_row hb
      walk_at "cg"
      refine spSumF_i i1 hP (fun z hz => hD _ (List.mem_map.mpr ⟨z, hz, rfl⟩)) bd.1 ?_
      walk_at "cg"
      exact k _ .refl
    | any ls =>
      obtain ⟨q1, s1, i1⟩ := b_any hb
      obtain ⟨xs, s2, i2⟩ := Im.open i1
      walk_at "cg"
      refine lcT_b s2 i2 (fun l => l.h f) (by have : ls.length ≤ 62 := bd; omega) (fun i l x H' R R' hl k2 hx q2 => ?_) (fun D H' hD eD k2 => ?_)
      · obtain ⟨px, rfl, hs⟩ := lit_at hx
        walk_at "cg"
        refine r_pt (hP.kp0 k2) (hD _ (List.mem_map.mpr ⟨l, List.mem_of_getElem? hl, rfl⟩)) ?_
        walk_at "cg"
        exact q2 _ .refl
      · walk_at "cg"
        refine r_any eD ?_
        have e : (ls.map fun l => l.h f).any id = Body.h f (.any ls) := by
          rw [List.any_map]
          rfl
        rw [e]
        exact k _ (by walk_at "cg kp")
    | when l ts r n =>
      obtain ⟨q1, q2, s1, L, i1⟩ := b_when hb
      walk_at "cg"
      refine r_pt hP (hD _ List.mem_cons_self) ?_
      walk_at "cg"
      have e : l.h f = l.r.h (f l.v) l.a := rfl
      cases e2 : l.r.h (f l.v) l.a
      · walk_at "cg"
        have q := k H .refl
        simp only [Body.h, e, e2, Bool.not_false, Bool.true_or] at q
        exact q
      · walk_at "cg"
        refine spSumF_i i1 hP (fun z hz => hD _ (List.mem_cons_of_mem _ (List.mem_map.mpr ⟨z, hz, rfl⟩))) bd.1 ?_
        walk_at "cg"
        have q := k H .refl
        simp only [Body.h, e, e2, Bool.not_true, Bool.false_or] at q
        exact q
    | diff us =>
      obtain ⟨q1, s1, s2⟩ := b_diff hb
      have few : us.length ≤ 62 := bd
      walk_at "cg"
      refine lcT_i s2 (imInts us) f (by omega) (fun i v x H' R R' hv k2 hx q2 => ?_) (fun D H' hD eD k2 => ?_)
      · obtain rfl := hx.flat (y := .int v) rfl
        walk_at "cg"
        refine r_pt (hP.kp0 k2) (hD _ (List.mem_of_getElem? hv)) ?_
        walk_at "cg"
        exact q2 _ .refl
      · walk_at "cg"
        refine r_setLn eD (by rw [List.length_map]; omega) fun S H3 hS eS k3 => ?_
        walk_at "cg"
        refine r_lenN eS ?_
        walk_at "cg"
        have e : decide (((dd (us.map f)).length : Int) = ((us.map V.int).length : Int)) = Body.h f (.diff us) := by
          simp only [Body.h]
          rw [Bool.eq_iff_iff, decide_eq_true_eq, decide_eq_true_eq, ← dd_len, List.length_map, List.length_map]
          omega
        rw [e]
        exact k _ (by walk_at "cg kp")
    | table us rows =>
      obtain ⟨q1, q2, s1, s2, i2⟩ := b_table hb
      have few : us.length ≤ 62 := bd.1
      walk_at "cg"
      refine lcT_i s2 (imInts us) f (by omega) (fun i v x H' R R' hv k2 hx q2 => ?_) (fun D H' hD eD k2 => ?_)
      · obtain rfl := hx.flat (y := .int v) rfl
        walk_at "cg"
        refine r_pt (hP.kp0 k2) (hD _ (List.mem_of_getElem? hv)) ?_
        walk_at "cg"
        exact q2 _ .refl
      · walk_at "cg"
        refine ⟨intsD (us.map f), rows.map intsD, Im.dp (intsT_im (by assumption)), Im.dp (by walk_at "cg h"), (intsD_shp _).ok, (rowsD_shp _).ok, ?_⟩
        have e : ((rows.map intsD).any fun z => PyData.eqv z (intsD (us.map f))) = Body.h f (.table us rows) := by
          rw [any_in intsD_eqv, Bool.eq_iff_iff]
          simp [Body.h]
        rw [e]
        exact k _ (by walk_at "cg kp")
    | elem x es y =>
      obtain ⟨q1, s1, s2⟩ := b_elem hb
      have few : es.length ≤ 1000 := bd
      walk_at "cg"
      refine r_pt hP (hD x (by simp [Body.vars])) ?_
      walk_at "cg"
      refine if_S (fun h0 => ?_) (fun h0 => ?_)
      · walk_at "cg"
        refine if_S (fun h1 => ?_) (fun h1 => ?_)
        · rw [List.length_map] at h1
          walk_at "cg"
          refine r_ixT s2 (atI_ints h0 h1) ?_
          walk_at "cg"
          refine r_pt hP (hD y (by simp [Body.vars])) ?_
          walk_at "cg"
          have q := k H .refl
          simp only [Body.h, decide_eq_true h0, decide_eq_true h1, Bool.true_and] at q
          exact q
        · rw [List.length_map] at h1
          walk_at "cg"
          have q := k H .refl
          simp only [Body.h, decide_eq_true h0, decide_eq_false h1, Bool.true_and, Bool.false_and] at q
          exact q
      · walk_at "cg"
        have q := k H .refl
        simp only [Body.h, decide_eq_false h0, Bool.false_and] at q
        exact q
    | times x y z =>
      have s1 := b_times hb
      have b1 := hF x (hD x (by simp [Body.vars]))
      walk_at "cg"
      refine r_pt hP (hD x (by simp [Body.vars])) ?_
      walk_at "cg"
      refine r_pt hP (hD y (by simp [Body.vars])) ?_
      walk_at "cg"
      refine r_pt hP (hD z (by simp [Body.vars])) ?_
      walk_at "cg"
      exact k _ .refl

end

/-! ### the greater and the lesser of two -/
def rMax2 : List V → Hp → VK → Prop := fun xs H Q => ∃ i j, xs = [.int i, .int j] ∧ Q (.int (if j > i then j else i)) H
def rMin2 : List V → Hp → VK → Prop := fun xs H Q => ∃ i j, xs = [.int i, .int j] ∧ Q (.int (if j < i then j else i)) H
theorem cg_max2 {X : Cx} (hc : X.calm = true) : CallR X (.builtin "max") rMax2 := call_max2 hc
theorem cg_min2 {X : Cx} (hc : X.calm = true) : CallR X (.builtin "min") rMin2 := call_min2 hc
instance s_max2 {i j : Int} {H : Hp} {Q : VK} : Stp (rMax2 [.int i, .int j] H Q) (Q (.int (if j > i then j else i)) H) := ⟨fun h => ⟨i, j, rfl, h⟩⟩
instance s_min2 {i j : Int} {H : Hp} {Q : VK} : Stp (rMin2 [.int i, .int j] H Q) (Q (.int (if j < i then j else i)) H) := ⟨fun h => ⟨i, j, rfl, h⟩⟩

/-! ### the cost of a look -/
def lookCostB (us : List Un) (b : Body) (f : Fact) : Int := match dropF (fullD us) f with
  | none => 0
  | some D => costB us.length b D
def spLookCost (K : PySem.W.Frag) (C : Addr) : Sp := fun vs H Q _ => ∃ (a : MA) (M : Mdl) (pb pf : Addr) (b : Body) (f : Fact), vs = [.ref a.p, .ref pb, .ref pf] ∧ MdlAt K C H a M ∧ M.us.length ≤ 60 ∧ usOk M.us ∧ BodyAt K H pb b ∧ b.fit M.us.length ∧ FactAt K H pf f ∧ (∀ v ∈ f.vars, v ∈ b.vars) ∧ ∀ H', Kp [] H H' → Q (.int (lookCostB M.us b f)) H'
section
variable {P : Program} {w : World} {K : PySem.W.Frag} {mg : Str → Option Value} {base : Heap} {C_Model : Addr}
theorem ok_look_cost {f : Addr} {fd : FuncData} (F : Fun K "look_cost" "look_cost" s_look_cost f fd) (B : Bi K mg C_Model) (D_full_domains : Is P w K mg base CX0 3 "full_domains" ["model", "unknowns"] (spFullD K C_Model)) (D_cost_of : Is P w K mg base CX0 2 "cost_of" ["body", "domains"] (spCostOf K)) (D_unknowns_of : Is P w K mg base CX0 1 "unknowns_of" ["body"] (spUnkn K)) (D_drop_literals : Is P w K mg base CX0 3 "drop_literals" ["domains", "literals"] (spDropL K)) : FnOk P w K mg base CX0 4 f fd ["model", "body", "fact"] (spLookCost K C_Model) := by
  have nd := sc_look_cost.nd
  refine F.ok sc_look_cost ?len (fun cdv A outer s H vs Q E hr h => ?body)
  case len =>
    rintro vs H Q E ⟨a, M, pb, pf, b, f, rfl, _⟩
    rfl
  case body =>
    obtain ⟨a, M, pb, pf, b, f, rfl, hM, n60, uok, hb, fit, hf, hv, k⟩ := h
    refine ⟨_, (pss_cons (ps_set (i := 3) nd rfl (Or.inl rfl) (pe_is D_full_domains (hr.mono (by decide)) rfl pass0 (pa_cons (pv 0) (pa_cons (pe_is D_unknowns_of (hr.mono (by decide)) rfl pass0 (pa_cons (pv 1) pa_nil)) pa_nil))))
      (pss_cons (ps_if (PW.pt (pw_and (pt_cmpR op_eq (pe_ix (ixT K) (pv 2) pe_int (fun _ _ => rfl)) pe_str (nomark _)) (pw_and1 (pt_not (pt_val (pe_is D_drop_literals (hr.mono (by decide)) rfl pass0 (pa_cons (pv 3) (pa_cons (pe_ix (ixT K) (pv 2) pe_int (fun _ _ => rfl)) pa_nil))))))))
      (pss_one (ps_ret pe_int))
      pss_nil)
      (pss_one (ps_ret (pe_is D_cost_of (hr.mono (by decide)) rfl pass0 (pa_cons (pv 1) (pa_cons (pv 3) pa_nil))))))), ?_⟩
    try dsimp only [L2.cxOf, L2.Cx.nox, L2.Cx.wish]
    rw [st_look_cost]
    have rng : ∀ v ∈ b.vars, 0 ≤ v ∧ v < M.us.length := Body.fit_vars fit
    have mc := mem_canon rng
    have bd := Body.fit_bd fit
    have l60 := Nat.le_trans (canon_len M.us.length b.vars) n60
    have okD : DomOk (canon M.us.length b.vars) (fullD M.us) := fullD_ok uok fun v hv => rng v ((mc v).mp hv)
    walk_at "cg"
    refine ⟨pb, b, rfl, hb, bd, fun lu ns H1 hlu elu asc mem k1 => ?_⟩
    have e : ns = canon M.us.length b.vars := canon_eq asc mem rng
    subst e
    walk_at "cg"
    refine ⟨a, M, lu, canon M.us.length b.vars, rfl, hM.kp0 k1, n60, uok, elu, canon_nodup _ _, fun v hv => rng v ((mc v).mp hv), fun d H5 hd D5 k5 => ?_⟩
    have K5 := Kp.tr0 k5 k1
    have fd : H d = none := k1.free0 hd
    clear k5 k1 elu hd
    have hb5 := K5.im hb
    cases f with
    | row ts n =>
      obtain ⟨qf, sf, jf⟩ := row_open (K5.im hf)
      walk_at "cg"
      exact ⟨pb, d, b, M.us.length, fullD M.us, rfl, hb5, fit, n60, D5, okD, fun H6 k6 => k H6 (Kp.tr0 k6 K5)⟩
    | any ls =>
      obtain ⟨qf, sf, jf⟩ := any_open (K5.im hf)
      have hk : ∀ l ∈ ls, l.v ∈ canon M.us.length b.vars := fun l hl => (mc l.v).mpr (hv l.v (List.mem_map.mpr ⟨l, hl, rfl⟩))
      walk_at "cg"
      refine ⟨d, qf, _, _, ls, rfl, D5, okD, l60, jf, hk, fun H6 e k6 => ?_, fun D' H6 e D6 k6 => ?_⟩
      · walk_at "cg"
        have q := k H6 (Kp.trN k6 K5 fd)
        unfold lookCostB at q
        rw [show dropF (fullD M.us) (.any ls) = none from e] at q
        exact q
      · walk_at "cg"
        refine ⟨pb, d, b, M.us.length, D', rfl, (Kp.trN k6 K5 fd).im hb, fit, n60, D6, dropL_ok ls okD hk e, fun H7 k7 => ?_⟩
        have q := k H7 (Kp.tr0 k7 (Kp.trN k6 K5 fd))
        unfold lookCostB at q
        rw [show dropF (fullD M.us) (.any ls) = some D' from e] at q
        exact q
end

/-! ### k21 -/
inductive Body21 : Body → List Int → Prop
  | row : Body21 (.row [(0, 1), (1, 1)] .le 5000) [0, 1]
  | any : Body21 (.any [⟨0, .ge, 0⟩, ⟨1, .ge, 0⟩, ⟨2, .ge, 0⟩]) [0, 1, 2]
  | when : Body21 (.when ⟨0, .ge, 0⟩ [(2, 1)] .le 5000) [0, 2]
  | times : Body21 (.times 0 1 2) [0, 1]
  | square : Body21 (.times 0 0 2) [0]
  | table : Body21 (.table [0, 1] [[0, 0]]) []
  | elem : Body21 (.elem 0 [0, 0, 0] 1) []
structure Sz where
  a : Int
  b : Int
  c : Int
  ha : 1 ≤ a ∧ a ≤ 26
  hb : 1 ≤ b ∧ b ≤ 26
  hc : 1 ≤ c ∧ c ≤ 26
def Sz.xs (s : Sz) : List Int := [s.a, s.b, s.c]
def Sz.at (s : Sz) (v : Int) : Int := if v = 0 then s.a else if v = 1 then s.b else s.c
def Sz.us (s : Sz) : List Un := [(Str.ofString "x", 0, s.a - 1), (Str.ofString "y", 0, s.b - 1), (Str.ofString "z", 0, s.c - 1)]
def Sz.M (s : Sz) (b : Body) : Mdl := ⟨s.us, [(Str.ofString "c", b)], goal0⟩
theorem Body21.fit {b : Body} {cs : List Int} (h : Body21 b cs) : b.fit 3 := by
  cases h with
  | row => exact ⟨⟨by decide, by decide, by decide⟩, by decide, by decide, by decide⟩
  | any => exact ⟨by decide, by decide, fun l hl => by
      simp only [List.mem_cons, List.not_mem_nil, or_false] at hl
      rcases hl with rfl | rfl | rfl <;> exact ⟨by decide, by decide, by decide, by decide⟩⟩
  | when => exact ⟨⟨by decide, by decide, by decide, by decide⟩, ⟨by decide, by decide, by decide⟩, by decide, by decide, by decide⟩
  | times => exact ⟨by decide, by decide, by decide⟩
  | square => exact ⟨by decide, by decide, by decide⟩
  | table => exact ⟨⟨by decide, by decide, by decide⟩, by decide, fun r hr => by
      rw [List.mem_singleton] at hr
      subst hr
      exact ⟨rfl, by decide⟩⟩
  | elem => exact ⟨by decide, by decide, by decide⟩
theorem Body21.cs {b : Body} {cs : List Int} (h : Body21 b cs) : (∀ v ∈ cs, v = 0 ∨ v = 1 ∨ v = 2) ∧ cs.length ≤ 3 ∧ 0 ∈ b.vars := by
  cases h <;> exact ⟨by decide, by decide, by decide⟩
theorem un21 {x : Str} {n : Int} (h : labelB x = true ∧ x.length ≤ 10000) (h1 : 1 ≤ n) (h2 : n ≤ 26) : unOk (x, 0, n - 1) := ⟨h.1, h.2, (show (-1000 : Int) ≤ 0 by decide), (show (0 : Int) ≤ n - 1 by omega), (show n - 1 ≤ 1000 by omega)⟩
theorem Sz.ok (s : Sz) {b : Body} {cs : List Int} (h : Body21 b cs) : (s.M b).ok := by
  have ha := s.ha
  have hb := s.hb
  have hc := s.hc
  refine ⟨(show 1 ≤ 3 by decide), (show (3 : Nat) ≤ 60 by decide), fun u hu => ?_, (show ([Str.ofString "x", Str.ofString "y", Str.ofString "z"] : List Str).Nodup by decide +kernel), fun z hz => ?_, (show ([Str.ofString "c"] : List Str).Nodup by decide +kernel), fun z hz => ?_, (show (1 : Nat) ≤ 200 by decide), (show Goal.fit 3 goal0 from ⟨⟨by decide, by decide, by decide⟩, by decide, by decide⟩)⟩
  · have hu : u ∈ [(Str.ofString "x", (0 : Int), s.a - 1), (Str.ofString "y", 0, s.b - 1), (Str.ofString "z", 0, s.c - 1)] := hu
    simp only [List.mem_cons, List.not_mem_nil, or_false] at hu
    rcases hu with rfl | rfl | rfl
    · exact un21 (by decide +kernel) ha.1 ha.2
    · exact un21 (by decide +kernel) hb.1 hb.2
    · exact un21 (by decide +kernel) hc.1 hc.2
  · have hz : z ∈ [(Str.ofString "c", b)] := hz
    rw [List.mem_singleton] at hz
    subst hz
    exact (show labelB (Str.ofString "c") = true ∧ (Str.ofString "c").length ≤ 10000 by decide +kernel)
  · have hz : z ∈ [(Str.ofString "c", b)] := hz
    rw [List.mem_singleton] at hz
    subst hz
    exact h.fit
/-- the product over what counts -/
def prC (L : Int → Int) (cs : List Int) : Int := cs.foldl (fun c v => c * L v) 1
def dueC (L : Int → Int) (cs : List Int) : Int := if cs = [] then 0 else prC L cs
theorem prC_snoc (L : Int → Int) (cs : List Int) (v : Int) : prC L (cs ++ [v]) = prC L cs * L v := by
  unfold prC
  rw [List.foldl_append]
  rfl
theorem prC_bd {L : Int → Int} (hL : ∀ v, 0 ≤ L v ∧ L v ≤ 26) (cs : List Int) (hc : cs.length ≤ 3) : 0 ≤ prC L cs ∧ prC L cs ≤ 17576 := by
  have m : ∀ a b B : Int, 0 ≤ a → a ≤ B → 0 ≤ b → b ≤ 26 → 0 ≤ a * b ∧ a * b ≤ B * 26 := fun a b B h0 h1 h2 h3 => ⟨Int.mul_nonneg h0 h2, Int.mul_le_mul h1 h3 h2 (by omega)⟩
  match cs, hc with
  | [], _ => exact ⟨(show (0 : Int) ≤ 1 by decide), (show (1 : Int) ≤ 17576 by decide)⟩
  | [x], _ =>
    have h1 := m 1 (L x) 1 (by decide) (by decide) (hL x).1 (hL x).2
    show 0 ≤ 1 * L x ∧ 1 * L x ≤ 17576
    omega
  | [x, y], _ =>
    have h1 := m 1 (L x) 1 (by decide) (by decide) (hL x).1 (hL x).2
    have h2 := m (1 * L x) (L y) _ h1.1 h1.2 (hL y).1 (hL y).2
    show 0 ≤ 1 * L x * L y ∧ 1 * L x * L y ≤ 17576
    omega
  | [x, y, z], _ =>
    have h1 := m 1 (L x) 1 (by decide) (by decide) (hL x).1 (hL x).2
    have h2 := m (1 * L x) (L y) _ h1.1 h1.2 (hL y).1 (hL y).2
    have h3 := m (1 * L x * L y) (L z) _ h2.1 h2.2 (hL z).1 (hL z).2
    show 0 ≤ 1 * L x * L y * L z ∧ 1 * L x * L y * L z ≤ 17576
    omega
theorem prC_congr {L L' : Int → Int} {cs : List Int} (h : ∀ v ∈ cs, L v = L' v) : prC L cs = prC L' cs := by
  unfold prC
  generalize (1 : Int) = a
  induction cs generalizing a with
  | nil => rfl
  | cons c cs ih =>
    rw [List.foldl_cons, List.foldl_cons, h c List.mem_cons_self]
    exact ih (fun v hv => h v (List.mem_cons_of_mem _ hv)) _
theorem cost21 {b : Body} {cs : List Int} {D : Dm} (h : Body21 b cs) : costB 3 b D = dueC (fun v => ((D v).length : Int)) cs := by
  have c01 : canon 3 [0, 1] = [0, 1] := by decide
  have c012 : canon 3 [0, 1, 2] = [0, 1, 2] := by decide
  have c02 : canon 3 [0, 2] = [0, 2] := by decide
  have c00 : canon 3 [0, 0] = [0] := by decide
  cases h with
  | row => show prodL (canon 3 [0, 1]) D = _; rw [c01]; rfl
  | any => show prodL (canon 3 [0, 1, 2]) D = _; rw [c012]; rfl
  | when => show prodL (canon 3 [0, 2]) D = _; rw [c02]; rfl
  | times => show prodL (canon 3 [0, 1]) D = _; rw [c01]; rfl
  | square => show prodL (canon 3 [0, 0]) D = _; rw [c00]; rfl
  | table => rfl
  | elem => rfl
theorem dueC_congr {L L' : Int → Int} {cs : List Int} (h : ∀ v ∈ cs, L v = L' v) : dueC L cs = dueC L' cs := by
  unfold dueC
  rw [prC_congr h]
theorem rgI_n (s : Int) (h : 0 ≤ s) : ((rgI 0 s).length : Int) = s := by
  simp [rgI]
  omega
theorem Sz.full (s : Sz) (v : Int) (h : v = 0 ∨ v = 1 ∨ v = 2) : fullD s.us v = rgI 0 (s.at v) := by
  have e : ∀ x : Int, x - 1 + 1 = x := fun x => by omega
  rcases h with rfl | rfl | rfl
  · show rgI 0 (s.a - 1 + 1) = rgI 0 s.a
    rw [e]
  · show rgI 0 (s.b - 1 + 1) = rgI 0 s.b
    rw [e]
  · show rgI 0 (s.c - 1 + 1) = rgI 0 s.c
    rw [e]
theorem Sz.bd (s : Sz) (v : Int) : 1 ≤ s.at v ∧ s.at v ≤ 26 := by
  have ha := s.ha
  have hb := s.hb
  have hc := s.hc
  unfold Sz.at
  split
  · exact ha
  · split
    · exact hb
    · exact hc
theorem Sz.ix (s : Sz) {v : Int} (h : v = 0 ∨ v = 1 ∨ v = 2) : atI (s.xs.map V.int) v = some (.int (s.at v)) := by
  rcases h with rfl | rfl | rfl <;> rfl
/-- the sizes with another one for the first unknown -/
def Sz.kept (s : Sz) (k : Int) : Int → Int := fun v => if v = 0 then k else s.at v
def f21 (s : Sz) : Fact := .row [(0, 1)] (s.a + 3)
def f22 (k : Int) : Fact := .any [⟨0, .le, k - 1⟩, ⟨0, .ge, 0⟩]
def f23 (k : Int) : Fact := .any [⟨0, .ge, k⟩]
theorem fil_le (s k : Int) : ((rgI 0 s).filter fun a => decide (a ≤ k)) = rgI 0 (min (k + 1) s) := by
  refine asc_ext ((rgI_asc _ _).filter _) (rgI_asc _ _) fun x => ?_
  rw [List.mem_filter, rgI_mem, rgI_mem, decide_eq_true_eq]
  omega
theorem fil_lt (s k : Int) : ((rgI 0 s).filter fun a => !decide (a ≥ k)) = rgI 0 (min k s) := by
  refine asc_ext ((rgI_asc _ _).filter _) (rgI_asc _ _) fun x => ?_
  rw [List.mem_filter, rgI_mem, rgI_mem]
  simp only [Bool.not_eq_true', decide_eq_false_iff_not]
  omega
theorem rgI_nil {s : Int} : rgI 0 s = [] ↔ s ≤ 0 := by
  constructor
  · intro h
    rcases Int.lt_or_le 0 s with g | g
    · have : (0 : Int) ∈ rgI 0 s := rgI_mem.mpr ⟨Int.le_refl _, g⟩
      rw [h] at this
      cases this
    · exact g
  · intro h
    cases e : rgI 0 s with
    | nil => rfl
    | cons x xs =>
      have : x ∈ rgI 0 s := by rw [e]; exact List.mem_cons_self
      rw [rgI_mem] at this
      omega
theorem drop22 (s : Sz) (k : Int) : dropF (fullD s.us) (f22 k) = none := by
  show dropL (fullD s.us) [⟨0, .le, k - 1⟩, ⟨0, .ge, 0⟩] = none
  unfold dropL
  simp only
  split
  · rfl
  · unfold dropL
    simp only
    rw [if_pos]
    show List.filter _ (updD _ 0 _ 0) = []
    unfold updD
    rw [if_pos rfl, List.filter_eq_nil_iff]
    intro a ha
    have h := (List.mem_filter.mp ha).1
    rw [s.full 0 (.inl rfl), rgI_mem] at h
    have : Rel.ge.h a 0 = true := decide_eq_true (show a ≥ 0 from h.1)
    show ¬ (!Rel.ge.h a 0) = true
    rw [this]
    simp
theorem drop23 (s : Sz) (k : Int) (hk : 0 ≤ k) : dropF (fullD s.us) (f23 k) = if k = 0 then none else some (updD (fullD s.us) 0 (rgI 0 (min k s.a))) := by
  have ha := s.ha
  show dropL (fullD s.us) [⟨0, .ge, k⟩] = _
  unfold dropL
  simp only
  have e : List.filter (fun a => !Rel.ge.h a k) (fullD s.us 0) = rgI 0 (min k s.a) := by
    rw [s.full 0 (.inl rfl)]
    exact fil_lt _ _
  rw [e]
  by_cases g : k = 0
  · rw [if_pos g, if_pos (rgI_nil.mpr (by omega))]
  · rw [if_neg g, if_neg (fun h => by have := rgI_nil.mp h; omega)]
    rfl
theorem cost_full {s : Sz} {b : Body} {cs : List Int} (h : Body21 b cs) : costB 3 b (fullD s.us) = dueC s.at cs := by
  rw [cost21 h]
  refine dueC_congr fun v hv => ?_
  rw [s.full v (h.cs.1 v hv), rgI_n _ (by have := s.bd v; omega)]
theorem cost_upd {s : Sz} {b : Body} {cs : List Int} {k : Int} (h : Body21 b cs) (hk : 0 ≤ k) : costB 3 b (updD (fullD s.us) 0 (rgI 0 k)) = dueC (s.kept k) cs := by
  rw [cost21 h]
  refine dueC_congr fun v hv => ?_
  unfold updD Sz.kept
  split
  · exact rgI_n _ hk
  · rw [s.full v (h.cs.1 v hv), rgI_n _ (by have := s.bd v; omega)]
theorem lc21 {s : Sz} {b : Body} {cs : List Int} (h : Body21 b cs) : lookCostB s.us b (f21 s) = dueC s.at cs := by
  show costB 3 b (fullD s.us) = _
  exact cost_full h
theorem lc22 {s : Sz} {b : Body} {k : Int} : lookCostB s.us b (f22 k) = 0 := by
  unfold lookCostB
  rw [drop22]
theorem lc23 {s : Sz} {b : Body} {cs : List Int} {k : Int} (h : Body21 b cs) (hk : 0 ≤ k) : lookCostB s.us b (f23 k) = if k = 0 then 0 else dueC (s.kept (min k s.a)) cs := by
  have ha := s.ha
  unfold lookCostB
  rw [drop23 s k hk]
  by_cases g : k = 0
  · rw [if_pos g, if_pos g]
  · rw [if_neg g, if_neg g]
    exact cost_upd h (by omega)
theorem vars21 {v : Int} {b : Body} {cs : List Int} (h : Body21 b cs) (hv : v ∈ [0]) : v ∈ b.vars := by
  rw [List.mem_singleton] at hv
  subst hv
  exact h.cs.2.2
/-- a look follows exactly by its cost where the fact is true anyhow -/
theorem look21 {s : Sz} {b : Body} {cs : List Int} {f : Fact} {hs : List Fact} {D D' : Dm} (h : Body21 b cs) (hf : f.vars = [0]) (hh : ∀ o ∈ hs, o.vars = [0]) (e1 : dropF (fullD s.us) f = some D) (e2 : cutH D hs = some D') (tr : ∀ g : Pt, g 0 ∈ D' 0 → f.h g = true) : lookB s.us b f hs = decide (costB 3 b D' ≤ 400) := by
  have a : ((f :: hs).all fun o => o.vars.all fun v => decide (v ∈ b.vars)) = true := by
    rw [List.all_eq_true]
    intro o ho
    rw [List.all_eq_true]
    intro v hv
    refine decide_eq_true (vars21 h ?_)
    rcases List.mem_cons.mp ho with rfl | g
    · rw [← hf]
      exact hv
    · rw [← hh o g]
      exact hv
  have l : lookD (canon 3 b.vars) D' b f hs = true := lookD_iff.mpr fun g hg _ _ => tr g (hg 0 ((mem_canon (Body.fit_vars h.fit) 0).mpr h.cs.2.2))
  unfold lookB lookE
  rw [a, e1]
  show (true && (match cutH D hs with | none => true | some D' => decide (costB 3 b D' ≤ 400) && lookD (canon 3 b.vars) D' b f hs)) = _
  rw [e2]
  show (true && (decide (costB 3 b D' ≤ 400) && lookD (canon 3 b.vars) D' b f hs)) = _
  rw [l, Bool.true_and, Bool.and_true]
theorem tr21 {s : Sz} {g : Pt} (h : g 0 ∈ rgI 0 s.a) : (f21 s).h g = true := by
  rw [rgI_mem] at h
  refine decide_eq_true ?_
  show sumF [(0, 1)] g ≤ s.a + 3
  simp [sumF]
  omega
theorem fol21 {s : Sz} {b : Body} {f : Fact} {es : List (Option Step)} {is : List Int} (aw : is.all (awake es) = true) (hf : ∀ v ∈ f.vars, 0 ≤ v ∧ v < 3) : followsB (s.M b) es ⟨f, .look (Str.ofString "c") is⟩ = lookB s.us b f (is.filterMap (premOf es)) := by
  have kn : knownB (s.M b) es ⟨f, .look (Str.ofString "c") is⟩ = true := by
    have e : (f.vars.all fun v : Int => decide (0 ≤ v) && decide (v < ((s.M b).us.length : Int))) = true := by
      rw [List.all_eq_true]
      intro v hm
      have := hf v hm
      simp only [Bool.and_eq_true, decide_eq_true_eq]
      exact this
    have e2 : decide (Str.ofString "c" ∈ (s.M b).bs.map (·.1)) = true := decide_eq_true List.mem_cons_self
    show ((is.all (awake es)) && (decide (Str.ofString "c" ∈ (s.M b).bs.map (·.1)) && f.vars.all fun v : Int => decide (0 ≤ v) && decide (v < ((s.M b).us.length : Int)))) = _
    rw [e, e2, aw]
    rfl
  have er : ruleF (s.M b) es f (.look (Str.ofString "c") is) = lookB s.us b f (is.filterMap (premOf es)) := by
    show ((bodyOf (s.M b) (Str.ofString "c")).any fun b => lookB (s.M b).us b f (is.filterMap (premOf es))) = _
    have : bodyOf (s.M b) (Str.ofString "c") = some b := by
      unfold bodyOf Sz.M
      rw [List.find?_cons, decide_eq_true rfl]
      rfl
    rw [this]
    rfl
  unfold followsB
  show (knownB (s.M b) es ⟨f, .look (Str.ofString "c") is⟩ && ruleF (s.M b) es f (.look (Str.ofString "c") is)) = _
  rw [kn, er, Bool.true_and]
theorem due_le {L : Int → Int} {cs : List Int} : decide (dueC L cs ≤ 400) = (decide (cs = []) || decide (prC L cs ≤ 400)) := by
  unfold dueC
  by_cases g : cs = []
  · rw [if_pos g, decide_eq_true g]
    rfl
  · rw [if_neg g, decide_eq_false g]
    rfl
/-- the three hints -/
def hintOk (k : Int) (f : Fact) : Prop := f.asLit = some ⟨0, .le, k⟩ ∧ f.vars = [0] ∧ f.ok 3
theorem hint1 {k : Int} : hintOk k (.row [(0, 1)] k) := by
  refine ⟨?_, rfl, ⟨by decide, by decide, Int.le_refl _, Int.le_refl _⟩⟩
  simp only [Fact.asLit]
  rw [if_pos (by decide), Int.ediv_one]
theorem hint2 {k : Int} : hintOk k (.row [(0, 3)] (3 * k + 2)) := by
  refine ⟨?_, rfl, ⟨by decide, by decide, Int.le_refl _, Int.le_refl _⟩⟩
  simp only [Fact.asLit]
  rw [if_pos (by decide), show (3 * k + 2) / 3 = k by omega]
theorem hint3 {k : Int} (h0 : 0 ≤ k) (h1 : k ≤ 26) : hintOk k (.any [⟨0, .le, k⟩]) := by
  refine ⟨rfl, rfl, fun l hl => ?_, (show 1 ≤ 60 by decide)⟩
  rw [List.mem_singleton] at hl
  subst hl
  simp only
  omega
theorem fol_hint {s : Sz} {b : Body} {cs : List Int} {k : Int} {h : Fact} (hb : Body21 b cs) (h0 : 0 ≤ k) (hk : hintOk k h) : followsB (s.M b) [some ⟨h, .suppose⟩] ⟨f21 s, .look (Str.ofString "c") [0]⟩ = (decide (cs = []) || decide (prC (s.kept (min (k + 1) s.a)) cs ≤ 400)) := by
  have ha := s.ha
  obtain ⟨hl, hv, _⟩ := hk
  rw [fol21 (by rfl) (fun v hv => by have : v ∈ [0] := hv; rw [List.mem_singleton] at this; omega)]
  have ek : keepL (fullD s.us) ⟨0, .le, k⟩ = updD (fullD s.us) 0 (rgI 0 (min (k + 1) s.a)) := by
    unfold keepL
    show updD (fullD s.us) 0 ((fullD s.us 0).filter fun a => Rel.le.h a k) = _
    rw [s.full 0 (.inl rfl)]
    congr 1
    exact fil_le _ _
  have ec : cutH (fullD s.us) [h] = some (updD (fullD s.us) 0 (rgI 0 (min (k + 1) s.a))) := by
    unfold cutH
    rw [hl]
    show (if keepL (fullD s.us) ⟨0, .le, k⟩ 0 = [] then none else cutH (keepL (fullD s.us) ⟨0, .le, k⟩) []) = _
    rw [ek, if_neg]
    · rfl
    · unfold updD
      rw [if_pos rfl]
      intro g
      have := rgI_nil.mp g
      omega
  have := look21 (f := f21 s) (hs := [h]) hb rfl (fun o ho => by rw [List.mem_singleton] at ho; rw [ho]; exact hv) rfl ec (fun g hg => tr21 (by
    unfold updD at hg
    rw [if_pos rfl, rgI_mem] at hg
    exact rgI_mem.mpr (by omega)))
  rw [show [0].filterMap (premOf [some ⟨h, .suppose⟩]) = [h] from rfl, this, cost_upd hb (by omega), due_le]
theorem fol_plain {s : Sz} {b : Body} {cs : List Int} (hb : Body21 b cs) : followsB (s.M b) [] ⟨f21 s, .look (Str.ofString "c") []⟩ = decide (dueC s.at cs ≤ 400) := by
  rw [fol21 (by rfl) (fun v hv => by have : v ∈ [0] := hv; rw [List.mem_singleton] at this; omega)]
  rw [show ([] : List Int).filterMap (premOf []) = [] from rfl, look21 (f := f21 s) (hs := []) hb rfl (fun o ho => by cases ho) rfl rfl (fun g hg => tr21 (by rw [s.full 0 (.inl rfl)] at hg; exact hg)), cost_full hb]
theorem fol_left {s : Sz} {b : Body} {cs : List Int} {k : Int} (hb : Body21 b cs) : followsB (s.M b) [] ⟨f22 k, .look (Str.ofString "c") []⟩ = true := by
  rw [fol21 (by rfl) (fun v hv => by have : v ∈ [0, 0] := hv; simp at this; omega)]
  unfold lookB lookE
  rw [drop22]
  show (((f22 k :: []).all fun o => o.vars.all fun v => decide (v ∈ b.vars)) && true) = true
  rw [Bool.and_true, List.all_eq_true]
  intro o ho
  rw [List.mem_singleton] at ho
  subst ho
  rw [List.all_eq_true]
  intro v hv
  have hv : v ∈ [0, 0] := hv
  simp only [List.mem_cons, List.not_mem_nil, or_false, or_self] at hv
  exact decide_eq_true (vars21 hb (by rw [hv]; exact List.mem_cons_self))

section
variable {K : PySem.W.Frag} {H : Hp} {p q r p1 p2 p3 : Addr} {v c v1 c1 a : Int} {R R1 R2 : Rel}
theorem tm_1 (h : SqT K H q [.ref p]) (h1 : SqT K H p [.int v, .int c]) : Im K H (.ref q) (tmD [(v, c)]) := .tup h (.cons (.tup h1 (.cons (.int _) (.cons (.int _) .nil))) .nil)
theorem tm_2 (h : SqT K H q [.ref p, .ref r]) (h1 : SqT K H p [.int v, .int c]) (h2 : SqT K H r [.int v1, .int c1]) : Im K H (.ref q) (tmD [(v, c), (v1, c1)]) := .tup h (.cons (.tup h1 (.cons (.int _) (.cons (.int _) .nil))) (.cons (.tup h2 (.cons (.int _) (.cons (.int _) .nil))) .nil))
theorem lit_i {l : Lit} (h : SqT K H p [.int l.v, .str l.r.s, .int l.a]) : Im K H (.ref p) l.d := .tup h (.cons (.int _) (.cons (.str _) (.cons (.int _) .nil)))
theorem lit_1 {l : Lit} (h : SqT K H q [.ref p]) (h1 : Im K H (.ref p) l.d) : Im K H (.ref q) (litsD [l]) := .tup h (.cons h1 .nil)
theorem lit_2 {l m : Lit} (h : SqT K H q [.ref p, .ref r]) (h1 : Im K H (.ref p) l.d) (h2 : Im K H (.ref r) m.d) : Im K H (.ref q) (litsD [l, m]) := .tup h (.cons h1 (.cons h2 .nil))
theorem lit_3 {l m n : Lit} (h : SqT K H q [.ref p, .ref r, .ref p1]) (h1 : Im K H (.ref p) l.d) (h2 : Im K H (.ref r) m.d) (h3 : Im K H (.ref p1) n.d) : Im K H (.ref q) (litsD [l, m, n]) := .tup h (.cons h1 (.cons h2 (.cons h3 .nil)))
theorem ix_ref3 {Q : VK} {d : Int} (h : H p = some (.lst [.ref p1, .ref p2, .ref p3])) (h0 : 0 ≤ d) (h1 : d < 3) (q : ∀ n : Addr, n = p1 ∨ n = p2 ∨ n = p3 → Q (.ref n) H) : rIxL K (.ref p) (.int d) H Q := by
  have e : d = 0 ∨ d = 1 ∨ d = 2 := by omega
  rcases e with rfl | rfl | rfl
  · exact r_ixL h rfl (q _ (.inl rfl))
  · exact r_ixL h rfl (q _ (.inr (.inl rfl)))
  · exact r_ixL h rfl (q _ (.inr (.inr rfl)))
theorem ix_ref2 {Q : VK} {d : Int} (h : H p = some (.lst [.ref p1, .ref p2])) (h0 : 0 ≤ d) (h1 : d < 2) (q : ∀ n : Addr, n = p1 ∨ n = p2 → Q (.ref n) H) : rIxL K (.ref p) (.int d) H Q := by
  have e : d = 0 ∨ d = 1 := by omega
  rcases e with rfl | rfl
  · exact r_ixL h rfl (q _ (.inl rfl))
  · exact r_ixL h rfl (q _ (.inr rfl))
end
def spSizes (K : PySem.W.Frag) : Sp := fun vs H Q _ => ∃ (t c : Addr), vs = [.ref t] ∧ Tp t c H ∧ ∀ (l : Addr) (s : Sz) H', H l = none → H' l = some (.lst (s.xs.map V.int)) → Tp t c H' → Kp [t] H H' → Q (.ref l) H'
def spBody21 (K : PySem.W.Frag) : Sp := fun vs H Q _ => ∃ (t c : Addr), vs = [.ref t] ∧ Tp t c H ∧ ∀ (p pb lc : Addr) (b : Body) (cs : List Int) H', SqT K H' p [.ref pb, .ref lc] → BodyAt K H' pb b → H' lc = some (.lst (cs.map V.int)) → Body21 b cs → lc ≠ t → Tp t c H' → Kp [t] H H' → Q (.ref p) H'
def spBehind (K : PySem.W.Frag) (C : Addr) : Sp := fun vs H Q _ => ∃ (t c pb lc ls : Addr) (a : MA) (s : Sz) (b : Body) (cs : List Int), vs = [.ref t, .ref a.p, .ref pb, .ref lc, .ref ls] ∧ Tp t c H ∧ MdlAt K C H a (s.M b) ∧ offA a t ∧ Body21 b cs ∧ H lc = some (.lst (cs.map V.int)) ∧ lc ≠ t ∧ H ls = some (.lst (s.xs.map V.int)) ∧ ls ≠ t ∧ ∀ H', Tp t c H' → Kp [t] H H' → Q (.bl true) H'
def spLaw (K : PySem.W.Frag) : Sp := fun vs H Q _ => ∃ (a : Addr) (ns : List Int), vs = [.ref a] ∧ SqL K H a (ns.map V.int) ∧ ns.length ≤ 63 ∧ ∀ H', Q (.bl true) H'
section
variable {P : Program} {w : World} {K : PySem.W.Frag} {mg : Str → Option Value} {base : Heap} {C_Model : Addr}
theorem ok_law_sizes {f : Addr} {fd : FuncData} (F : Fun K "_law_sizes" "_law_sizes" s_law_sizes f fd) (B : Bi K mg C_Model) (D_law_draw : Is P w K mg base CX0 1 "_law_draw" ["_law_tape_here", "_law_many"] spDraw) : FnOk P w K mg base CX0 2 f fd ["_law_tape_here"] (spSizes K) := by
  have nd := sc_law_sizes.nd
  refine F.ok sc_law_sizes ?len (fun cdv A outer s H vs Q E hr h => ?body)
  case len =>
    rintro vs H Q E ⟨t, c, rfl, _⟩
    rfl
  case body =>
    obtain ⟨t, c, rfl, T, k⟩ := h
    refine ⟨_, (pss_cons (ps_set (i := 1) nd rfl (Or.inl rfl) (pe_lst pa_nil))
      (pss_cons (ps_for PassesOwn.never rfl (pi_range1 rfl B.n_range (pa_cons pe_int pa_nil)) (pg_name (i := 2) nd rfl (Or.inl rfl))
      (pss_one (ps_expr (pe_bm PySem.F.plainAttrs_list PySem.F.slot_list_append PySem.F.type_list_append mt_append (pv 1) (pa_cons (pe_ix (ixL K) (pe_lst (pa_cons (pe_op op_add pe_int (pe_is D_law_draw (hr.mono (by decide)) rfl pass0 (pa_cons (pv 0) (pa_cons pe_int pa_nil)))) (pa_cons (pe_op op_add pe_int (pe_is D_law_draw (hr.mono (by decide)) rfl pass0 (pa_cons (pv 0) (pa_cons pe_int pa_nil)))) (pa_cons (pe_op op_add pe_int (pe_is D_law_draw (hr.mono (by decide)) rfl pass0 (pa_cons (pv 0) (pa_cons pe_int pa_nil)))) pa_nil)))) (pe_is D_law_draw (hr.mono (by decide)) rfl pass0 (pa_cons (pv 0) (pa_cons pe_int pa_nil))) (fun _ _ => rfl)) pa_nil)))))
      (pss_one (ps_ret (pv 1))))), ?_⟩
    try dsimp only [L2.cxOf, L2.Cx.nox, L2.Cx.wish]
    rw [st_law_sizes]
    walk_at "cg"
    rename_i l H1 hl el k1
    have nlt : l ≠ t := Tp.nef hl T
    have nlc : l ≠ c := Tp.nefc hl T
    have T1 := T.kp0 k1
    have K1 := Kp.tr0 k1 (Tp.base T)
    clear k1
    refine r_forR (fun i σ' H' => ∃ (xs : List Int) (x2 : Option V), σ' = [some (.ref t), some (.ref l), x2] ∧ H' l = some (.lst (xs.map V.int)) ∧ xs.length = i ∧ (∀ x ∈ xs, 1 ≤ x ∧ x ≤ 26) ∧ Tp t c H' ∧ Kp [t] H H') ⟨[], _, rfl, el, rfl, (fun x hx => by cases hx), T1, K1⟩ ?_ ?_
    · clear el T1 K1
      rintro i σ' H2 hi ⟨xs, x2, rfl, e2, l2, b2, T2, K2⟩
      have hi : i < 3 := by omega
      walk_at "cg"
      rename_i d3 H3 d30 d31 T3 k3 d4 H4 d40 d41 T4 k4 d5 H5 d50 d51 T5 k5 q6 H6 hq6 e6 k6 d7 H7 d70 d71 T7 k7
      have n6t : q6 ≠ t := Tp.nef hq6 T5
      refine ix_any3 (k7.get1 n6t e6) d70 d71 fun n hn => ?_
      have K7 := Kp.tr1 k7 (Kp.tr0 k6 (Kp.tr1 k5 (Kp.tr1 k4 (Kp.tr1 k3 (Tp.base T2)))))
      have e7 := K7.get1 nlt e2
      have KK := Kp.tr1 K7 K2
      clear k3 k4 k5 k6 k7 K7 e6 e2 K2
      have xl : (xs.map V.int).length ≤ 3 := by rw [List.length_map]; omega
      walk_at "cg"
      rename_i H8 e8 k8
      refine ⟨xs ++ [n], _, rfl, by rw [e8, List.map_append]; rfl, by simp [l2], fun x hx => ?_, T7.kp1 k8 nlt.symm nlc.symm, Kp.trN k8 KK hl⟩
      rcases List.mem_append.mp hx with h | h
      · exact b2 x h
      · rw [List.mem_singleton] at h
        subst h
        omega
    · clear el T1 K1
      rintro σ' H2 ⟨xs, x2, rfl, e2, l2, b2, T2, K2⟩
      have l2 : xs.length = 3 := by omega
      walk_at "cg"
      match xs, l2, b2, e2 with
      | [x, y, z], _, b2, e2 => exact k l ⟨x, y, z, b2 x (by simp), b2 y (by simp), b2 z (by simp)⟩ H2 hl e2 T2 K2
theorem ok_law_body {f : Addr} {fd : FuncData} (F : Fun K "_law_body" "_law_body" s_law_body f fd) (B : Bi K mg C_Model) (D_law_draw : Is P w K mg base CX0 1 "_law_draw" ["_law_tape_here", "_law_many"] spDraw) : FnOk P w K mg base CX0 2 f fd ["_law_tape_here"] (spBody21 K) := by
  have nd := sc_law_body.nd
  refine F.ok sc_law_body ?len (fun cdv A outer s H vs Q E hr h => ?body)
  case len =>
    rintro vs H Q E ⟨t, c, rfl, _⟩
    rfl
  case body =>
    obtain ⟨t, c, rfl, T, k⟩ := h
    refine ⟨_, (pss_cons (ps_set (i := 1) nd rfl (Or.inl rfl) (pe_is D_law_draw (hr.mono (by decide)) rfl pass0 (pa_cons (pv 0) (pa_cons pe_int pa_nil))))
      (pss_cons (ps_if (pt_cmpR op_eq (pv 1) pe_int (nomark _))
      (pss_one (ps_ret (pe_tup (pa_cons (pe_tup (pa_cons pe_str (pa_cons (pe_tup (pa_cons (pe_tup (pa_cons pe_int (pa_cons pe_int pa_nil))) (pa_cons (pe_tup (pa_cons pe_int (pa_cons pe_int pa_nil))) pa_nil))) (pa_cons pe_str (pa_cons pe_int pa_nil))))) (pa_cons (pe_lst (pa_cons pe_int (pa_cons pe_int pa_nil))) pa_nil)))))
      pss_nil)
      (pss_cons (ps_if (pt_cmpR op_eq (pv 1) pe_int (nomark _))
      (pss_one (ps_ret (pe_tup (pa_cons (pe_tup (pa_cons pe_str (pa_cons (pe_tup (pa_cons (pe_tup (pa_cons pe_int (pa_cons pe_str (pa_cons pe_int pa_nil)))) (pa_cons (pe_tup (pa_cons pe_int (pa_cons pe_str (pa_cons pe_int pa_nil)))) (pa_cons (pe_tup (pa_cons pe_int (pa_cons pe_str (pa_cons pe_int pa_nil)))) pa_nil)))) pa_nil))) (pa_cons (pe_lst (pa_cons pe_int (pa_cons pe_int (pa_cons pe_int pa_nil)))) pa_nil)))))
      pss_nil)
      (pss_cons (ps_if (pt_cmpR op_eq (pv 1) pe_int (nomark _))
      (pss_one (ps_ret (pe_tup (pa_cons (pe_tup (pa_cons pe_str (pa_cons (pe_tup (pa_cons pe_int (pa_cons pe_str (pa_cons pe_int pa_nil)))) (pa_cons (pe_tup (pa_cons (pe_tup (pa_cons pe_int (pa_cons pe_int pa_nil))) pa_nil)) (pa_cons pe_str (pa_cons pe_int pa_nil)))))) (pa_cons (pe_lst (pa_cons pe_int (pa_cons pe_int pa_nil))) pa_nil)))))
      pss_nil)
      (pss_cons (ps_if (pt_cmpR op_eq (pv 1) pe_int (nomark _))
      (pss_one (ps_ret (pe_tup (pa_cons (pe_tup (pa_cons pe_str (pa_cons pe_int (pa_cons pe_int (pa_cons pe_int pa_nil))))) (pa_cons (pe_lst (pa_cons pe_int (pa_cons pe_int pa_nil))) pa_nil)))))
      pss_nil)
      (pss_cons (ps_if (pt_cmpR op_eq (pv 1) pe_int (nomark _))
      (pss_one (ps_ret (pe_tup (pa_cons (pe_tup (pa_cons pe_str (pa_cons pe_int (pa_cons pe_int (pa_cons pe_int pa_nil))))) (pa_cons (pe_lst (pa_cons pe_int pa_nil)) pa_nil)))))
      pss_nil)
      (pss_one (ps_ret (pe_tup (pa_cons (pe_ix (ixL K) (pe_lst (pa_cons (pe_tup (pa_cons pe_str (pa_cons (pe_tup (pa_cons pe_int (pa_cons pe_int pa_nil))) (pa_cons (pe_tup (pa_cons (pe_tup (pa_cons pe_int (pa_cons pe_int pa_nil))) pa_nil)) pa_nil)))) (pa_cons (pe_tup (pa_cons pe_str (pa_cons pe_int (pa_cons (pe_tup (pa_cons pe_int (pa_cons pe_int (pa_cons pe_int pa_nil)))) (pa_cons pe_int pa_nil))))) pa_nil))) (pe_is D_law_draw (hr.mono (by decide)) rfl pass0 (pa_cons (pv 0) (pa_cons pe_int pa_nil))) (fun _ _ => rfl)) (pa_cons (pe_lst pa_nil) pa_nil))))))))))), ?_⟩
    try dsimp only [L2.cxOf, L2.Cx.nox, L2.Cx.wish]
    rw [st_law_body]
    walk_at "cg"
    rename_i d1 H1 d10 d11 T1 k1
    refine if_S (fun g => ?_) (fun g => ?_)
    · walk_at "cg"
      rename_i p2 H2 hp2 s2 k2 p3 H3 hp3 s3 k3 p4 H4 hp4 s4 k4 p5 H5 hp5 s5 k5 l6 H6 hl6 e6 k6 p7 H7 hp7 s7 k7
      have K4 := Kp.tr0 k4 k3
      have K5 := Kp.tr0 k5 K4
      have K7 := Kp.tr0 k7 k6
      have T5 := (T1.kp0 k2).kp0 K5
      exact k p7 p5 l6 (.row [(0, 1), (1, 1)] .le 5000) [0, 1] H7 s7 (K7.im (.tup s5 (.cons (.str _) (.cons (k5.im (tm_2 s4 (K4.tup s2) (k4.tup s3))) (.cons (.str _) (.cons (.int _) .nil)))))) (k7.get0 e6) .row (Tp.nef hl6 T5) (T5.kp0 K7) (Kp.tr0 K7 (Kp.tr0 K5 (Kp.tr0 k2 k1)))
    · walk_at "cg"
      refine if_S (fun g => ?_) (fun g => ?_)
      · walk_at "cg"
        rename_i p2 H2 hp2 s2 k2 p3 H3 hp3 s3 k3 p4 H4 hp4 s4 k4 p5 H5 hp5 s5 k5 p6 H6 hp6 s6 k6 l7 H7 hl7 e7 k7 p8 H8 hp8 s8 k8
        have K5 := Kp.tr0 k5 (Kp.tr0 k4 k3)
        have K6 := Kp.tr0 k6 K5
        have K8 := Kp.tr0 k8 k7
        have T6 := (T1.kp0 k2).kp0 K6
        exact k p8 p6 l7 (.any [⟨0, .ge, 0⟩, ⟨1, .ge, 0⟩, ⟨2, .ge, 0⟩]) [0, 1, 2] H8 s8 (K8.im (.tup s6 (.cons (.str _) (.cons (k6.im (lit_3 (l := ⟨0, .ge, 0⟩) (m := ⟨1, .ge, 0⟩) (n := ⟨2, .ge, 0⟩) s5 (lit_i (K5.tup s2)) (lit_i ((Kp.tr0 k5 k4).tup s3)) (lit_i (k5.tup s4)))) .nil)))) (k8.get0 e7) .any (Tp.nef hl7 T6) (T6.kp0 K8) (Kp.tr0 K8 (Kp.tr0 K6 (Kp.tr0 k2 k1)))
      · walk_at "cg"
        refine if_S (fun g => ?_) (fun g => ?_)
        · walk_at "cg"
          rename_i p2 H2 hp2 s2 k2 p3 H3 hp3 s3 k3 p4 H4 hp4 s4 k4 p5 H5 hp5 s5 k5 l6 H6 hl6 e6 k6 p7 H7 hp7 s7 k7
          have K4 := Kp.tr0 k4 k3
          have K5 := Kp.tr0 k5 K4
          have K7 := Kp.tr0 k7 k6
          have T5 := (T1.kp0 k2).kp0 K5
          exact k p7 p5 l6 (.when ⟨0, .ge, 0⟩ [(2, 1)] .le 5000) [0, 2] H7 s7 (K7.im (.tup s5 (.cons (.str _) (.cons (lit_i (l := ⟨0, .ge, 0⟩) (K5.tup s2)) (.cons (k5.im (tm_1 s4 (k4.tup s3))) (.cons (.str _) (.cons (.int _) .nil))))))) (k7.get0 e6) .when (Tp.nef hl6 T5) (T5.kp0 K7) (Kp.tr0 K7 (Kp.tr0 K5 (Kp.tr0 k2 k1)))
        · walk_at "cg"
          refine if_S (fun g => ?_) (fun g => ?_)
          · walk_at "cg"
            rename_i p2 H2 hp2 s2 k2 l3 H3 hl3 e3 k3 p4 H4 hp4 s4 k4
            have K4 := Kp.tr0 k4 k3
            have T2 := T1.kp0 k2
            exact k p4 p2 l3 (.times 0 1 2) [0, 1] H4 s4 (K4.im (.tup s2 (.cons (.str _) (.cons (.int _) (.cons (.int _) (.cons (.int _) .nil)))))) (k4.get0 e3) .times (Tp.nef hl3 T2) (T2.kp0 K4) (Kp.tr0 K4 (Kp.tr0 k2 k1))
          · walk_at "cg"
            refine if_S (fun g => ?_) (fun g => ?_)
            · walk_at "cg"
              rename_i p2 H2 hp2 s2 k2 l3 H3 hl3 e3 k3 p4 H4 hp4 s4 k4
              have K4 := Kp.tr0 k4 k3
              have T2 := T1.kp0 k2
              exact k p4 p2 l3 (.times 0 0 2) [0] H4 s4 (K4.im (.tup s2 (.cons (.str _) (.cons (.int _) (.cons (.int _) (.cons (.int _) .nil)))))) (k4.get0 e3) .square (Tp.nef hl3 T2) (T2.kp0 K4) (Kp.tr0 K4 (Kp.tr0 k2 k1))
            · walk_at "cg"
              rename_i p2 H2 hp2 s2 k2 p3 H3 hp3 s3 k3 p4 H4 hp4 s4 k4 p5 H5 hp5 s5 k5 p6 H6 hp6 s6 k6 p7 H7 hp7 s7 k7 l8 H8 hl8 e8 k8 d9 H9 d90 d91 T9 k9
              have b5 : BodyAt K H5 p5 (.table [0, 1] [[0, 0]]) := .tup s5 (.cons (.str _) (.cons (Im.ints (ns := [0, 1]) (k5.tup (k4.tup (k3.tup s2)))) (.cons (.tup (k5.tup s4) (.cons (Im.ints (ns := [0, 0]) (k5.tup (k4.tup s3))) .nil)) .nil)))
              have b7 : BodyAt K H7 p7 (.elem 0 [0, 0, 0] 1) := .tup s7 (.cons (.str _) (.cons (.int _) (.cons (Im.ints (ns := [0, 0, 0]) (k7.tup s6)) (.cons (.int _) .nil))))
              have c7 := k7.im (k6.im b5)
              have K8 := Kp.tr0 k8 (Kp.tr0 k7 (Kp.tr0 k6 (Kp.tr0 k5 (Kp.tr0 k4 (Kp.tr0 k3 k2)))))
              have T8 := T1.kp0 K8
              have n8t : l8 ≠ t := Tp.nef hl8 (T1.kp0 (Kp.tr0 k7 (Kp.tr0 k6 (Kp.tr0 k5 (Kp.tr0 k4 (Kp.tr0 k3 k2))))))
              have b9 := k9.im (k8.im b7)
              have c9 := k9.im (k8.im c7)
              have K9 := Kp.tr1 k9 (Kp.tr0 K8 k1)
              refine ix_ref2 (k9.get1 n8t e8) d90 d91 fun n hn => ?_
              clear k2 k3 k4 k5 k6 k7 k8 k9 K8 T8 b5 b7 c7
              walk_at "cg"
              rename_i l10 H10 hl10 e10 k10 p11 H11 hp11 s11 k11
              have K11 := Kp.tr0 k11 k10
              rcases hn with rfl | rfl
              · exact k p11 _ l10 _ [] H11 s11 (K11.im c9) (k11.get0 e10) .table (Tp.nef hl10 T9) (T9.kp0 K11) (Kp.tr0 K11 K9)
              · exact k p11 _ l10 _ [] H11 s11 (K11.im b9) (k11.get0 e10) .elem (Tp.nef hl10 T9) (T9.kp0 K11) (Kp.tr0 K11 K9)
theorem ok_law_behind_a_hint {f : Addr} {fd : FuncData} (F : Fun K "_law_behind_a_hint" "_law_behind_a_hint" s_law_behind_a_hint f fd) (B : Bi K mg C_Model) (D_law_draw : Is P w K mg base CX0 1 "_law_draw" ["_law_tape_here", "_law_many"] spDraw) (D_follows : Is P w K mg base CX0 7 "follows" ["model", "entries", "step"] (spFollowsG K C_Model)) (D_law_same : Is P w K mg base CX0 1 "_law_same" ["_law_told", "_law_due"] spSame) : FnOk P w K mg base CX0 8 f fd ["_law_tape_here", "_law_model", "_law_body_here", "_law_counted", "_law_sizes_here"] (spBehind K C_Model) := by
  have nd := sc_law_behind_a_hint.nd
  refine F.ok sc_law_behind_a_hint ?len (fun cdv A outer s H vs Q E hr h => ?body)
  case len =>
    rintro vs H Q E ⟨t, c, pb, lc, ls, a, s, b, cs, rfl, _⟩
    rfl
  case body =>
    obtain ⟨t, c, pb, lc, ls, a, s, b, cs, rfl, T, hM, om, hb, ec, nct, es, nst, k⟩ := h
    refine ⟨_, (pss_cons (ps_set (i := 5) nd rfl (Or.inl rfl) (pe_is D_law_draw (hr.mono (by decide)) rfl pass0 (pa_cons (pv 0) (pa_cons (pe_op op_add (pe_ix (ixL K) (pv 4) pe_int (fun _ _ => rfl)) pe_int) pa_nil))))
      (pss_cons (ps_set (i := 6) nd rfl (Or.inl rfl) (pe_ix (ixL K) (pe_lst (pa_cons (pe_tup (pa_cons pe_str (pa_cons (pe_tup (pa_cons (pe_tup (pa_cons pe_int (pa_cons pe_int pa_nil))) pa_nil)) (pa_cons (pv 5) pa_nil)))) (pa_cons (pe_tup (pa_cons pe_str (pa_cons (pe_tup (pa_cons (pe_tup (pa_cons pe_int (pa_cons pe_int pa_nil))) pa_nil)) (pa_cons (pe_op op_add (pe_op op_mul pe_int (pv 5)) pe_int) pa_nil)))) (pa_cons (pe_tup (pa_cons pe_str (pa_cons (pe_tup (pa_cons (pe_tup (pa_cons pe_int (pa_cons pe_str (pa_cons (pv 5) pa_nil)))) pa_nil)) pa_nil))) pa_nil)))) (pe_is D_law_draw (hr.mono (by decide)) rfl pass0 (pa_cons (pv 0) (pa_cons pe_int pa_nil))) (fun _ _ => rfl)))
      (pss_cons (ps_set (i := 7) nd rfl (Or.inl rfl) pe_int)
      (pss_cons (ps_for PassesOwn.never rfl ((piLst K) (pv 3)) (pg_name (i := 8) nd rfl (Or.inl rfl))
      (pss_one (ps_if (pt_cmpR op_eq (pv 8) pe_int (nomark _))
      (pss_one (ps_set (i := 7) nd rfl (Or.inl rfl) (pe_op op_mul (pv 7) (pe_callB (cg_min2 rfl) (by rfl) B.n_min (by decide +kernel) (pa_cons (pe_op op_add (pv 5) pe_int) (pa_cons (pe_ix (ixL K) (pv 4) pe_int (fun _ _ => rfl)) pa_nil))))))
      (pss_one (ps_set (i := 7) nd rfl (Or.inl rfl) (pe_op op_mul (pv 7) (pe_ix (ixL K) (pv 4) (pv 8) (fun _ _ => rfl))))))))
      (pss_cons (ps_set (i := 9) nd rfl (Or.inl rfl) (pe_tup (pa_cons pe_str (pa_cons (pe_tup (pa_cons (pe_tup (pa_cons pe_int (pa_cons pe_int pa_nil))) pa_nil)) (pa_cons (pe_op op_add (pe_ix (ixL K) (pv 4) pe_int (fun _ _ => rfl)) pe_int) pa_nil)))))
      (pss_cons (ps_set (i := 10) nd rfl (Or.inl rfl) (pe_is D_follows (hr.mono (by decide)) rfl pass0 (pa_cons (pv 1) (pa_cons (pe_lst (pa_cons (pe_tup (pa_cons (pv 6) (pa_cons pe_str pa_nil))) pa_nil)) (pa_cons (pe_tup (pa_cons (pv 9) (pa_cons pe_str (pa_cons pe_str (pa_cons (pe_tup (pa_cons pe_int pa_nil)) pa_nil))))) pa_nil)))))
      (pss_one (ps_ret (pe_is D_law_same (hr.mono (by decide)) rfl pass0 (pa_cons (pv 10) (pa_cons (pe_or (pe_cmpR op_eq (pe_callB (cgLen K) (by rfl) B.n_len PySem.boot_len (pa_cons (pv 3) pa_nil)) pe_int (nomark _)) (pe_one (pe_cmpR op_le (pv 7) pe_int (nomark _)))) pa_nil))))))))))), ?_⟩
    try dsimp only [L2.cxOf, L2.Cx.nox, L2.Cx.wish]
    rw [st_law_behind_a_hint]
    have ha := s.ha
    obtain ⟨cv, cl, c0⟩ := hb.cs
    have mb : LtB (s.a + 1) := .of (by omega)
    walk_at "cg"
    rename_i d1 H1 d10 d11 T1 k1 p2 H2 hp2 s2 k2 p3 H3 hp3 s3 k3 p4 H4 hp4 s4 k4 p5 H5 hp5 s5 k5 p6 H6 hp6 s6 k6 p7 H7 hp7 s7 k7 p8 H8 hp8 s8 k8 p9 H9 hp9 s9 k9 p10 H10 hp10 s10 k10 l11 H11 hl11 e11 k11 d12 H12 d120 d121 T12 k12
    have f4 : FactAt K H4 p4 (.row [(0, 1)] d1) := row_mk s4 (k4.im (tm_1 s3 (k3.tup s2)))
    have f7 : FactAt K H7 p7 (.row [(0, 3)] (3 * d1 + 2)) := row_mk s7 (k7.im (tm_1 s6 (k6.tup s5)))
    have f10 : FactAt K H10 p10 (.any [⟨0, .le, d1⟩]) := any_mk s10 (k10.im (lit_1 s9 (k9.im (lit_i (l := ⟨0, .le, d1⟩) s8))))
    have K10 := Kp.tr0 k10 (Kp.tr0 k9 k8)
    have K12 := Kp.tr1 k12 (Kp.tr0 k11 (Tp.base (T1.kp0 (Kp.tr0 K10 (Kp.tr0 k7 (Kp.tr0 k6 (Kp.tr0 k5 (Kp.tr0 k4 (Kp.tr0 k3 k2)))))))))
    have K7 := Kp.tr0 k7 (Kp.tr0 k6 k5)
    have g4 := K12.im (K10.im (K7.im f4))
    have g7 := K12.im (K10.im f7)
    have g10 := K12.im f10
    have KK := Kp.tr1 k12 (Kp.tr0 k11 (Kp.tr0 K10 (Kp.tr0 K7 (Kp.tr0 k4 (Kp.tr0 k3 (Kp.tr0 k2 k1))))))
    have n11 : l11 ≠ t := Tp.nef hl11 (T1.kp0 (Kp.tr0 K10 (Kp.tr0 K7 (Kp.tr0 k4 (Kp.tr0 k3 k2)))))
    refine ix_ref3 (k12.get1 n11 e11) d120 d121 fun n hn => ?_
    obtain ⟨hf, Fh, hk⟩ : ∃ hf : Fact, FactAt K H12 n hf ∧ hintOk d1 hf := by
      rcases hn with rfl | rfl | rfl
      · exact ⟨_, g4, hint1⟩
      · exact ⟨_, g7, hint2⟩
      · exact ⟨_, g10, hint3 d10 (by omega)⟩
    have ec12 := KK.get1 nct ec
    have es12 := KK.get1 nst es
    have M12 := hM.kp1 KK om
    clear k1 k2 k3 k4 k5 k6 k7 k8 k9 k10 k11 k12 K10 K12 K7 g4 g7 g10 f4 f7 f10 s2 s3 s4 s5 s6 s7 s8 s9 s10 e11 T1 hn hp2 hp3 hp4 hp5 hp6 hp7 hp8 hp9 hp10 hl11
    have hL : ∀ v, 0 ≤ s.kept (min (d1 + 1) s.a) v ∧ s.kept (min (d1 + 1) s.a) v ≤ 26 := fun v => by
      unfold Sz.kept
      have := s.bd v
      split <;> omega
    walk_at "cg"
    refine r_forLI cs (fun i σ' H' => ∃ x7 : Option V, σ' = [some (.ref t), some (.ref a.p), some (.ref pb), some (.ref lc), some (.ref ls), some (.int d1), some (.ref n), some (.int (prC (s.kept (min (d1 + 1) s.a)) (cs.take i))), x7, none, none] ∧ H' = H12) ⟨_, rfl, rfl⟩ (fun i σ' H' ⟨_, _, e⟩ => by rw [e]; exact ec12) ?_ ?_
    · rintro i v σ' H' hv ⟨x7, rfl, rfl⟩
      have pb := prC_bd hL (cs.take i) (by rw [List.length_take]; omega)
      have ep : prC (s.kept (min (d1 + 1) s.a)) (cs.take (i + 1)) = prC (s.kept (min (d1 + 1) s.a)) (cs.take i) * s.kept (min (d1 + 1) s.a) v := by
        rw [List.take_add_one, hv]
        exact prC_snoc _ _ _
      walk_at "cg"
      refine if_S (fun g => ?_) (fun g => ?_)
      · walk_at "cg"
        refine ⟨some (.int v), ?_, rfl⟩
        rw [ep, show s.kept (min (d1 + 1) s.a) v = (if s.a < d1 + 1 then s.a else d1 + 1) by unfold Sz.kept; rw [if_pos g]; split <;> omega]
      · walk_at "cg"
        refine r_ixL es12 (s.ix (cv v (List.mem_of_getElem? hv))) ?_
        walk_at "cg"
        refine ⟨some (.int v), ?_, rfl⟩
        rw [ep, show s.kept (min (d1 + 1) s.a) v = s.at v by unfold Sz.kept; rw [if_neg g]]
    · rintro σ' H' ⟨x7, rfl, rfl⟩
      rw [List.take_length]
      walk_at "cg"
      rename_i p13 H13 hp13 s13 k13 p14 H14 hp14 s14 k14 p15 H15 hp15 s15 k15 p16 H16 hp16 s16 k16 l17 H17 hl17 e17 k17 p18 H18 hp18 s18 k18 p19 H19 hp19 s19 k19
      have F15 : FactAt K H15 p15 (f21 s) := row_mk s15 (k15.im (tm_1 s14 (k14.tup s13)))
      have K19 := Kp.tr0 k19 k18
      have KA := Kp.tr0 K19 (Kp.tr0 k17 (Kp.tr0 k16 (Kp.tr0 k15 (Kp.tr0 k14 k13))))
      have S16 : Im K H16 (.ref p16) (Step.d ⟨hf, .suppose⟩) := .tup s16 (.cons ((Kp.tr0 k16 (Kp.tr0 k15 (Kp.tr0 k14 k13))).im Fh) (.cons (.str _) .nil))
      have E17 : EntAt K H17 l17 [some ⟨hf, .suppose⟩] := ⟨_, e17, .cons (k17.im S16) .nil⟩
      have st : Im K H19 (.ref p19) (Step.d ⟨f21 s, .look (Str.ofString "c") [0]⟩) := .tup s19 (.cons ((Kp.tr0 K19 (Kp.tr0 k17 k16)).im F15) (.cons (.str _) (.cons (.str _) (.cons (Im.ints (ns := [0]) (k19.tup s18)) .nil))))
      refine ⟨a, s.M b, l17, p19, _, ⟨f21 s, .look (Str.ofString "c") [0]⟩, rfl, M12.kp0 KA, s.ok hb, E17.kp0 K19, (by show 1 ≤ 1000; decide), (fun x hx => ?_), ⟨by decide, by decide⟩, (by show 1 ≤ 60; decide), st, fun H20 k20 => ?_⟩
      · rw [List.mem_singleton] at hx
        cases hx
        exact hk.2.2
      rw [fol_hint hb d10 hk]
      have K20 := Kp.tr0 k20 KA
      have T20 := T12.kp0 K20
      have ec20 := K20.get0 ec12
      have KF := Kp.tr0 K20 KK
      clear k13 k14 k15 k16 k17 k18 k19 k20 K19 KA K20 E17 S16 st F15 s13 s14 s15 s16 s18 s19 e17 hp13 hp14 hp15 hp16 hl17 hp18 hp19 ec12 es12 M12 T12 KK Fh
      have cn : (((cs.map V.int).length : Nat) : Int) = 0 ↔ cs = [] := by
        rw [List.length_map]
        cases cs <;> simp
        omega
      walk_at "cg"
      refine if_S (fun g => ?_) (fun g => ?_)
      · have g := cn.mp g
        walk_at "cg"
        rw [decide_eq_true g]
        exact k _ T20 KF
      · have g : ¬ cs = [] := fun e => g (cn.mpr e)
        walk_at "cg"
        rw [decide_eq_false g, Bool.false_or, decide_eq_true (show (_ : Bool) = _ from rfl)]
        exact k _ T20 KF
theorem ok_law {f : Addr} {fd : FuncData} (F : Fun K "law" "law" s_law f fd) (B : Bi K mg C_Model) (D_law_tape : Is P w K mg base CX0 1 "_law_tape" ["_law_script"] (spTape K)) (D_law_sizes : Is P w K mg base CX0 2 "_law_sizes" ["_law_tape_here"] (spSizes K)) (D_law_body : Is P w K mg base CX0 2 "_law_body" ["_law_tape_here"] (spBody21 K)) (D_Model___init__ : IsI P w K mg base CX0 2 C_Model "Model" ["self", "unknowns"] (spInit K C_Model)) (D_Model_put : IsM P w K mg base CX0 4 C_Model "put" ["self", "label", "body"] (spPut K C_Model)) (D_look_cost : Is P w K mg base CX0 4 "look_cost" ["model", "body", "fact"] (spLookCost K C_Model)) (D_law_draw : Is P w K mg base CX0 1 "_law_draw" ["_law_tape_here", "_law_many"] spDraw) (D_law_same : Is P w K mg base CX0 1 "_law_same" ["_law_told", "_law_due"] spSame) (D_law_behind_a_hint : Is P w K mg base CX0 8 "_law_behind_a_hint" ["_law_tape_here", "_law_model", "_law_body_here", "_law_counted", "_law_sizes_here"] (spBehind K C_Model)) (D_follows : Is P w K mg base CX0 7 "follows" ["model", "entries", "step"] (spFollowsG K C_Model)) : FnOk P w K mg base CX0 9 f fd ["_law_script"] (spLaw K) := by
  have nd := sc_law.nd
  obtain ⟨f_Model___init__, fd_Model___init__, G_Model___init__, m_Model___init__, b_Model___init__, g_Model___init__⟩ := D_Model___init__.ex
  obtain ⟨f_Model_put, fd_Model_put, G_Model_put, m_Model_put, b_Model_put⟩ := D_Model_put.ex
  refine F.ok sc_law ?len (fun cdv A outer s H vs Q E hr h => ?body)
  case len =>
    rintro vs H Q E ⟨a, ns, rfl, _⟩
    rfl
  case body =>
    obtain ⟨a, ns, rfl, hS, hl, q⟩ := h
    refine ⟨_, (pss_cons (ps_set (i := 1) nd rfl (Or.inl rfl) (pe_is D_law_tape (hr.mono (by decide)) rfl pass0 (pa_cons (pv 0) pa_nil)))
      (pss_cons (ps_set (i := 2) nd rfl (Or.inl rfl) (pe_is D_law_sizes (hr.mono (by decide)) rfl pass0 (pa_cons (pv 1) pa_nil)))
      (pss_cons (ps_asg (pe_is D_law_body (hr.mono (by decide)) rfl pass0 (pa_cons (pv 1) pa_nil)) (pg_tup (n := 2) rfl (pgs_cons (pg_name (i := 3) nd rfl (Or.inl rfl)) (pgs_cons (pg_name (i := 4) nd rfl (Or.inl rfl)) pgs_nil))))
      (pss_cons (ps_set (i := 5) nd rfl (Or.inl rfl) (pe_make m_Model___init__ G_Model___init__ (hr.mono (by decide)) rfl g_Model___init__ b_Model___init__ .nil pass0 (pa_cons (pe_lst (pa_cons (pe_tup (pa_cons pe_str (pa_cons pe_int (pa_cons (pe_op op_sub (pe_ix (ixL K) (pv 2) pe_int (fun _ _ => rfl)) pe_int) pa_nil)))) (pa_cons (pe_tup (pa_cons pe_str (pa_cons pe_int (pa_cons (pe_op op_sub (pe_ix (ixL K) (pv 2) pe_int (fun _ _ => rfl)) pe_int) pa_nil)))) (pa_cons (pe_tup (pa_cons pe_str (pa_cons pe_int (pa_cons (pe_op op_sub (pe_ix (ixL K) (pv 2) pe_int (fun _ _ => rfl)) pe_int) pa_nil)))) pa_nil)))) pa_nil)))
      (pss_cons (ps_expr (pe_meth (pv 5) D_Model_put.cl m_Model_put G_Model_put (hr.mono (by decide)) b_Model_put .nil pass0 (pa_cons pe_str (pa_cons (pv 3) pa_nil))))
      (pss_cons (ps_set (i := 6) nd rfl (Or.inl rfl) (pe_tup (pa_cons pe_str (pa_cons (pe_tup (pa_cons (pe_tup (pa_cons pe_int (pa_cons pe_int pa_nil))) pa_nil)) (pa_cons (pe_op op_add (pe_ix (ixL K) (pv 2) pe_int (fun _ _ => rfl)) pe_int) pa_nil)))))
      (pss_cons (ps_set (i := 7) nd rfl (Or.inl rfl) (pe_callTy (cgList K) (by rfl) B.n_list (by decide +kernel) (pa_cons (pv 2) pa_nil)))
      (Evl.pss_cut (ps_if (pt_cmpR op_eq (pe_is D_law_draw (hr.mono (by decide)) rfl pass0 (pa_cons (pv 1) (pa_cons pe_int pa_nil))) pe_int (nomark _))
      (pss_cons (ps_set (i := 8) nd rfl (Or.inl rfl) (pe_is D_law_draw (hr.mono (by decide)) rfl pass0 (pa_cons (pv 1) (pa_cons (pe_op op_add (pe_ix (ixL K) (pv 2) pe_int (fun _ _ => rfl)) pe_int) pa_nil))))
      (pss_cons (ps_set (i := 6) nd rfl (Or.inl rfl) (pe_tup (pa_cons pe_str (pa_cons (pe_tup (pa_cons (pe_tup (pa_cons pe_int (pa_cons pe_str (pa_cons (pe_op op_sub (pv 8) pe_int) pa_nil)))) (pa_cons (pe_tup (pa_cons pe_int (pa_cons pe_str (pa_cons pe_int pa_nil)))) pa_nil))) pa_nil))))
      (pss_one (ps_asg pe_int (pg_sub (pv 7) pe_int set_list)))))
      pss_nil)
      (pss_cons (ps_set (i := 9) nd rfl (Or.inl rfl) pe_int)
      (pss_cons (ps_for PassesOwn.never rfl ((piLst K) (pv 4)) (pg_name (i := 10) nd rfl (Or.inl rfl))
      (pss_one (ps_set (i := 9) nd rfl (Or.inl rfl) (pe_op op_mul (pv 9) (pe_ix (ixL K) (pv 7) (pv 10) (fun _ _ => rfl))))))
      (Evl.pss_cut (ps_if (PW.pt (pw_or (pt_cmpR op_eq (pe_callB (cgLen K) (by rfl) B.n_len PySem.boot_len (pa_cons (pv 4) pa_nil)) pe_int (nomark _)) (pw_or1 (pt_cmpR op_eq (pe_ix (ixL K) (pv 7) pe_int (fun _ _ => rfl)) pe_int (nomark _)))))
      (pss_one (ps_set (i := 9) nd rfl (Or.inl rfl) pe_int))
      pss_nil)
      (pss_cons (ps_set (i := 11) nd rfl (Or.inl rfl) (pe_is D_look_cost (hr.mono (by decide)) rfl pass0 (pa_cons (pv 5) (pa_cons (pv 3) (pa_cons (pv 6) pa_nil)))))
      (pss_cons (ps_if (PW.pt (pw_or (pt_cmpR op_ne (pv 11) (pv 9) (nomark _)) (pw_or1 (pt_not (pt_val (pe_callB (cgIsi K) (by rfl) B.n_isinstance (by decide +kernel) (pa_cons (pv 11) (pa_cons (pe_bltn (v := .ty "int") rfl B.n_int (by decide +kernel) rfl) pa_nil))))))))
      (pss_one (ps_ret pe_bl))
      pss_nil)
      (pss_cons (ps_if (pt_not (pt_val (pe_is D_law_same (hr.mono (by decide)) rfl pass0 (pa_cons (pe_is D_follows (hr.mono (by decide)) rfl pass0 (pa_cons (pv 5) (pa_cons (pe_lst pa_nil) (pa_cons (pe_tup (pa_cons (pv 6) (pa_cons pe_str (pa_cons pe_str (pa_cons (pe_tup pa_nil) pa_nil))))) pa_nil)))) (pa_cons (pe_cmpR op_le (pv 9) pe_int (nomark _)) pa_nil)))))
      (pss_one (ps_ret pe_bl))
      pss_nil)
      (pss_cons (ps_if (pt_not (pt_val (pe_is D_law_behind_a_hint (hr.mono (by decide)) rfl pass0 (pa_cons (pv 1) (pa_cons (pv 5) (pa_cons (pv 3) (pa_cons (pv 4) (pa_cons (pv 2) pa_nil))))))))
      (pss_one (ps_ret pe_bl))
      pss_nil)
      (pss_cons (ps_set (i := 12) nd rfl (Or.inl rfl) (pe_tup (pa_cons pe_str (pa_cons (pe_tup (pa_cons (pe_tup (pa_cons pe_int (pa_cons pe_str (pa_cons (pe_is D_law_draw (hr.mono (by decide)) rfl pass0 (pa_cons (pv 1) (pa_cons (pe_op op_add (pe_ix (ixL K) (pv 2) pe_int (fun _ _ => rfl)) pe_int) pa_nil))) pa_nil)))) pa_nil)) pa_nil))))
      (pss_cons (ps_set (i := 13) nd rfl (Or.inl rfl) (pe_callB (cg_min2 rfl) (by rfl) B.n_min (by decide +kernel) (pa_cons (pe_ix (ixT K) (pe_ix (ixT K) (pe_ix (ixT K) (pv 12) pe_int (fun _ _ => rfl)) pe_int (fun _ _ => rfl)) pe_int (fun _ _ => rfl)) (pa_cons (pe_ix (ixL K) (pv 2) pe_int (fun _ _ => rfl)) pa_nil))))
      (pss_cons (ps_set (i := 9) nd rfl (Or.inl rfl) pe_int)
      (pss_cons (ps_for PassesOwn.never rfl ((piLst K) (pv 4)) (pg_name (i := 10) nd rfl (Or.inl rfl))
      (pss_one (ps_if (pt_cmpR op_eq (pv 10) pe_int (nomark _))
      (pss_one (ps_set (i := 9) nd rfl (Or.inl rfl) (pe_op op_mul (pv 9) (pv 13))))
      (pss_one (ps_set (i := 9) nd rfl (Or.inl rfl) (pe_op op_mul (pv 9) (pe_ix (ixL K) (pv 2) (pv 10) (fun _ _ => rfl))))))))
      (Evl.pss_cut (ps_if (PW.pt (pw_or (pt_cmpR op_eq (pe_callB (cgLen K) (by rfl) B.n_len PySem.boot_len (pa_cons (pv 4) pa_nil)) pe_int (nomark _)) (pw_or1 (pt_cmpR op_eq (pv 13) pe_int (nomark _)))))
      (pss_one (ps_set (i := 9) nd rfl (Or.inl rfl) pe_int))
      pss_nil)
      (pss_one (ps_ret (pe_cmpR op_eq (pe_is D_look_cost (hr.mono (by decide)) rfl pass0 (pa_cons (pv 5) (pa_cons (pv 3) (pa_cons (pv 12) pa_nil)))) (pv 9) (nomark _)))))))))))))))))))))))), ?_⟩
    try dsimp only [L2.cxOf, L2.Cx.nox, L2.Cx.wish]
    rw [st_law]
    walk_at "cg"
    refine ⟨a, ns, rfl, hS, fun t c H1 ht hc T1 k1 => ?_⟩
    walk_at "cg"
    refine ⟨t, c, rfl, T1, fun ls s H2 hls es T2 k2 => ?_⟩
    have nst : ls ≠ t := Tp.nef hls T1
    have ha := s.ha
    have hb := s.hb
    have hc := s.hc
    clear k1 k2 T1
    walk_at "cg"
    refine ⟨t, c, rfl, T2, fun pp pb lc b cs H3 S3 B3 ec hb21 nct T3 k3 => ?_⟩
    obtain ⟨cv, cl, c0⟩ := hb21.cs
    have es3 := k3.get1 nst es
    clear k3 T2 es
    walk_at "cg"
    rename_i p4 H4 hp4 s4 k4 p5 H5 hp5 s5 k5 p6 H6 hp6 s6 k6 l7 H7 hl7 e7 k7
    have K6 := Kp.tr0 k6 k5
    have K7 := Kp.tr0 k7 (Kp.tr0 K6 k4)
    have T7 := T3.kp0 K7
    have unds : ImAll K H7 [.ref p4, .ref p5, .ref p6] (s.us.map unD) := by
      refine .cons (.tup ((Kp.tr0 k7 K6).tup s4) ?_) (.cons (.tup ((Kp.tr0 k7 k6).tup s5) ?_) (.cons (.tup (k7.tup s6) ?_) .nil))
      · exact .cons (.str _) (.cons (.int _) (.cons (.int _) .nil))
      · exact .cons (.str _) (.cons (.int _) (.cons (.int _) .nil))
      · exact .cons (.str _) (.cons (.int _) (.cons (.int _) .nil))
    have ok := s.ok hb21
    have B7 := K7.im B3
    have ec7 := K7.get0 ec
    have es7 := K7.get0 es3
    clear k4 k5 k6 k7 K6 K7 s4 s5 s6 hp4 hp5 hp6 hl7 T3 B3 ec es3 S3
    refine r_make fun x dx H8 hx e8 k8 => ?_
    refine ⟨x, l7, dx, _, s.us, rfl, e8, k8.get0 e7, k8.imAll unds, (by show 1 ≤ 3; decide), (by show 3 ≤ 60; decide), ok.un, ok.nd, fun ma H9 ea M9 fm k9 => ⟨rfl, ?_⟩⟩
    have T8 := T7.kp0 k8
    have om : offA ma t := fun y hy => by
      rcases fm y hy with e | e
      · rw [e]
        exact Tp.nef hx T7
      · exact Tp.nef e T8
    have K9 : Kp [] H7 H9 := Kp.trN k9 k8 hx
    subst ea
    clear fm k9 k8 e8 hx unds e7
    have T9 := T7.kp0 K9
    have B9 := K9.im B7
    have ec9 := K9.get0 ec7
    have es9 := K9.get0 es7
    clear K9 T7 T8 B7 ec7 es7
    walk_at "cg"
    refine ⟨ma, _, pb, b, _, rfl, M9, (by decide +kernel), (by decide +kernel), (by simp), B9, hb21.fit, (by simp), fun H10 M10' k10 => ?_⟩
    have nmt : ma.b ≠ t := om _ (by simp [MA.all])
    have M10 : MdlAt K C_Model H10 ma (s.M b) := M10'
    clear M10'
    have fb9 := M9
    obtain ⟨kvs, b9, -⟩ := fb9.bo
    have nbc : c ≠ ma.b := fun e => by
      obtain ⟨ns9, _, _, _, e1, _⟩ := T9.ex
      rw [e, b9] at e1
      cases e1
    have T10 := T9.kp1 k10 nmt.symm nbc
    have B10 := k10.im B9
    have ec10 := k10.get1 (ne_of ec9 b9 (fun e => by cases e)) ec9
    have es10 := k10.get1 (ne_of es9 b9 (fun e => by cases e)) es9
    clear k10 M9 b9 fb9 T9 B9 ec9 es9 nmt nbc
    walk_at "cg"
    rename_i p11 H11 hp11 s11 k11 p12 H12 hp12 s12 k12 p13 H13 hp13 s13 k13
    have F13 : FactAt K H13 p13 (f21 s) := row_mk s13 (k13.im (tm_1 s12 (k12.tup s11)))
    have K13 := Kp.tr0 k13 (Kp.tr0 k12 k11)
    have T13 := T10.kp0 K13
    have B13 := K13.im B10
    have ec13 := K13.get0 ec10
    have es13 := K13.get0 es10
    have M13 := M10.kp0 K13
    refine r_listL (SqL.of es13) fun l14 H14 hl14 e14 k14 => ?_
    have n14 : l14 ≠ t := Tp.nef hl14 T13
    clear k11 k12 k13 s11 s12 s13 K13 T10 B10 ec10 es10 M10 hp11 hp12 hp13
    have kb14 : Kp [t] H13 H14 := Kp.tr0 k14 (Tp.base T13)
    have T14 := T13.kp0 k14
    have F14 := k14.im F13
    clear k14
    walk_at "cg"
    refine ⟨fun σ' H' => ∃ (pf : Addr) (f : Fact) (L0 : Int) (x8 : Option V), σ' = [some (.ref a), some (.ref t), some (.ref ls), some (.ref pb), some (.ref lc), some (.ref ma.p), some (.ref pf), some (.ref l14), x8, none, none, none, none, none] ∧ FactAt K H' pf f ∧ H' l14 = some (.lst [.int L0, .int s.b, .int s.c]) ∧ ((f = f21 s ∧ L0 = s.a) ∨ (L0 = 0 ∧ ∃ k, 0 ≤ k ∧ k ≤ 26 ∧ f = f22 k)) ∧ Tp t c H' ∧ Kp [t] H13 H', ?_, ?_⟩
    · walk_at "cg"
      rename_i d15 H15 d150 d151 T15 k15
      have e15 := k15.get1 n14 e14
      have kb15 := Kp.tr1 k15 kb14
      have F15 := k15.im F14
      have es15 := kb15.get1 nst es13
      clear k15 kb14 F14 e14 T14
      refine if_S (fun g => ?_) (fun g => ?_)
      · have mb : LtB (s.a + 1) := .of (by omega)
        walk_at "cg"
        rename_i d16 H16 d160 d161 T16 k16 p17 H17 hp17 s17 k17 p18 H18 hp18 s18 k18 p19 H19 hp19 s19 k19 p20 H20 hp20 s20 k20
        have F20 : FactAt K H20 p20 (f22 d16) := any_mk s20 (k20.im (lit_2 (l := ⟨0, .le, d16 - 1⟩) (m := ⟨0, .ge, 0⟩) s19 (lit_i (k19.tup (k18.tup s17))) (lit_i (k19.tup s18))))
        have K20 := Kp.tr0 k20 (Kp.tr0 k19 (Kp.tr0 k18 k17))
        have e20 := K20.get0 (k16.get1 n14 e15)
        have T20 := T16.kp0 K20
        have kb20 := Kp.tr0 K20 (Kp.tr1 k16 kb15)
        clear k16 k17 k18 k19 k20 K20 s17 s18 s19 s20 e15 T15 T16 kb15 es15
        walk_at "cg"
        intro H21 e21 k21
        have n14c : l14 ≠ c := Tp.nefc hl14 T13
        walk_at "cg"
        exact ⟨p20, _, 0, _, rfl, k21.im F20, e21, .inr ⟨rfl, d16, d160, by omega, rfl⟩, T20.kp1 k21 n14.symm n14c.symm, Kp.trN k21 kb20 hl14⟩
      · walk_at "cg"
        exact ⟨p13, _, s.a, _, rfl, F15, e15, .inl ⟨rfl, rfl⟩, T15, kb15⟩
    clear F13 F14 T14 kb14 e14
    rintro σ' H15 ⟨pf, f, L0, x8, rfl, F15, e15, hf, T15, k15⟩
    have M15 := M13.kp1 k15 om
    have B15 := k15.im B13
    have ec15 := k15.get1 nct ec13
    have es15 := k15.get1 nst es13
    clear k15 M13 B13 ec13 es13 T13
    have cn : (((cs.map V.int).length : Nat) : Int) = 0 ↔ cs = [] := by
      rw [List.length_map]
      cases cs <;> simp
      omega
    have hL : ∀ k, 0 ≤ k → k ≤ 26 → ∀ v, 0 ≤ s.kept k v ∧ s.kept k v ≤ 26 := fun k h0 h1 v => by
      unfold Sz.kept
      have := s.bd v
      split <;> omega
    have hL0 : 0 ≤ L0 ∧ L0 ≤ 26 := by
      rcases hf with ⟨_, e⟩ | ⟨e, _⟩ <;> omega
    have el : ∀ v, v = 0 ∨ v = 1 ∨ v = 2 → atI ([.int L0, .int s.b, .int s.c] : List V) v = some (.int (s.kept L0 v)) := fun v h => by
      rcases h with rfl | rfl | rfl <;> rfl
    walk_at "cg"
    refine r_forLI cs (fun i σ' H' => ∃ x9 : Option V, σ' = [some (.ref a), some (.ref t), some (.ref ls), some (.ref pb), some (.ref lc), some (.ref ma.p), some (.ref pf), some (.ref l14), x8, some (.int (prC (s.kept L0) (cs.take i))), x9, none, none, none] ∧ H15 = H') ⟨_, rfl, rfl⟩ (fun i σ' H' ⟨_, _, e⟩ => by rw [← e]; exact ec15) ?_ ?_
    · rintro i v σ' H' hv ⟨x9, rfl, rfl⟩
      have pb9 := prC_bd (hL L0 hL0.1 hL0.2) (cs.take i) (by rw [List.length_take]; omega)
      walk_at "cg"
      refine r_ixL e15 (el v (cv v (List.mem_of_getElem? hv))) ?_
      walk_at "cg"
      refine ⟨some (.int v), ?_, rfl⟩
      rw [show prC (s.kept L0) (cs.take (i + 1)) = prC (s.kept L0) (cs.take i) * s.kept L0 v by rw [List.take_add_one, hv]; exact prC_snoc _ _ _]
    rintro σ' H' ⟨x9, rfl, rfl⟩
    rw [List.take_length]
    walk_at "cg"
    refine ⟨fun σ' H' => σ' = [some (.ref a), some (.ref t), some (.ref ls), some (.ref pb), some (.ref lc), some (.ref ma.p), some (.ref pf), some (.ref l14), x8, some (.int (lookCostB s.us b f)), x9, none, none, none] ∧ H15 = H', ?_, ?_⟩
    · have c0 : cs = [] → lookCostB s.us b f = 0 := fun e => by
        rcases hf with ⟨rfl, _⟩ | ⟨_, k, _, _, rfl⟩
        · rw [lc21 hb21, e]
          rfl
        · exact lc22
      have c1 : L0 = 0 → lookCostB s.us b f = 0 := fun e => by
        rcases hf with ⟨_, e2⟩ | ⟨_, k, _, _, rfl⟩
        · omega
        · exact lc22
      have c2 : ¬ cs = [] → ¬ L0 = 0 → lookCostB s.us b f = prC (s.kept L0) cs := fun e e2 => by
        rcases hf with ⟨rfl, e3⟩ | ⟨e3, _⟩
        · rw [lc21 hb21, dueC, if_neg e]
          refine prC_congr fun v hv => ?_
          unfold Sz.kept
          split
          · rename_i ev
            rw [ev, e3]
            rfl
          · rfl
        · exact absurd e3 e2
      walk_at "cg"
      refine if_S (fun g => ?_) (fun g => ?_)
      · rw [c0 (cn.mp g)]
        walk_at "cg"
        exact ⟨rfl, rfl⟩
      · have g : ¬ cs = [] := fun e => g (cn.mpr e)
        walk_at "cg"
        refine if_S (fun g2 => ?_) (fun g2 => ?_)
        · rw [c1 g2]
          walk_at "cg"
          exact ⟨rfl, rfl⟩
        · rw [c2 g g2]
          walk_at "cg"
          exact ⟨rfl, rfl⟩
    rintro σ' H' ⟨rfl, rfl⟩
    have hfv : ∀ v ∈ f.vars, v ∈ b.vars := fun v hv => by
      refine vars21 hb21 ?_
      rcases hf with ⟨rfl, _⟩ | ⟨_, k, _, _, rfl⟩
      · exact hv
      · have hv : v ∈ [0, 0] := hv
        simpa using hv
    have hfb : f.bnd := by
      rcases hf with ⟨rfl, _⟩ | ⟨_, k, _, _, rfl⟩
      · exact ⟨by decide, by decide⟩
      · refine ⟨fun l hl => ?_, (by show 2 ≤ 60; decide)⟩
        have hl : l ∈ [(⟨0, .le, k - 1⟩ : Lit), ⟨0, .ge, 0⟩] := hl
        simp only [List.mem_cons, List.not_mem_nil, or_false] at hl
        rcases hl with rfl | rfl
        · simp only
          omega
        · simp only
          omega
    have efol : followsB (s.M b) [] ⟨f, .look (Str.ofString "c") []⟩ = decide (lookCostB s.us b f ≤ 400) := by
      rcases hf with ⟨rfl, _⟩ | ⟨_, k, _, _, rfl⟩
      · rw [fol_plain hb21, lc21 hb21]
      · rw [fol_left hb21, lc22]
        rfl
    have uok : usOk s.us := fun u hu => (ok.un u hu).2.2
    clear hf hL0 el
    walk_at "cg"
    refine ⟨ma, s.M b, pb, pf, b, f, rfl, M15, (by show 3 ≤ 60; decide), uok, B15, hb21.fit, F15, hfv, fun H16 k16 => ?_⟩
    rw [show (s.M b).us = s.us from rfl]
    walk_at "cg"
    rename_i l17 H17 hl17 e17 k17 p18 H18 hp18 s18 k18 p19 H19 hp19 s19 k19
    have K19 := Kp.tr0 k19 (Kp.tr0 k18 (Kp.tr0 k17 k16))
    have st : Im K H19 (.ref p19) (Step.d ⟨f, .look (Str.ofString "c") []⟩) := .tup s19 (.cons (K19.im F15) (.cons (.str _) (.cons (.str _) (.cons (Im.ints (ns := []) (k19.tup s18)) .nil))))
    refine ⟨ma, s.M b, l17, p19, [], ⟨f, .look (Str.ofString "c") []⟩, rfl, M15.kp0 K19, ok, ⟨[], k19.get0 (k18.get0 e17), .nil⟩, (by decide), (fun x hx => by cases hx), hfb, (by show 0 ≤ 60; decide), st, fun H20 k20 => ?_⟩
    rw [efol]
    have K20 := Kp.tr0 k20 K19
    have T20 := T15.kp0 K20
    have M20 := M15.kp0 K20
    have B20 := K20.im B15
    have ec20 := K20.get0 ec15
    have es20 := K20.get0 es15
    clear k16 k17 k18 k19 k20 K19 K20 st s18 s19 e17 hl17 hp18 hp19 T15 M15 B15 ec15 es15 F15 e15
    walk_at "cg"
    refine ⟨t, c, pb, lc, ls, ma, s, b, cs, rfl, T20, M20, om, hb21, ec20, nct, es20, nst, fun H21 T21 k21 => ?_⟩
    have M21 := M20.kp1 k21 om
    have B21 := k21.im B20
    have ec21 := k21.get1 nct ec20
    have es21 := k21.get1 nst es20
    clear k21 T20 M20 B20 ec20 es20
    have mb : LtB (s.a + 2) := .of (by omega)
    walk_at "cg"
    rename_i d22 H22 d220 d221 T22 k22 p23 H23 hp23 s23 k23 p24 H24 hp24 s24 k24 p25 H25 hp25 s25 k25
    have F25 : FactAt K H25 p25 (f23 d22) := any_mk s25 (k25.im (lit_1 (l := ⟨0, .ge, d22⟩) s24 (k24.im (lit_i (l := ⟨0, .ge, d22⟩) s23))))
    have K25 := Kp.tr0 k25 (Kp.tr0 k24 (Kp.tr0 k23 k22))
    have M25 := M21.kp1 K25 om
    have B25 := K25.im B21
    have ec25 := K25.get1 nct ec21
    have es25 := K25.get1 nst es21
    clear K25 k22 k23 k24 k25 s23 s24 s25 M21 B21 ec21 es21 mb
    generalize ek : (if s.a < d22 then s.a else d22) = kk
    have ek2 : kk = min d22 s.a := by rw [← ek]; split <;> omega
    have k0 : 0 ≤ kk ∧ kk ≤ 26 := by omega
    refine r_forLI cs (fun i σ' H' => ∃ x9 : Option V, σ' = [some (.ref a), some (.ref t), some (.ref ls), some (.ref pb), some (.ref lc), some (.ref ma.p), some (.ref pf), some (.ref l14), x8, some (.int (prC (s.kept kk) (cs.take i))), x9, some (.int (lookCostB s.us b f)), some (.ref p25), some (.int kk)] ∧ H25 = H') ⟨_, rfl, rfl⟩ (fun i σ' H' ⟨_, _, e⟩ => by rw [← e]; exact ec25) ?_ ?_
    · rintro i v σ' H' hv ⟨x10, rfl, rfl⟩
      have pb9 := prC_bd (hL kk k0.1 k0.2) (cs.take i) (by rw [List.length_take]; omega)
      have ep : prC (s.kept kk) (cs.take (i + 1)) = prC (s.kept kk) (cs.take i) * s.kept kk v := by rw [List.take_add_one, hv]; exact prC_snoc _ _ _
      walk_at "cg"
      refine if_S (fun g => ?_) (fun g => ?_)
      · walk_at "cg"
        refine ⟨some (.int v), ?_, rfl⟩
        rw [ep, show s.kept kk v = kk by unfold Sz.kept; rw [if_pos g]]
      · walk_at "cg"
        refine r_ixL es25 (s.ix (cv v (List.mem_of_getElem? hv))) ?_
        walk_at "cg"
        refine ⟨some (.int v), ?_, rfl⟩
        rw [ep, show s.kept kk v = s.at v by unfold Sz.kept; rw [if_neg g]]
    rintro σ' H' ⟨x10, rfl, rfl⟩
    rw [List.take_length]
    walk_at "cg"
    refine ⟨fun σ' H' => σ' = [some (.ref a), some (.ref t), some (.ref ls), some (.ref pb), some (.ref lc), some (.ref ma.p), some (.ref pf), some (.ref l14), x8, some (.int (lookCostB s.us b (f23 d22))), x10, some (.int (lookCostB s.us b f)), some (.ref p25), some (.int kk)] ∧ H25 = H', ?_, ?_⟩
    · rw [lc23 hb21 d220, ← ek2]
      walk_at "cg"
      refine if_S (fun g => ?_) (fun g => ?_)
      · rw [show (if d22 = 0 then 0 else dueC (s.kept kk) cs) = 0 by rw [dueC, if_pos (cn.mp g)]; split <;> rfl]
        walk_at "cg"
        exact ⟨rfl, rfl⟩
      · have g : ¬ cs = [] := fun e => g (cn.mpr e)
        walk_at "cg"
        refine if_S (fun g2 => ?_) (fun g2 => ?_)
        · rw [if_pos (show d22 = 0 by omega)]
          walk_at "cg"
          exact ⟨rfl, rfl⟩
        · rw [if_neg (show ¬ d22 = 0 by omega), dueC, if_neg g]
          walk_at "cg"
          exact ⟨rfl, rfl⟩
    rintro σ' H' ⟨rfl, rfl⟩
    walk_at "cg"
    refine ⟨ma, s.M b, pb, p25, b, f23 d22, rfl, M25, (by show 3 ≤ 60; decide), uok, B25, hb21.fit, F25, (fun v hv => vars21 hb21 hv), fun H26 k26 => ?_⟩
    rw [show (s.M b).us = s.us from rfl]
    walk_at "cg"
    rw [decide_eq_true (show (_ : Int) = _ from rfl)]
    exact q _
end

theorem all_mk {l : PySem.W.OpenLaw} {w : World} {K : PySem.W.Frag} {h : Heap} {mg : Str → Option Value} {fa : Addr} (X : K.In h) (G : h.Ns mainGlobals mg) (hfa : mg "law" = some (.ref fa))
    {C_Model : Addr} (a_Model : PySem.W.nsIn K mainGlobals "Model" = some (some (.ref C_Model))) (pg_Model : PySem.W.plainGet K C_Model Str.empty = true) (hd_Model : PySem.W.hasDictIn K C_Model = true) (po_Model : PySem.W.plainOver K C_Model = true) (sa_Model : PySem.W.findIn K (.ref C_Model) "__setattr__" = some (some (.builtin "object.__setattr__"))) (mk_Model : PySem.W.makesIn K C_Model = true) (kc_Model : PySem.W.keepIn K (.ref C_Model) = true) (n_Model__names : PySem.W.findIn K (.ref C_Model) "_names" = some none) (n_Model__lows : PySem.W.findIn K (.ref C_Model) "_lows" = some none) (n_Model__highs : PySem.W.findIn K (.ref C_Model) "_highs" = some none) (n_Model__bodies : PySem.W.findIn K (.ref C_Model) "_bodies" = some none) (n_Model__goal : PySem.W.findIn K (.ref C_Model) "_goal" = some none)
    {od_relation_holds an_relation_holds : Option Addr} {sl_relation_holds : Array (Option Value)} {f_relation_holds : Addr} {oc_relation_holds kV_relation_holds dc_relation_holds pm_relation_holds cd_relation_holds ct_relation_holds : Value}
    {od_literal_holds an_literal_holds : Option Addr} {sl_literal_holds : Array (Option Value)} {f_literal_holds : Addr} {oc_literal_holds kV_literal_holds dc_literal_holds pm_literal_holds cd_literal_holds ct_literal_holds : Value}
    {od_negated an_negated : Option Addr} {sl_negated : Array (Option Value)} {f_negated : Addr} {oc_negated kV_negated dc_negated pm_negated cd_negated ct_negated : Value}
    {od_literal_implies an_literal_implies : Option Addr} {sl_literal_implies : Array (Option Value)} {f_literal_implies : Addr} {oc_literal_implies kV_literal_implies dc_literal_implies pm_literal_implies cd_literal_implies ct_literal_implies : Value}
    {od_terms_sum an_terms_sum : Option Addr} {sl_terms_sum : Array (Option Value)} {f_terms_sum : Addr} {oc_terms_sum kV_terms_sum dc_terms_sum pm_terms_sum cd_terms_sum ct_terms_sum : Value}
    {od_negated_terms an_negated_terms : Option Addr} {sl_negated_terms : Array (Option Value)} {f_negated_terms : Addr} {oc_negated_terms kV_negated_terms dc_negated_terms pm_negated_terms cd_negated_terms ct_negated_terms : Value}
    {od_rows_of an_rows_of : Option Addr} {sl_rows_of : Array (Option Value)} {f_rows_of : Addr} {oc_rows_of kV_rows_of dc_rows_of pm_rows_of cd_rows_of ct_rows_of : Value}
    {od_fact_holds an_fact_holds : Option Addr} {sl_fact_holds : Array (Option Value)} {f_fact_holds : Addr} {oc_fact_holds kV_fact_holds dc_fact_holds pm_fact_holds cd_fact_holds ct_fact_holds : Value}
    {od_is_contradiction an_is_contradiction : Option Addr} {sl_is_contradiction : Array (Option Value)} {f_is_contradiction : Addr} {oc_is_contradiction kV_is_contradiction dc_is_contradiction pm_is_contradiction cd_is_contradiction ct_is_contradiction : Value}
    {od_as_row an_as_row : Option Addr} {sl_as_row : Array (Option Value)} {f_as_row : Addr} {oc_as_row kV_as_row dc_as_row pm_as_row cd_as_row ct_as_row : Value}
    {od_as_literal an_as_literal : Option Addr} {sl_as_literal : Array (Option Value)} {f_as_literal : Addr} {oc_as_literal kV_as_literal dc_as_literal pm_as_literal cd_as_literal ct_as_literal : Value}
    {od_negation an_negation : Option Addr} {sl_negation : Array (Option Value)} {f_negation : Addr} {oc_negation kV_negation dc_negation pm_negation cd_negation ct_negation : Value}
    {od_literals_imply an_literals_imply : Option Addr} {sl_literals_imply : Array (Option Value)} {f_literals_imply : Addr} {oc_literals_imply kV_literals_imply dc_literals_imply pm_literals_imply cd_literals_imply ct_literals_imply : Value}
    {od_implies an_implies : Option Addr} {sl_implies : Array (Option Value)} {f_implies : Addr} {oc_implies kV_implies dc_implies pm_implies cd_implies ct_implies : Value}
    {od_unknowns_in an_unknowns_in : Option Addr} {sl_unknowns_in : Array (Option Value)} {f_unknowns_in : Addr} {oc_unknowns_in kV_unknowns_in dc_unknowns_in pm_unknowns_in cd_unknowns_in ct_unknowns_in : Value}
    {od_full_domains an_full_domains : Option Addr} {sl_full_domains : Array (Option Value)} {f_full_domains : Addr} {oc_full_domains kV_full_domains dc_full_domains pm_full_domains cd_full_domains ct_full_domains : Value}
    {od_drop_literals an_drop_literals : Option Addr} {sl_drop_literals : Array (Option Value)} {f_drop_literals : Addr} {oc_drop_literals kV_drop_literals dc_drop_literals pm_drop_literals cd_drop_literals ct_drop_literals : Value}
    {od_keep_literal an_keep_literal : Option Addr} {sl_keep_literal : Array (Option Value)} {f_keep_literal : Addr} {oc_keep_literal kV_keep_literal dc_keep_literal pm_keep_literal cd_keep_literal ct_keep_literal : Value}
    {od_least_of an_least_of : Option Addr} {sl_least_of : Array (Option Value)} {f_least_of : Addr} {oc_least_of kV_least_of dc_least_of pm_least_of cd_least_of ct_least_of : Value}
    {od_apply_row an_apply_row : Option Addr} {sl_apply_row : Array (Option Value)} {f_apply_row : Addr} {oc_apply_row kV_apply_row dc_apply_row pm_apply_row cd_apply_row ct_apply_row : Value}
    {od_live_literals an_live_literals : Option Addr} {sl_live_literals : Array (Option Value)} {f_live_literals : Addr} {oc_live_literals kV_live_literals dc_live_literals pm_live_literals cd_live_literals ct_live_literals : Value}
    {od_suppose_failing an_suppose_failing : Option Addr} {sl_suppose_failing : Array (Option Value)} {f_suppose_failing : Addr} {oc_suppose_failing kV_suppose_failing dc_suppose_failing pm_suppose_failing cd_suppose_failing ct_suppose_failing : Value}
    {od_ends_in_conflict an_ends_in_conflict : Option Addr} {sl_ends_in_conflict : Array (Option Value)} {f_ends_in_conflict : Addr} {oc_ends_in_conflict kV_ends_in_conflict dc_ends_in_conflict pm_ends_in_conflict cd_ends_in_conflict ct_ends_in_conflict : Value}
    {od_is_label an_is_label : Option Addr} {sl_is_label : Array (Option Value)} {f_is_label : Addr} {oc_is_label kV_is_label dc_is_label pm_is_label cd_is_label ct_is_label : Value}
    {od_unknowns_of an_unknowns_of : Option Addr} {sl_unknowns_of : Array (Option Value)} {f_unknowns_of : Addr} {oc_unknowns_of kV_unknowns_of dc_unknowns_of pm_unknowns_of cd_unknowns_of ct_unknowns_of : Value}
    {od_body_holds an_body_holds : Option Addr} {sl_body_holds : Array (Option Value)} {f_body_holds : Addr} {oc_body_holds kV_body_holds dc_body_holds pm_body_holds cd_body_holds ct_body_holds : Value}
    {od_terms_fit an_terms_fit : Option Addr} {sl_terms_fit : Array (Option Value)} {f_terms_fit : Addr} {oc_terms_fit kV_terms_fit dc_terms_fit pm_terms_fit cd_terms_fit ct_terms_fit : Value}
    {od_literal_fits an_literal_fits : Option Addr} {sl_literal_fits : Array (Option Value)} {f_literal_fits : Addr} {oc_literal_fits kV_literal_fits dc_literal_fits pm_literal_fits cd_literal_fits ct_literal_fits : Value}
    {od_linear_fits an_linear_fits : Option Addr} {sl_linear_fits : Array (Option Value)} {f_linear_fits : Addr} {oc_linear_fits kV_linear_fits dc_linear_fits pm_linear_fits cd_linear_fits ct_linear_fits : Value}
    {od_distinct_fit an_distinct_fit : Option Addr} {sl_distinct_fit : Array (Option Value)} {f_distinct_fit : Addr} {oc_distinct_fit kV_distinct_fit dc_distinct_fit pm_distinct_fit cd_distinct_fit ct_distinct_fit : Value}
    {od_entries_fit an_entries_fit : Option Addr} {sl_entries_fit : Array (Option Value)} {f_entries_fit : Addr} {oc_entries_fit kV_entries_fit dc_entries_fit pm_entries_fit cd_entries_fit ct_entries_fit : Value}
    {od_any_fits an_any_fits : Option Addr} {sl_any_fits : Array (Option Value)} {f_any_fits : Addr} {oc_any_fits kV_any_fits dc_any_fits pm_any_fits cd_any_fits ct_any_fits : Value}
    {od_table_fits an_table_fits : Option Addr} {sl_table_fits : Array (Option Value)} {f_table_fits : Addr} {oc_table_fits kV_table_fits dc_table_fits pm_table_fits cd_table_fits ct_table_fits : Value}
    {od_body_fits an_body_fits : Option Addr} {sl_body_fits : Array (Option Value)} {f_body_fits : Addr} {oc_body_fits kV_body_fits dc_body_fits pm_body_fits cd_body_fits ct_body_fits : Value}
    {od_cost_of an_cost_of : Option Addr} {sl_cost_of : Array (Option Value)} {f_cost_of : Addr} {oc_cost_of kV_cost_of dc_cost_of pm_cost_of cd_cost_of ct_cost_of : Value}
    {od_look_cost an_look_cost : Option Addr} {sl_look_cost : Array (Option Value)} {f_look_cost : Addr} {oc_look_cost kV_look_cost dc_look_cost pm_look_cost cd_look_cost ct_look_cost : Value}
    {od_wider an_wider : Option Addr} {sl_wider : Array (Option Value)} {f_wider : Addr} {oc_wider kV_wider dc_wider pm_wider cd_wider ct_wider : Value}
    {od_all_choices an_all_choices : Option Addr} {sl_all_choices : Array (Option Value)} {f_all_choices : Addr} {oc_all_choices kV_all_choices dc_all_choices pm_all_choices cd_all_choices ct_all_choices : Value}
    {od_with_result an_with_result : Option Addr} {sl_with_result : Array (Option Value)} {f_with_result : Addr} {oc_with_result kV_with_result dc_with_result pm_with_result cd_with_result ct_with_result : Value}
    {od_table_choices an_table_choices : Option Addr} {sl_table_choices : Array (Option Value)} {f_table_choices : Addr} {oc_table_choices kV_table_choices dc_table_choices pm_table_choices cd_table_choices ct_table_choices : Value}
    {od_result_choices an_result_choices : Option Addr} {sl_result_choices : Array (Option Value)} {f_result_choices : Addr} {oc_result_choices kV_result_choices dc_result_choices pm_result_choices cd_result_choices ct_result_choices : Value}
    {od_body_choices an_body_choices : Option Addr} {sl_body_choices : Array (Option Value)} {f_body_choices : Addr} {oc_body_choices kV_body_choices dc_body_choices pm_body_choices cd_body_choices ct_body_choices : Value}
    {od_premises_of an_premises_of : Option Addr} {sl_premises_of : Array (Option Value)} {f_premises_of : Addr} {oc_premises_of kV_premises_of dc_premises_of pm_premises_of cd_premises_of ct_premises_of : Value}
    {od_known an_known : Option Addr} {sl_known : Array (Option Value)} {f_known : Addr} {oc_known kV_known dc_known pm_known cd_known ct_known : Value}
    {od_follows_bound an_follows_bound : Option Addr} {sl_follows_bound : Array (Option Value)} {f_follows_bound : Addr} {oc_follows_bound kV_follows_bound dc_follows_bound pm_follows_bound cd_follows_bound ct_follows_bound : Value}
    {od_follows_given an_follows_given : Option Addr} {sl_follows_given : Array (Option Value)} {f_follows_given : Addr} {oc_follows_given kV_follows_given dc_follows_given pm_follows_given cd_follows_given ct_follows_given : Value}
    {od_follows_sum an_follows_sum : Option Addr} {sl_follows_sum : Array (Option Value)} {f_follows_sum : Addr} {oc_follows_sum kV_follows_sum dc_follows_sum pm_follows_sum cd_follows_sum ct_follows_sum : Value}
    {od_follows_divide an_follows_divide : Option Addr} {sl_follows_divide : Array (Option Value)} {f_follows_divide : Addr} {oc_follows_divide kV_follows_divide dc_follows_divide pm_follows_divide cd_follows_divide ct_follows_divide : Value}
    {od_follows_look an_follows_look : Option Addr} {sl_follows_look : Array (Option Value)} {f_follows_look : Addr} {oc_follows_look kV_follows_look dc_follows_look pm_follows_look cd_follows_look ct_follows_look : Value}
    {od_follows_apart an_follows_apart : Option Addr} {sl_follows_apart : Array (Option Value)} {f_follows_apart : Addr} {oc_follows_apart kV_follows_apart dc_follows_apart pm_follows_apart cd_follows_apart ct_follows_apart : Value}
    {od_follows_then an_follows_then : Option Addr} {sl_follows_then : Array (Option Value)} {f_follows_then : Addr} {oc_follows_then kV_follows_then dc_follows_then pm_follows_then cd_follows_then ct_follows_then : Value}
    {od_follows_unit an_follows_unit : Option Addr} {sl_follows_unit : Array (Option Value)} {f_follows_unit : Addr} {oc_follows_unit kV_follows_unit dc_follows_unit pm_follows_unit cd_follows_unit ct_follows_unit : Value}
    {od_follows_cases an_follows_cases : Option Addr} {sl_follows_cases : Array (Option Value)} {f_follows_cases : Addr} {oc_follows_cases kV_follows_cases dc_follows_cases pm_follows_cases cd_follows_cases ct_follows_cases : Value}
    {od_follows_label an_follows_label : Option Addr} {sl_follows_label : Array (Option Value)} {f_follows_label : Addr} {oc_follows_label kV_follows_label dc_follows_label pm_follows_label cd_follows_label ct_follows_label : Value}
    {od_follows an_follows : Option Addr} {sl_follows : Array (Option Value)} {f_follows : Addr} {oc_follows kV_follows dc_follows pm_follows cd_follows ct_follows : Value}
    {od_bounds_fit an_bounds_fit : Option Addr} {sl_bounds_fit : Array (Option Value)} {f_bounds_fit : Addr} {oc_bounds_fit kV_bounds_fit dc_bounds_fit pm_bounds_fit cd_bounds_fit ct_bounds_fit : Value}
    {od_Model___init__ an_Model___init__ : Option Addr} {sl_Model___init__ : Array (Option Value)} {f_Model___init__ : Addr} {oc_Model___init__ kV_Model___init__ dc_Model___init__ pm_Model___init__ cd_Model___init__ ct_Model___init__ : Value}
    {od_Model__need an_Model__need : Option Addr} {sl_Model__need : Array (Option Value)} {f_Model__need : Addr} {oc_Model__need kV_Model__need dc_Model__need pm_Model__need cd_Model__need ct_Model__need : Value}
    {od_Model_many an_Model_many : Option Addr} {sl_Model_many : Array (Option Value)} {f_Model_many : Addr} {oc_Model_many kV_Model_many dc_Model_many pm_Model_many cd_Model_many ct_Model_many : Value}
    {od_Model_low an_Model_low : Option Addr} {sl_Model_low : Array (Option Value)} {f_Model_low : Addr} {oc_Model_low kV_Model_low dc_Model_low pm_Model_low cd_Model_low ct_Model_low : Value}
    {od_Model_high an_Model_high : Option Addr} {sl_Model_high : Array (Option Value)} {f_Model_high : Addr} {oc_Model_high kV_Model_high dc_Model_high pm_Model_high cd_Model_high ct_Model_high : Value}
    {od_Model_has an_Model_has : Option Addr} {sl_Model_has : Array (Option Value)} {f_Model_has : Addr} {oc_Model_has kV_Model_has dc_Model_has pm_Model_has cd_Model_has ct_Model_has : Value}
    {od_Model_body an_Model_body : Option Addr} {sl_Model_body : Array (Option Value)} {f_Model_body : Addr} {oc_Model_body kV_Model_body dc_Model_body pm_Model_body cd_Model_body ct_Model_body : Value}
    {od_Model_put an_Model_put : Option Addr} {sl_Model_put : Array (Option Value)} {f_Model_put : Addr} {oc_Model_put kV_Model_put dc_Model_put pm_Model_put cd_Model_put ct_Model_put : Value}
    {od_law_same an_law_same : Option Addr} {sl_law_same : Array (Option Value)} {f_law_same : Addr} {oc_law_same kV_law_same dc_law_same pm_law_same cd_law_same ct_law_same : Value}
    {od_law_draw an_law_draw : Option Addr} {sl_law_draw : Array (Option Value)} {f_law_draw : Addr} {oc_law_draw kV_law_draw dc_law_draw pm_law_draw cd_law_draw ct_law_draw : Value}
    {od_law_tape an_law_tape : Option Addr} {sl_law_tape : Array (Option Value)} {f_law_tape : Addr} {oc_law_tape kV_law_tape dc_law_tape pm_law_tape cd_law_tape ct_law_tape : Value}
    {od_law_body an_law_body : Option Addr} {sl_law_body : Array (Option Value)} {f_law_body : Addr} {oc_law_body kV_law_body dc_law_body pm_law_body cd_law_body ct_law_body : Value}
    {od_law_sizes an_law_sizes : Option Addr} {sl_law_sizes : Array (Option Value)} {f_law_sizes : Addr} {oc_law_sizes kV_law_sizes dc_law_sizes pm_law_sizes cd_law_sizes ct_law_sizes : Value}
    {od_law_behind_a_hint an_law_behind_a_hint : Option Addr} {sl_law_behind_a_hint : Array (Option Value)} {f_law_behind_a_hint : Addr} {oc_law_behind_a_hint kV_law_behind_a_hint dc_law_behind_a_hint pm_law_behind_a_hint cd_law_behind_a_hint ct_law_behind_a_hint : Value}
    {od_law an_law : Option Addr} {sl_law : Array (Option Value)} {f_law : Addr} {oc_law kV_law dc_law pm_law cd_law ct_law : Value}
    (a_relation_holds : PySem.W.nsIn K mainGlobals "relation_holds" = some (some (.ref f_relation_holds))) (l_relation_holds : K.lookup f_relation_holds = some ⟨oc_relation_holds, od_relation_holds, .func (PySem.W.fnOf "relation_holds" "relation_holds" (defArgs s_relation_holds) (defBody s_relation_holds) (defScope s_relation_holds) .none kV_relation_holds dc_relation_holds pm_relation_holds an_relation_holds cd_relation_holds ct_relation_holds), sl_relation_holds⟩) (c_relation_holds : PySem.W.codeIn K cd_relation_holds "relation_holds" = true) (k_relation_holds : PySem.W.keepIn K (.ref f_relation_holds) = true)
    (a_literal_holds : PySem.W.nsIn K mainGlobals "literal_holds" = some (some (.ref f_literal_holds))) (l_literal_holds : K.lookup f_literal_holds = some ⟨oc_literal_holds, od_literal_holds, .func (PySem.W.fnOf "literal_holds" "literal_holds" (defArgs s_literal_holds) (defBody s_literal_holds) (defScope s_literal_holds) .none kV_literal_holds dc_literal_holds pm_literal_holds an_literal_holds cd_literal_holds ct_literal_holds), sl_literal_holds⟩) (c_literal_holds : PySem.W.codeIn K cd_literal_holds "literal_holds" = true) (k_literal_holds : PySem.W.keepIn K (.ref f_literal_holds) = true)
    (a_negated : PySem.W.nsIn K mainGlobals "negated" = some (some (.ref f_negated))) (l_negated : K.lookup f_negated = some ⟨oc_negated, od_negated, .func (PySem.W.fnOf "negated" "negated" (defArgs s_negated) (defBody s_negated) (defScope s_negated) .none kV_negated dc_negated pm_negated an_negated cd_negated ct_negated), sl_negated⟩) (c_negated : PySem.W.codeIn K cd_negated "negated" = true) (k_negated : PySem.W.keepIn K (.ref f_negated) = true)
    (a_literal_implies : PySem.W.nsIn K mainGlobals "literal_implies" = some (some (.ref f_literal_implies))) (l_literal_implies : K.lookup f_literal_implies = some ⟨oc_literal_implies, od_literal_implies, .func (PySem.W.fnOf "literal_implies" "literal_implies" (defArgs s_literal_implies) (defBody s_literal_implies) (defScope s_literal_implies) .none kV_literal_implies dc_literal_implies pm_literal_implies an_literal_implies cd_literal_implies ct_literal_implies), sl_literal_implies⟩) (c_literal_implies : PySem.W.codeIn K cd_literal_implies "literal_implies" = true) (k_literal_implies : PySem.W.keepIn K (.ref f_literal_implies) = true)
    (a_terms_sum : PySem.W.nsIn K mainGlobals "terms_sum" = some (some (.ref f_terms_sum))) (l_terms_sum : K.lookup f_terms_sum = some ⟨oc_terms_sum, od_terms_sum, .func (PySem.W.fnOf "terms_sum" "terms_sum" (defArgs s_terms_sum) (defBody s_terms_sum) (defScope s_terms_sum) .none kV_terms_sum dc_terms_sum pm_terms_sum an_terms_sum cd_terms_sum ct_terms_sum), sl_terms_sum⟩) (c_terms_sum : PySem.W.codeIn K cd_terms_sum "terms_sum" = true) (k_terms_sum : PySem.W.keepIn K (.ref f_terms_sum) = true)
    (a_negated_terms : PySem.W.nsIn K mainGlobals "negated_terms" = some (some (.ref f_negated_terms))) (l_negated_terms : K.lookup f_negated_terms = some ⟨oc_negated_terms, od_negated_terms, .func (PySem.W.fnOf "negated_terms" "negated_terms" (defArgs s_negated_terms) (defBody s_negated_terms) (defScope s_negated_terms) .none kV_negated_terms dc_negated_terms pm_negated_terms an_negated_terms cd_negated_terms ct_negated_terms), sl_negated_terms⟩) (c_negated_terms : PySem.W.codeIn K cd_negated_terms "negated_terms" = true) (k_negated_terms : PySem.W.keepIn K (.ref f_negated_terms) = true)
    (a_rows_of : PySem.W.nsIn K mainGlobals "rows_of" = some (some (.ref f_rows_of))) (l_rows_of : K.lookup f_rows_of = some ⟨oc_rows_of, od_rows_of, .func (PySem.W.fnOf "rows_of" "rows_of" (defArgs s_rows_of) (defBody s_rows_of) (defScope s_rows_of) .none kV_rows_of dc_rows_of pm_rows_of an_rows_of cd_rows_of ct_rows_of), sl_rows_of⟩) (c_rows_of : PySem.W.codeIn K cd_rows_of "rows_of" = true) (k_rows_of : PySem.W.keepIn K (.ref f_rows_of) = true)
    (a_fact_holds : PySem.W.nsIn K mainGlobals "fact_holds" = some (some (.ref f_fact_holds))) (l_fact_holds : K.lookup f_fact_holds = some ⟨oc_fact_holds, od_fact_holds, .func (PySem.W.fnOf "fact_holds" "fact_holds" (defArgs s_fact_holds) (defBody s_fact_holds) (defScope s_fact_holds) .none kV_fact_holds dc_fact_holds pm_fact_holds an_fact_holds cd_fact_holds ct_fact_holds), sl_fact_holds⟩) (c_fact_holds : PySem.W.codeIn K cd_fact_holds "fact_holds" = true) (k_fact_holds : PySem.W.keepIn K (.ref f_fact_holds) = true)
    (a_is_contradiction : PySem.W.nsIn K mainGlobals "is_contradiction" = some (some (.ref f_is_contradiction))) (l_is_contradiction : K.lookup f_is_contradiction = some ⟨oc_is_contradiction, od_is_contradiction, .func (PySem.W.fnOf "is_contradiction" "is_contradiction" (defArgs s_is_contradiction) (defBody s_is_contradiction) (defScope s_is_contradiction) .none kV_is_contradiction dc_is_contradiction pm_is_contradiction an_is_contradiction cd_is_contradiction ct_is_contradiction), sl_is_contradiction⟩) (c_is_contradiction : PySem.W.codeIn K cd_is_contradiction "is_contradiction" = true) (k_is_contradiction : PySem.W.keepIn K (.ref f_is_contradiction) = true)
    (a_as_row : PySem.W.nsIn K mainGlobals "as_row" = some (some (.ref f_as_row))) (l_as_row : K.lookup f_as_row = some ⟨oc_as_row, od_as_row, .func (PySem.W.fnOf "as_row" "as_row" (defArgs s_as_row) (defBody s_as_row) (defScope s_as_row) .none kV_as_row dc_as_row pm_as_row an_as_row cd_as_row ct_as_row), sl_as_row⟩) (c_as_row : PySem.W.codeIn K cd_as_row "as_row" = true) (k_as_row : PySem.W.keepIn K (.ref f_as_row) = true)
    (a_as_literal : PySem.W.nsIn K mainGlobals "as_literal" = some (some (.ref f_as_literal))) (l_as_literal : K.lookup f_as_literal = some ⟨oc_as_literal, od_as_literal, .func (PySem.W.fnOf "as_literal" "as_literal" (defArgs s_as_literal) (defBody s_as_literal) (defScope s_as_literal) .none kV_as_literal dc_as_literal pm_as_literal an_as_literal cd_as_literal ct_as_literal), sl_as_literal⟩) (c_as_literal : PySem.W.codeIn K cd_as_literal "as_literal" = true) (k_as_literal : PySem.W.keepIn K (.ref f_as_literal) = true)
    (a_negation : PySem.W.nsIn K mainGlobals "negation" = some (some (.ref f_negation))) (l_negation : K.lookup f_negation = some ⟨oc_negation, od_negation, .func (PySem.W.fnOf "negation" "negation" (defArgs s_negation) (defBody s_negation) (defScope s_negation) .none kV_negation dc_negation pm_negation an_negation cd_negation ct_negation), sl_negation⟩) (c_negation : PySem.W.codeIn K cd_negation "negation" = true) (k_negation : PySem.W.keepIn K (.ref f_negation) = true)
    (a_literals_imply : PySem.W.nsIn K mainGlobals "literals_imply" = some (some (.ref f_literals_imply))) (l_literals_imply : K.lookup f_literals_imply = some ⟨oc_literals_imply, od_literals_imply, .func (PySem.W.fnOf "literals_imply" "literals_imply" (defArgs s_literals_imply) (defBody s_literals_imply) (defScope s_literals_imply) .none kV_literals_imply dc_literals_imply pm_literals_imply an_literals_imply cd_literals_imply ct_literals_imply), sl_literals_imply⟩) (c_literals_imply : PySem.W.codeIn K cd_literals_imply "literals_imply" = true) (k_literals_imply : PySem.W.keepIn K (.ref f_literals_imply) = true)
    (a_implies : PySem.W.nsIn K mainGlobals "implies" = some (some (.ref f_implies))) (l_implies : K.lookup f_implies = some ⟨oc_implies, od_implies, .func (PySem.W.fnOf "implies" "implies" (defArgs s_implies) (defBody s_implies) (defScope s_implies) .none kV_implies dc_implies pm_implies an_implies cd_implies ct_implies), sl_implies⟩) (c_implies : PySem.W.codeIn K cd_implies "implies" = true) (k_implies : PySem.W.keepIn K (.ref f_implies) = true)
    (a_unknowns_in : PySem.W.nsIn K mainGlobals "unknowns_in" = some (some (.ref f_unknowns_in))) (l_unknowns_in : K.lookup f_unknowns_in = some ⟨oc_unknowns_in, od_unknowns_in, .func (PySem.W.fnOf "unknowns_in" "unknowns_in" (defArgs s_unknowns_in) (defBody s_unknowns_in) (defScope s_unknowns_in) .none kV_unknowns_in dc_unknowns_in pm_unknowns_in an_unknowns_in cd_unknowns_in ct_unknowns_in), sl_unknowns_in⟩) (c_unknowns_in : PySem.W.codeIn K cd_unknowns_in "unknowns_in" = true) (k_unknowns_in : PySem.W.keepIn K (.ref f_unknowns_in) = true)
    (a_full_domains : PySem.W.nsIn K mainGlobals "full_domains" = some (some (.ref f_full_domains))) (l_full_domains : K.lookup f_full_domains = some ⟨oc_full_domains, od_full_domains, .func (PySem.W.fnOf "full_domains" "full_domains" (defArgs s_full_domains) (defBody s_full_domains) (defScope s_full_domains) .none kV_full_domains dc_full_domains pm_full_domains an_full_domains cd_full_domains ct_full_domains), sl_full_domains⟩) (c_full_domains : PySem.W.codeIn K cd_full_domains "full_domains" = true) (k_full_domains : PySem.W.keepIn K (.ref f_full_domains) = true)
    (a_drop_literals : PySem.W.nsIn K mainGlobals "drop_literals" = some (some (.ref f_drop_literals))) (l_drop_literals : K.lookup f_drop_literals = some ⟨oc_drop_literals, od_drop_literals, .func (PySem.W.fnOf "drop_literals" "drop_literals" (defArgs s_drop_literals) (defBody s_drop_literals) (defScope s_drop_literals) .none kV_drop_literals dc_drop_literals pm_drop_literals an_drop_literals cd_drop_literals ct_drop_literals), sl_drop_literals⟩) (c_drop_literals : PySem.W.codeIn K cd_drop_literals "drop_literals" = true) (k_drop_literals : PySem.W.keepIn K (.ref f_drop_literals) = true)
    (a_keep_literal : PySem.W.nsIn K mainGlobals "keep_literal" = some (some (.ref f_keep_literal))) (l_keep_literal : K.lookup f_keep_literal = some ⟨oc_keep_literal, od_keep_literal, .func (PySem.W.fnOf "keep_literal" "keep_literal" (defArgs s_keep_literal) (defBody s_keep_literal) (defScope s_keep_literal) .none kV_keep_literal dc_keep_literal pm_keep_literal an_keep_literal cd_keep_literal ct_keep_literal), sl_keep_literal⟩) (c_keep_literal : PySem.W.codeIn K cd_keep_literal "keep_literal" = true) (k_keep_literal : PySem.W.keepIn K (.ref f_keep_literal) = true)
    (a_least_of : PySem.W.nsIn K mainGlobals "least_of" = some (some (.ref f_least_of))) (l_least_of : K.lookup f_least_of = some ⟨oc_least_of, od_least_of, .func (PySem.W.fnOf "least_of" "least_of" (defArgs s_least_of) (defBody s_least_of) (defScope s_least_of) .none kV_least_of dc_least_of pm_least_of an_least_of cd_least_of ct_least_of), sl_least_of⟩) (c_least_of : PySem.W.codeIn K cd_least_of "least_of" = true) (k_least_of : PySem.W.keepIn K (.ref f_least_of) = true)
    (a_apply_row : PySem.W.nsIn K mainGlobals "apply_row" = some (some (.ref f_apply_row))) (l_apply_row : K.lookup f_apply_row = some ⟨oc_apply_row, od_apply_row, .func (PySem.W.fnOf "apply_row" "apply_row" (defArgs s_apply_row) (defBody s_apply_row) (defScope s_apply_row) .none kV_apply_row dc_apply_row pm_apply_row an_apply_row cd_apply_row ct_apply_row), sl_apply_row⟩) (c_apply_row : PySem.W.codeIn K cd_apply_row "apply_row" = true) (k_apply_row : PySem.W.keepIn K (.ref f_apply_row) = true)
    (a_live_literals : PySem.W.nsIn K mainGlobals "live_literals" = some (some (.ref f_live_literals))) (l_live_literals : K.lookup f_live_literals = some ⟨oc_live_literals, od_live_literals, .func (PySem.W.fnOf "live_literals" "live_literals" (defArgs s_live_literals) (defBody s_live_literals) (defScope s_live_literals) .none kV_live_literals dc_live_literals pm_live_literals an_live_literals cd_live_literals ct_live_literals), sl_live_literals⟩) (c_live_literals : PySem.W.codeIn K cd_live_literals "live_literals" = true) (k_live_literals : PySem.W.keepIn K (.ref f_live_literals) = true)
    (a_suppose_failing : PySem.W.nsIn K mainGlobals "suppose_failing" = some (some (.ref f_suppose_failing))) (l_suppose_failing : K.lookup f_suppose_failing = some ⟨oc_suppose_failing, od_suppose_failing, .func (PySem.W.fnOf "suppose_failing" "suppose_failing" (defArgs s_suppose_failing) (defBody s_suppose_failing) (defScope s_suppose_failing) .none kV_suppose_failing dc_suppose_failing pm_suppose_failing an_suppose_failing cd_suppose_failing ct_suppose_failing), sl_suppose_failing⟩) (c_suppose_failing : PySem.W.codeIn K cd_suppose_failing "suppose_failing" = true) (k_suppose_failing : PySem.W.keepIn K (.ref f_suppose_failing) = true)
    (a_ends_in_conflict : PySem.W.nsIn K mainGlobals "ends_in_conflict" = some (some (.ref f_ends_in_conflict))) (l_ends_in_conflict : K.lookup f_ends_in_conflict = some ⟨oc_ends_in_conflict, od_ends_in_conflict, .func (PySem.W.fnOf "ends_in_conflict" "ends_in_conflict" (defArgs s_ends_in_conflict) (defBody s_ends_in_conflict) (defScope s_ends_in_conflict) .none kV_ends_in_conflict dc_ends_in_conflict pm_ends_in_conflict an_ends_in_conflict cd_ends_in_conflict ct_ends_in_conflict), sl_ends_in_conflict⟩) (c_ends_in_conflict : PySem.W.codeIn K cd_ends_in_conflict "ends_in_conflict" = true) (k_ends_in_conflict : PySem.W.keepIn K (.ref f_ends_in_conflict) = true)
    (a_is_label : PySem.W.nsIn K mainGlobals "is_label" = some (some (.ref f_is_label))) (l_is_label : K.lookup f_is_label = some ⟨oc_is_label, od_is_label, .func (PySem.W.fnOf "is_label" "is_label" (defArgs s_is_label) (defBody s_is_label) (defScope s_is_label) .none kV_is_label dc_is_label pm_is_label an_is_label cd_is_label ct_is_label), sl_is_label⟩) (c_is_label : PySem.W.codeIn K cd_is_label "is_label" = true) (k_is_label : PySem.W.keepIn K (.ref f_is_label) = true)
    (a_unknowns_of : PySem.W.nsIn K mainGlobals "unknowns_of" = some (some (.ref f_unknowns_of))) (l_unknowns_of : K.lookup f_unknowns_of = some ⟨oc_unknowns_of, od_unknowns_of, .func (PySem.W.fnOf "unknowns_of" "unknowns_of" (defArgs s_unknowns_of) (defBody s_unknowns_of) (defScope s_unknowns_of) .none kV_unknowns_of dc_unknowns_of pm_unknowns_of an_unknowns_of cd_unknowns_of ct_unknowns_of), sl_unknowns_of⟩) (c_unknowns_of : PySem.W.codeIn K cd_unknowns_of "unknowns_of" = true) (k_unknowns_of : PySem.W.keepIn K (.ref f_unknowns_of) = true)
    (a_body_holds : PySem.W.nsIn K mainGlobals "body_holds" = some (some (.ref f_body_holds))) (l_body_holds : K.lookup f_body_holds = some ⟨oc_body_holds, od_body_holds, .func (PySem.W.fnOf "body_holds" "body_holds" (defArgs s_body_holds) (defBody s_body_holds) (defScope s_body_holds) .none kV_body_holds dc_body_holds pm_body_holds an_body_holds cd_body_holds ct_body_holds), sl_body_holds⟩) (c_body_holds : PySem.W.codeIn K cd_body_holds "body_holds" = true) (k_body_holds : PySem.W.keepIn K (.ref f_body_holds) = true)
    (a_terms_fit : PySem.W.nsIn K mainGlobals "terms_fit" = some (some (.ref f_terms_fit))) (l_terms_fit : K.lookup f_terms_fit = some ⟨oc_terms_fit, od_terms_fit, .func (PySem.W.fnOf "terms_fit" "terms_fit" (defArgs s_terms_fit) (defBody s_terms_fit) (defScope s_terms_fit) .none kV_terms_fit dc_terms_fit pm_terms_fit an_terms_fit cd_terms_fit ct_terms_fit), sl_terms_fit⟩) (c_terms_fit : PySem.W.codeIn K cd_terms_fit "terms_fit" = true) (k_terms_fit : PySem.W.keepIn K (.ref f_terms_fit) = true)
    (a_literal_fits : PySem.W.nsIn K mainGlobals "literal_fits" = some (some (.ref f_literal_fits))) (l_literal_fits : K.lookup f_literal_fits = some ⟨oc_literal_fits, od_literal_fits, .func (PySem.W.fnOf "literal_fits" "literal_fits" (defArgs s_literal_fits) (defBody s_literal_fits) (defScope s_literal_fits) .none kV_literal_fits dc_literal_fits pm_literal_fits an_literal_fits cd_literal_fits ct_literal_fits), sl_literal_fits⟩) (c_literal_fits : PySem.W.codeIn K cd_literal_fits "literal_fits" = true) (k_literal_fits : PySem.W.keepIn K (.ref f_literal_fits) = true)
    (a_linear_fits : PySem.W.nsIn K mainGlobals "linear_fits" = some (some (.ref f_linear_fits))) (l_linear_fits : K.lookup f_linear_fits = some ⟨oc_linear_fits, od_linear_fits, .func (PySem.W.fnOf "linear_fits" "linear_fits" (defArgs s_linear_fits) (defBody s_linear_fits) (defScope s_linear_fits) .none kV_linear_fits dc_linear_fits pm_linear_fits an_linear_fits cd_linear_fits ct_linear_fits), sl_linear_fits⟩) (c_linear_fits : PySem.W.codeIn K cd_linear_fits "linear_fits" = true) (k_linear_fits : PySem.W.keepIn K (.ref f_linear_fits) = true)
    (a_distinct_fit : PySem.W.nsIn K mainGlobals "distinct_fit" = some (some (.ref f_distinct_fit))) (l_distinct_fit : K.lookup f_distinct_fit = some ⟨oc_distinct_fit, od_distinct_fit, .func (PySem.W.fnOf "distinct_fit" "distinct_fit" (defArgs s_distinct_fit) (defBody s_distinct_fit) (defScope s_distinct_fit) .none kV_distinct_fit dc_distinct_fit pm_distinct_fit an_distinct_fit cd_distinct_fit ct_distinct_fit), sl_distinct_fit⟩) (c_distinct_fit : PySem.W.codeIn K cd_distinct_fit "distinct_fit" = true) (k_distinct_fit : PySem.W.keepIn K (.ref f_distinct_fit) = true)
    (a_entries_fit : PySem.W.nsIn K mainGlobals "entries_fit" = some (some (.ref f_entries_fit))) (l_entries_fit : K.lookup f_entries_fit = some ⟨oc_entries_fit, od_entries_fit, .func (PySem.W.fnOf "entries_fit" "entries_fit" (defArgs s_entries_fit) (defBody s_entries_fit) (defScope s_entries_fit) .none kV_entries_fit dc_entries_fit pm_entries_fit an_entries_fit cd_entries_fit ct_entries_fit), sl_entries_fit⟩) (c_entries_fit : PySem.W.codeIn K cd_entries_fit "entries_fit" = true) (k_entries_fit : PySem.W.keepIn K (.ref f_entries_fit) = true)
    (a_any_fits : PySem.W.nsIn K mainGlobals "any_fits" = some (some (.ref f_any_fits))) (l_any_fits : K.lookup f_any_fits = some ⟨oc_any_fits, od_any_fits, .func (PySem.W.fnOf "any_fits" "any_fits" (defArgs s_any_fits) (defBody s_any_fits) (defScope s_any_fits) .none kV_any_fits dc_any_fits pm_any_fits an_any_fits cd_any_fits ct_any_fits), sl_any_fits⟩) (c_any_fits : PySem.W.codeIn K cd_any_fits "any_fits" = true) (k_any_fits : PySem.W.keepIn K (.ref f_any_fits) = true)
    (a_table_fits : PySem.W.nsIn K mainGlobals "table_fits" = some (some (.ref f_table_fits))) (l_table_fits : K.lookup f_table_fits = some ⟨oc_table_fits, od_table_fits, .func (PySem.W.fnOf "table_fits" "table_fits" (defArgs s_table_fits) (defBody s_table_fits) (defScope s_table_fits) .none kV_table_fits dc_table_fits pm_table_fits an_table_fits cd_table_fits ct_table_fits), sl_table_fits⟩) (c_table_fits : PySem.W.codeIn K cd_table_fits "table_fits" = true) (k_table_fits : PySem.W.keepIn K (.ref f_table_fits) = true)
    (a_body_fits : PySem.W.nsIn K mainGlobals "body_fits" = some (some (.ref f_body_fits))) (l_body_fits : K.lookup f_body_fits = some ⟨oc_body_fits, od_body_fits, .func (PySem.W.fnOf "body_fits" "body_fits" (defArgs s_body_fits) (defBody s_body_fits) (defScope s_body_fits) .none kV_body_fits dc_body_fits pm_body_fits an_body_fits cd_body_fits ct_body_fits), sl_body_fits⟩) (c_body_fits : PySem.W.codeIn K cd_body_fits "body_fits" = true) (k_body_fits : PySem.W.keepIn K (.ref f_body_fits) = true)
    (a_cost_of : PySem.W.nsIn K mainGlobals "cost_of" = some (some (.ref f_cost_of))) (l_cost_of : K.lookup f_cost_of = some ⟨oc_cost_of, od_cost_of, .func (PySem.W.fnOf "cost_of" "cost_of" (defArgs s_cost_of) (defBody s_cost_of) (defScope s_cost_of) .none kV_cost_of dc_cost_of pm_cost_of an_cost_of cd_cost_of ct_cost_of), sl_cost_of⟩) (c_cost_of : PySem.W.codeIn K cd_cost_of "cost_of" = true) (k_cost_of : PySem.W.keepIn K (.ref f_cost_of) = true)
    (a_look_cost : PySem.W.nsIn K mainGlobals "look_cost" = some (some (.ref f_look_cost))) (l_look_cost : K.lookup f_look_cost = some ⟨oc_look_cost, od_look_cost, .func (PySem.W.fnOf "look_cost" "look_cost" (defArgs s_look_cost) (defBody s_look_cost) (defScope s_look_cost) .none kV_look_cost dc_look_cost pm_look_cost an_look_cost cd_look_cost ct_look_cost), sl_look_cost⟩) (c_look_cost : PySem.W.codeIn K cd_look_cost "look_cost" = true) (k_look_cost : PySem.W.keepIn K (.ref f_look_cost) = true)
    (a_wider : PySem.W.nsIn K mainGlobals "wider" = some (some (.ref f_wider))) (l_wider : K.lookup f_wider = some ⟨oc_wider, od_wider, .func (PySem.W.fnOf "wider" "wider" (defArgs s_wider) (defBody s_wider) (defScope s_wider) .none kV_wider dc_wider pm_wider an_wider cd_wider ct_wider), sl_wider⟩) (c_wider : PySem.W.codeIn K cd_wider "wider" = true) (k_wider : PySem.W.keepIn K (.ref f_wider) = true)
    (a_all_choices : PySem.W.nsIn K mainGlobals "all_choices" = some (some (.ref f_all_choices))) (l_all_choices : K.lookup f_all_choices = some ⟨oc_all_choices, od_all_choices, .func (PySem.W.fnOf "all_choices" "all_choices" (defArgs s_all_choices) (defBody s_all_choices) (defScope s_all_choices) .none kV_all_choices dc_all_choices pm_all_choices an_all_choices cd_all_choices ct_all_choices), sl_all_choices⟩) (c_all_choices : PySem.W.codeIn K cd_all_choices "all_choices" = true) (k_all_choices : PySem.W.keepIn K (.ref f_all_choices) = true)
    (a_with_result : PySem.W.nsIn K mainGlobals "with_result" = some (some (.ref f_with_result))) (l_with_result : K.lookup f_with_result = some ⟨oc_with_result, od_with_result, .func (PySem.W.fnOf "with_result" "with_result" (defArgs s_with_result) (defBody s_with_result) (defScope s_with_result) .none kV_with_result dc_with_result pm_with_result an_with_result cd_with_result ct_with_result), sl_with_result⟩) (c_with_result : PySem.W.codeIn K cd_with_result "with_result" = true) (k_with_result : PySem.W.keepIn K (.ref f_with_result) = true)
    (a_table_choices : PySem.W.nsIn K mainGlobals "table_choices" = some (some (.ref f_table_choices))) (l_table_choices : K.lookup f_table_choices = some ⟨oc_table_choices, od_table_choices, .func (PySem.W.fnOf "table_choices" "table_choices" (defArgs s_table_choices) (defBody s_table_choices) (defScope s_table_choices) .none kV_table_choices dc_table_choices pm_table_choices an_table_choices cd_table_choices ct_table_choices), sl_table_choices⟩) (c_table_choices : PySem.W.codeIn K cd_table_choices "table_choices" = true) (k_table_choices : PySem.W.keepIn K (.ref f_table_choices) = true)
    (a_result_choices : PySem.W.nsIn K mainGlobals "result_choices" = some (some (.ref f_result_choices))) (l_result_choices : K.lookup f_result_choices = some ⟨oc_result_choices, od_result_choices, .func (PySem.W.fnOf "result_choices" "result_choices" (defArgs s_result_choices) (defBody s_result_choices) (defScope s_result_choices) .none kV_result_choices dc_result_choices pm_result_choices an_result_choices cd_result_choices ct_result_choices), sl_result_choices⟩) (c_result_choices : PySem.W.codeIn K cd_result_choices "result_choices" = true) (k_result_choices : PySem.W.keepIn K (.ref f_result_choices) = true)
    (a_body_choices : PySem.W.nsIn K mainGlobals "body_choices" = some (some (.ref f_body_choices))) (l_body_choices : K.lookup f_body_choices = some ⟨oc_body_choices, od_body_choices, .func (PySem.W.fnOf "body_choices" "body_choices" (defArgs s_body_choices) (defBody s_body_choices) (defScope s_body_choices) .none kV_body_choices dc_body_choices pm_body_choices an_body_choices cd_body_choices ct_body_choices), sl_body_choices⟩) (c_body_choices : PySem.W.codeIn K cd_body_choices "body_choices" = true) (k_body_choices : PySem.W.keepIn K (.ref f_body_choices) = true)
    (a_premises_of : PySem.W.nsIn K mainGlobals "premises_of" = some (some (.ref f_premises_of))) (l_premises_of : K.lookup f_premises_of = some ⟨oc_premises_of, od_premises_of, .func (PySem.W.fnOf "premises_of" "premises_of" (defArgs s_premises_of) (defBody s_premises_of) (defScope s_premises_of) .none kV_premises_of dc_premises_of pm_premises_of an_premises_of cd_premises_of ct_premises_of), sl_premises_of⟩) (c_premises_of : PySem.W.codeIn K cd_premises_of "premises_of" = true) (k_premises_of : PySem.W.keepIn K (.ref f_premises_of) = true)
    (a_known : PySem.W.nsIn K mainGlobals "known" = some (some (.ref f_known))) (l_known : K.lookup f_known = some ⟨oc_known, od_known, .func (PySem.W.fnOf "known" "known" (defArgs s_known) (defBody s_known) (defScope s_known) .none kV_known dc_known pm_known an_known cd_known ct_known), sl_known⟩) (c_known : PySem.W.codeIn K cd_known "known" = true) (k_known : PySem.W.keepIn K (.ref f_known) = true)
    (a_follows_bound : PySem.W.nsIn K mainGlobals "follows_bound" = some (some (.ref f_follows_bound))) (l_follows_bound : K.lookup f_follows_bound = some ⟨oc_follows_bound, od_follows_bound, .func (PySem.W.fnOf "follows_bound" "follows_bound" (defArgs s_follows_bound) (defBody s_follows_bound) (defScope s_follows_bound) .none kV_follows_bound dc_follows_bound pm_follows_bound an_follows_bound cd_follows_bound ct_follows_bound), sl_follows_bound⟩) (c_follows_bound : PySem.W.codeIn K cd_follows_bound "follows_bound" = true) (k_follows_bound : PySem.W.keepIn K (.ref f_follows_bound) = true)
    (a_follows_given : PySem.W.nsIn K mainGlobals "follows_given" = some (some (.ref f_follows_given))) (l_follows_given : K.lookup f_follows_given = some ⟨oc_follows_given, od_follows_given, .func (PySem.W.fnOf "follows_given" "follows_given" (defArgs s_follows_given) (defBody s_follows_given) (defScope s_follows_given) .none kV_follows_given dc_follows_given pm_follows_given an_follows_given cd_follows_given ct_follows_given), sl_follows_given⟩) (c_follows_given : PySem.W.codeIn K cd_follows_given "follows_given" = true) (k_follows_given : PySem.W.keepIn K (.ref f_follows_given) = true)
    (a_follows_sum : PySem.W.nsIn K mainGlobals "follows_sum" = some (some (.ref f_follows_sum))) (l_follows_sum : K.lookup f_follows_sum = some ⟨oc_follows_sum, od_follows_sum, .func (PySem.W.fnOf "follows_sum" "follows_sum" (defArgs s_follows_sum) (defBody s_follows_sum) (defScope s_follows_sum) .none kV_follows_sum dc_follows_sum pm_follows_sum an_follows_sum cd_follows_sum ct_follows_sum), sl_follows_sum⟩) (c_follows_sum : PySem.W.codeIn K cd_follows_sum "follows_sum" = true) (k_follows_sum : PySem.W.keepIn K (.ref f_follows_sum) = true)
    (a_follows_divide : PySem.W.nsIn K mainGlobals "follows_divide" = some (some (.ref f_follows_divide))) (l_follows_divide : K.lookup f_follows_divide = some ⟨oc_follows_divide, od_follows_divide, .func (PySem.W.fnOf "follows_divide" "follows_divide" (defArgs s_follows_divide) (defBody s_follows_divide) (defScope s_follows_divide) .none kV_follows_divide dc_follows_divide pm_follows_divide an_follows_divide cd_follows_divide ct_follows_divide), sl_follows_divide⟩) (c_follows_divide : PySem.W.codeIn K cd_follows_divide "follows_divide" = true) (k_follows_divide : PySem.W.keepIn K (.ref f_follows_divide) = true)
    (a_follows_look : PySem.W.nsIn K mainGlobals "follows_look" = some (some (.ref f_follows_look))) (l_follows_look : K.lookup f_follows_look = some ⟨oc_follows_look, od_follows_look, .func (PySem.W.fnOf "follows_look" "follows_look" (defArgs s_follows_look) (defBody s_follows_look) (defScope s_follows_look) .none kV_follows_look dc_follows_look pm_follows_look an_follows_look cd_follows_look ct_follows_look), sl_follows_look⟩) (c_follows_look : PySem.W.codeIn K cd_follows_look "follows_look" = true) (k_follows_look : PySem.W.keepIn K (.ref f_follows_look) = true)
    (a_follows_apart : PySem.W.nsIn K mainGlobals "follows_apart" = some (some (.ref f_follows_apart))) (l_follows_apart : K.lookup f_follows_apart = some ⟨oc_follows_apart, od_follows_apart, .func (PySem.W.fnOf "follows_apart" "follows_apart" (defArgs s_follows_apart) (defBody s_follows_apart) (defScope s_follows_apart) .none kV_follows_apart dc_follows_apart pm_follows_apart an_follows_apart cd_follows_apart ct_follows_apart), sl_follows_apart⟩) (c_follows_apart : PySem.W.codeIn K cd_follows_apart "follows_apart" = true) (k_follows_apart : PySem.W.keepIn K (.ref f_follows_apart) = true)
    (a_follows_then : PySem.W.nsIn K mainGlobals "follows_then" = some (some (.ref f_follows_then))) (l_follows_then : K.lookup f_follows_then = some ⟨oc_follows_then, od_follows_then, .func (PySem.W.fnOf "follows_then" "follows_then" (defArgs s_follows_then) (defBody s_follows_then) (defScope s_follows_then) .none kV_follows_then dc_follows_then pm_follows_then an_follows_then cd_follows_then ct_follows_then), sl_follows_then⟩) (c_follows_then : PySem.W.codeIn K cd_follows_then "follows_then" = true) (k_follows_then : PySem.W.keepIn K (.ref f_follows_then) = true)
    (a_follows_unit : PySem.W.nsIn K mainGlobals "follows_unit" = some (some (.ref f_follows_unit))) (l_follows_unit : K.lookup f_follows_unit = some ⟨oc_follows_unit, od_follows_unit, .func (PySem.W.fnOf "follows_unit" "follows_unit" (defArgs s_follows_unit) (defBody s_follows_unit) (defScope s_follows_unit) .none kV_follows_unit dc_follows_unit pm_follows_unit an_follows_unit cd_follows_unit ct_follows_unit), sl_follows_unit⟩) (c_follows_unit : PySem.W.codeIn K cd_follows_unit "follows_unit" = true) (k_follows_unit : PySem.W.keepIn K (.ref f_follows_unit) = true)
    (a_follows_cases : PySem.W.nsIn K mainGlobals "follows_cases" = some (some (.ref f_follows_cases))) (l_follows_cases : K.lookup f_follows_cases = some ⟨oc_follows_cases, od_follows_cases, .func (PySem.W.fnOf "follows_cases" "follows_cases" (defArgs s_follows_cases) (defBody s_follows_cases) (defScope s_follows_cases) .none kV_follows_cases dc_follows_cases pm_follows_cases an_follows_cases cd_follows_cases ct_follows_cases), sl_follows_cases⟩) (c_follows_cases : PySem.W.codeIn K cd_follows_cases "follows_cases" = true) (k_follows_cases : PySem.W.keepIn K (.ref f_follows_cases) = true)
    (a_follows_label : PySem.W.nsIn K mainGlobals "follows_label" = some (some (.ref f_follows_label))) (l_follows_label : K.lookup f_follows_label = some ⟨oc_follows_label, od_follows_label, .func (PySem.W.fnOf "follows_label" "follows_label" (defArgs s_follows_label) (defBody s_follows_label) (defScope s_follows_label) .none kV_follows_label dc_follows_label pm_follows_label an_follows_label cd_follows_label ct_follows_label), sl_follows_label⟩) (c_follows_label : PySem.W.codeIn K cd_follows_label "follows_label" = true) (k_follows_label : PySem.W.keepIn K (.ref f_follows_label) = true)
    (a_follows : PySem.W.nsIn K mainGlobals "follows" = some (some (.ref f_follows))) (l_follows : K.lookup f_follows = some ⟨oc_follows, od_follows, .func (PySem.W.fnOf "follows" "follows" (defArgs s_follows) (defBody s_follows) (defScope s_follows) .none kV_follows dc_follows pm_follows an_follows cd_follows ct_follows), sl_follows⟩) (c_follows : PySem.W.codeIn K cd_follows "follows" = true) (k_follows : PySem.W.keepIn K (.ref f_follows) = true)
    (a_bounds_fit : PySem.W.nsIn K mainGlobals "bounds_fit" = some (some (.ref f_bounds_fit))) (l_bounds_fit : K.lookup f_bounds_fit = some ⟨oc_bounds_fit, od_bounds_fit, .func (PySem.W.fnOf "bounds_fit" "bounds_fit" (defArgs s_bounds_fit) (defBody s_bounds_fit) (defScope s_bounds_fit) .none kV_bounds_fit dc_bounds_fit pm_bounds_fit an_bounds_fit cd_bounds_fit ct_bounds_fit), sl_bounds_fit⟩) (c_bounds_fit : PySem.W.codeIn K cd_bounds_fit "bounds_fit" = true) (k_bounds_fit : PySem.W.keepIn K (.ref f_bounds_fit) = true)
    (a_Model___init__ : PySem.W.findIn K (.ref C_Model) "__init__" = some (some (.ref f_Model___init__))) (i_Model___init__ : PySem.W.isFn K (.ref f_Model___init__) = true) (l_Model___init__ : K.lookup f_Model___init__ = some ⟨oc_Model___init__, od_Model___init__, .func (PySem.W.fnOf "__init__" "Model.__init__" (defArgs s_Model___init__) (defBody s_Model___init__) (defScope s_Model___init__) .none kV_Model___init__ dc_Model___init__ pm_Model___init__ an_Model___init__ cd_Model___init__ ct_Model___init__), sl_Model___init__⟩) (c_Model___init__ : PySem.W.codeIn K cd_Model___init__ "Model.__init__" = true) (k_Model___init__ : PySem.W.keepIn K (.ref f_Model___init__) = true)
    (a_Model__need : PySem.W.findIn K (.ref C_Model) "_need" = some (some (.ref f_Model__need))) (i_Model__need : PySem.W.isFn K (.ref f_Model__need) = true) (l_Model__need : K.lookup f_Model__need = some ⟨oc_Model__need, od_Model__need, .func (PySem.W.fnOf "_need" "Model._need" (defArgs s_Model__need) (defBody s_Model__need) (defScope s_Model__need) .none kV_Model__need dc_Model__need pm_Model__need an_Model__need cd_Model__need ct_Model__need), sl_Model__need⟩) (c_Model__need : PySem.W.codeIn K cd_Model__need "Model._need" = true) (k_Model__need : PySem.W.keepIn K (.ref f_Model__need) = true)
    (a_Model_many : PySem.W.findIn K (.ref C_Model) "many" = some (some (.ref f_Model_many))) (i_Model_many : PySem.W.isFn K (.ref f_Model_many) = true) (l_Model_many : K.lookup f_Model_many = some ⟨oc_Model_many, od_Model_many, .func (PySem.W.fnOf "many" "Model.many" (defArgs s_Model_many) (defBody s_Model_many) (defScope s_Model_many) .none kV_Model_many dc_Model_many pm_Model_many an_Model_many cd_Model_many ct_Model_many), sl_Model_many⟩) (c_Model_many : PySem.W.codeIn K cd_Model_many "Model.many" = true) (k_Model_many : PySem.W.keepIn K (.ref f_Model_many) = true)
    (a_Model_low : PySem.W.findIn K (.ref C_Model) "low" = some (some (.ref f_Model_low))) (i_Model_low : PySem.W.isFn K (.ref f_Model_low) = true) (l_Model_low : K.lookup f_Model_low = some ⟨oc_Model_low, od_Model_low, .func (PySem.W.fnOf "low" "Model.low" (defArgs s_Model_low) (defBody s_Model_low) (defScope s_Model_low) .none kV_Model_low dc_Model_low pm_Model_low an_Model_low cd_Model_low ct_Model_low), sl_Model_low⟩) (c_Model_low : PySem.W.codeIn K cd_Model_low "Model.low" = true) (k_Model_low : PySem.W.keepIn K (.ref f_Model_low) = true)
    (a_Model_high : PySem.W.findIn K (.ref C_Model) "high" = some (some (.ref f_Model_high))) (i_Model_high : PySem.W.isFn K (.ref f_Model_high) = true) (l_Model_high : K.lookup f_Model_high = some ⟨oc_Model_high, od_Model_high, .func (PySem.W.fnOf "high" "Model.high" (defArgs s_Model_high) (defBody s_Model_high) (defScope s_Model_high) .none kV_Model_high dc_Model_high pm_Model_high an_Model_high cd_Model_high ct_Model_high), sl_Model_high⟩) (c_Model_high : PySem.W.codeIn K cd_Model_high "Model.high" = true) (k_Model_high : PySem.W.keepIn K (.ref f_Model_high) = true)
    (a_Model_has : PySem.W.findIn K (.ref C_Model) "has" = some (some (.ref f_Model_has))) (i_Model_has : PySem.W.isFn K (.ref f_Model_has) = true) (l_Model_has : K.lookup f_Model_has = some ⟨oc_Model_has, od_Model_has, .func (PySem.W.fnOf "has" "Model.has" (defArgs s_Model_has) (defBody s_Model_has) (defScope s_Model_has) .none kV_Model_has dc_Model_has pm_Model_has an_Model_has cd_Model_has ct_Model_has), sl_Model_has⟩) (c_Model_has : PySem.W.codeIn K cd_Model_has "Model.has" = true) (k_Model_has : PySem.W.keepIn K (.ref f_Model_has) = true)
    (a_Model_body : PySem.W.findIn K (.ref C_Model) "body" = some (some (.ref f_Model_body))) (i_Model_body : PySem.W.isFn K (.ref f_Model_body) = true) (l_Model_body : K.lookup f_Model_body = some ⟨oc_Model_body, od_Model_body, .func (PySem.W.fnOf "body" "Model.body" (defArgs s_Model_body) (defBody s_Model_body) (defScope s_Model_body) .none kV_Model_body dc_Model_body pm_Model_body an_Model_body cd_Model_body ct_Model_body), sl_Model_body⟩) (c_Model_body : PySem.W.codeIn K cd_Model_body "Model.body" = true) (k_Model_body : PySem.W.keepIn K (.ref f_Model_body) = true)
    (a_Model_put : PySem.W.findIn K (.ref C_Model) "put" = some (some (.ref f_Model_put))) (i_Model_put : PySem.W.isFn K (.ref f_Model_put) = true) (l_Model_put : K.lookup f_Model_put = some ⟨oc_Model_put, od_Model_put, .func (PySem.W.fnOf "put" "Model.put" (defArgs s_Model_put) (defBody s_Model_put) (defScope s_Model_put) .none kV_Model_put dc_Model_put pm_Model_put an_Model_put cd_Model_put ct_Model_put), sl_Model_put⟩) (c_Model_put : PySem.W.codeIn K cd_Model_put "Model.put" = true) (k_Model_put : PySem.W.keepIn K (.ref f_Model_put) = true)
    (a_law_same : PySem.W.nsIn K mainGlobals "_law_same" = some (some (.ref f_law_same))) (l_law_same : K.lookup f_law_same = some ⟨oc_law_same, od_law_same, .func (PySem.W.fnOf "_law_same" "_law_same" (defArgs s_law_same) (defBody s_law_same) (defScope s_law_same) .none kV_law_same dc_law_same pm_law_same an_law_same cd_law_same ct_law_same), sl_law_same⟩) (c_law_same : PySem.W.codeIn K cd_law_same "_law_same" = true) (k_law_same : PySem.W.keepIn K (.ref f_law_same) = true)
    (a_law_draw : PySem.W.nsIn K mainGlobals "_law_draw" = some (some (.ref f_law_draw))) (l_law_draw : K.lookup f_law_draw = some ⟨oc_law_draw, od_law_draw, .func (PySem.W.fnOf "_law_draw" "_law_draw" (defArgs s_law_draw) (defBody s_law_draw) (defScope s_law_draw) .none kV_law_draw dc_law_draw pm_law_draw an_law_draw cd_law_draw ct_law_draw), sl_law_draw⟩) (c_law_draw : PySem.W.codeIn K cd_law_draw "_law_draw" = true) (k_law_draw : PySem.W.keepIn K (.ref f_law_draw) = true)
    (a_law_tape : PySem.W.nsIn K mainGlobals "_law_tape" = some (some (.ref f_law_tape))) (l_law_tape : K.lookup f_law_tape = some ⟨oc_law_tape, od_law_tape, .func (PySem.W.fnOf "_law_tape" "_law_tape" (defArgs s_law_tape) (defBody s_law_tape) (defScope s_law_tape) .none kV_law_tape dc_law_tape pm_law_tape an_law_tape cd_law_tape ct_law_tape), sl_law_tape⟩) (c_law_tape : PySem.W.codeIn K cd_law_tape "_law_tape" = true) (k_law_tape : PySem.W.keepIn K (.ref f_law_tape) = true)
    (a_law_body : PySem.W.nsIn K mainGlobals "_law_body" = some (some (.ref f_law_body))) (l_law_body : K.lookup f_law_body = some ⟨oc_law_body, od_law_body, .func (PySem.W.fnOf "_law_body" "_law_body" (defArgs s_law_body) (defBody s_law_body) (defScope s_law_body) .none kV_law_body dc_law_body pm_law_body an_law_body cd_law_body ct_law_body), sl_law_body⟩) (c_law_body : PySem.W.codeIn K cd_law_body "_law_body" = true) (k_law_body : PySem.W.keepIn K (.ref f_law_body) = true)
    (a_law_sizes : PySem.W.nsIn K mainGlobals "_law_sizes" = some (some (.ref f_law_sizes))) (l_law_sizes : K.lookup f_law_sizes = some ⟨oc_law_sizes, od_law_sizes, .func (PySem.W.fnOf "_law_sizes" "_law_sizes" (defArgs s_law_sizes) (defBody s_law_sizes) (defScope s_law_sizes) .none kV_law_sizes dc_law_sizes pm_law_sizes an_law_sizes cd_law_sizes ct_law_sizes), sl_law_sizes⟩) (c_law_sizes : PySem.W.codeIn K cd_law_sizes "_law_sizes" = true) (k_law_sizes : PySem.W.keepIn K (.ref f_law_sizes) = true)
    (a_law_behind_a_hint : PySem.W.nsIn K mainGlobals "_law_behind_a_hint" = some (some (.ref f_law_behind_a_hint))) (l_law_behind_a_hint : K.lookup f_law_behind_a_hint = some ⟨oc_law_behind_a_hint, od_law_behind_a_hint, .func (PySem.W.fnOf "_law_behind_a_hint" "_law_behind_a_hint" (defArgs s_law_behind_a_hint) (defBody s_law_behind_a_hint) (defScope s_law_behind_a_hint) .none kV_law_behind_a_hint dc_law_behind_a_hint pm_law_behind_a_hint an_law_behind_a_hint cd_law_behind_a_hint ct_law_behind_a_hint), sl_law_behind_a_hint⟩) (c_law_behind_a_hint : PySem.W.codeIn K cd_law_behind_a_hint "_law_behind_a_hint" = true) (k_law_behind_a_hint : PySem.W.keepIn K (.ref f_law_behind_a_hint) = true)
    (a_law : PySem.W.nsIn K mainGlobals "law" = some (some (.ref f_law))) (l_law : K.lookup f_law = some ⟨oc_law, od_law, .func (PySem.W.fnOf "law" "law" (defArgs s_law) (defBody s_law) (defScope s_law) .none kV_law dc_law pm_law an_law cd_law ct_law), sl_law⟩) (c_law : PySem.W.codeIn K cd_law "law" = true) (k_law : PySem.W.keepIn K (.ref f_law) = true)
    (z_len : PySem.W.nsIn K mainGlobals "len" = some none)
    (z_int : PySem.W.nsIn K mainGlobals "int" = some none)
    (z_list : PySem.W.nsIn K mainGlobals "list" = some none)
    (z_tuple : PySem.W.nsIn K mainGlobals "tuple" = some none)
    (z_range : PySem.W.nsIn K mainGlobals "range" = some none)
    (z_all : PySem.W.nsIn K mainGlobals "all" = some none)
    (z_any : PySem.W.nsIn K mainGlobals "any" = some none)
    (z_isinstance : PySem.W.nsIn K mainGlobals "isinstance" = some none)
    (z_bool : PySem.W.nsIn K mainGlobals "bool" = some none)
    (z_abs : PySem.W.nsIn K mainGlobals "abs" = some none)
    (z_set : PySem.W.nsIn K mainGlobals "set" = some none)
    (z_str : PySem.W.nsIn K mainGlobals "str" = some none)
    (z_sorted : PySem.W.nsIn K mainGlobals "sorted" = some none)
    (z_sum : PySem.W.nsIn K mainGlobals "sum" = some none)
    (z_min : PySem.W.nsIn K mainGlobals "min" = some none)
    (z_max : PySem.W.nsIn K mainGlobals "max" = some none)
    (z_zip : PySem.W.nsIn K mainGlobals "zip" = some none)
    (z_enumerate : PySem.W.nsIn K mainGlobals "enumerate" = some none)
    (z_dict : PySem.W.nsIn K mainGlobals "dict" = some none)
    {ac_LABEL_RULES : Addr} (w_LABEL_RULES : PySem.W.nsIn K mainGlobals "LABEL_RULES" = some (some (.ref ac_LABEL_RULES))) (v_LABEL_RULES : TupIn K ac_LABEL_RULES [.str (Str.ofString "given"), .str (Str.ofString "look"), .str (Str.ofString "apart"), .str (Str.ofString "then")])
    {v_COEFFICIENT_MOST : Value} (g_COEFFICIENT_MOST : PySem.W.nsIn K mainGlobals "COEFFICIENT_MOST" = some (some v_COEFFICIENT_MOST)) (r_COEFFICIENT_MOST : RelV (.int 1000000) v_COEFFICIENT_MOST)
    {v_SUM_MOST : Value} (g_SUM_MOST : PySem.W.nsIn K mainGlobals "SUM_MOST" = some (some v_SUM_MOST)) (r_SUM_MOST : RelV (.int 1000000000) v_SUM_MOST)
    {v_ENTRY_MOST : Value} (g_ENTRY_MOST : PySem.W.nsIn K mainGlobals "ENTRY_MOST" = some (some v_ENTRY_MOST)) (r_ENTRY_MOST : RelV (.int 1000) v_ENTRY_MOST)
    {v_LETTERS : Value} (g_LETTERS : PySem.W.nsIn K mainGlobals "LETTERS" = some (some v_LETTERS)) (r_LETTERS : RelV (.str (Str.ofString "abcdefghijklmnopqrstuvwxyz")) v_LETTERS)
    {v_DIGITS : Value} (g_DIGITS : PySem.W.nsIn K mainGlobals "DIGITS" = some (some v_DIGITS)) (r_DIGITS : RelV (.str (Str.ofString "0123456789")) v_DIGITS)
    {v_UNKNOWNS_MOST : Value} (g_UNKNOWNS_MOST : PySem.W.nsIn K mainGlobals "UNKNOWNS_MOST" = some (some v_UNKNOWNS_MOST)) (r_UNKNOWNS_MOST : RelV (.int 60) v_UNKNOWNS_MOST)
    {v_CONSTRAINTS_MOST : Value} (g_CONSTRAINTS_MOST : PySem.W.nsIn K mainGlobals "CONSTRAINTS_MOST" = some (some v_CONSTRAINTS_MOST)) (r_CONSTRAINTS_MOST : RelV (.int 200) v_CONSTRAINTS_MOST)
    {v_BOUND_MOST : Value} (g_BOUND_MOST : PySem.W.nsIn K mainGlobals "BOUND_MOST" = some (some v_BOUND_MOST)) (r_BOUND_MOST : RelV (.int 1000) v_BOUND_MOST)
    {v_COST_MOST : Value} (g_COST_MOST : PySem.W.nsIn K mainGlobals "COST_MOST" = some (some v_COST_MOST)) (r_COST_MOST : RelV (.int 400) v_COST_MOST)
    : ∃ fd : FuncData, (∀ (s : Shared) (v : Value), BindsTo s fd ⟨[v], []⟩ [("_law_script", v)]) ∧ ∀ base : Heap, K.In base → base.Ns mainGlobals mg → FnOk l.prog w K mg base CX0 9 fa fd ["_law_script"] ((spLaw K)) := by
  have e := hfa.symm.trans (PySem.W.mg_of X G a_law)
  cases e
  have B : Bi K mg C_Model := { n_len := PySem.W.mg_none_of X G z_len, n_int := PySem.W.mg_none_of X G z_int, n_list := PySem.W.mg_none_of X G z_list, n_tuple := PySem.W.mg_none_of X G z_tuple, n_range := PySem.W.mg_none_of X G z_range, n_all := PySem.W.mg_none_of X G z_all, n_any := PySem.W.mg_none_of X G z_any, n_isinstance := PySem.W.mg_none_of X G z_isinstance, n_bool := PySem.W.mg_none_of X G z_bool, n_abs := PySem.W.mg_none_of X G z_abs, n_set := PySem.W.mg_none_of X G z_set, n_str := PySem.W.mg_none_of X G z_str, n_sorted := PySem.W.mg_none_of X G z_sorted, n_sum := PySem.W.mg_none_of X G z_sum, n_min := PySem.W.mg_none_of X G z_min, n_max := PySem.W.mg_none_of X G z_max, n_zip := PySem.W.mg_none_of X G z_zip, n_enumerate := PySem.W.mg_none_of X G z_enumerate, n_dict := PySem.W.mg_none_of X G z_dict, c_COEFFICIENT_MOST := ⟨_, PySem.W.mg_of X G g_COEFFICIENT_MOST, r_COEFFICIENT_MOST⟩, c_SUM_MOST := ⟨_, PySem.W.mg_of X G g_SUM_MOST, r_SUM_MOST⟩, c_ENTRY_MOST := ⟨_, PySem.W.mg_of X G g_ENTRY_MOST, r_ENTRY_MOST⟩, c_LETTERS := ⟨_, PySem.W.mg_of X G g_LETTERS, r_LETTERS⟩, c_DIGITS := ⟨_, PySem.W.mg_of X G g_DIGITS, r_DIGITS⟩, c_UNKNOWNS_MOST := ⟨_, PySem.W.mg_of X G g_UNKNOWNS_MOST, r_UNKNOWNS_MOST⟩, c_CONSTRAINTS_MOST := ⟨_, PySem.W.mg_of X G g_CONSTRAINTS_MOST, r_CONSTRAINTS_MOST⟩, c_BOUND_MOST := ⟨_, PySem.W.mg_of X G g_BOUND_MOST, r_BOUND_MOST⟩, c_COST_MOST := ⟨_, PySem.W.mg_of X G g_COST_MOST, r_COST_MOST⟩, t_LABEL_RULES := ⟨_, PySem.W.mg_of X G w_LABEL_RULES, v_LABEL_RULES⟩, cl_Model := ⟨pg_Model, hd_Model, po_Model, sa_Model⟩, at_Model__names := n_Model__names, at_Model__lows := n_Model__lows, at_Model__highs := n_Model__highs, at_Model__bodies := n_Model__bodies, at_Model__goal := n_Model__goal }
  have F_relation_holds := fun_mk (st := s_relation_holds) l_relation_holds c_relation_holds k_relation_holds
  have b_relation_holds := F_relation_holds.binds (ps := ["relation", "left", "right"]) fun _ _ _ _ _ _ us hl => match us, hl with | [_, _, _], _ => rfl
  have F_literal_holds := fun_mk (st := s_literal_holds) l_literal_holds c_literal_holds k_literal_holds
  have b_literal_holds := F_literal_holds.binds (ps := ["literal", "worth"]) fun _ _ _ _ _ _ us hl => match us, hl with | [_, _], _ => rfl
  have F_negated := fun_mk (st := s_negated) l_negated c_negated k_negated
  have b_negated := F_negated.binds (ps := ["literal"]) fun _ _ _ _ _ _ us hl => match us, hl with | [_], _ => rfl
  have F_literal_implies := fun_mk (st := s_literal_implies) l_literal_implies c_literal_implies k_literal_implies
  have b_literal_implies := F_literal_implies.binds (ps := ["first", "second"]) fun _ _ _ _ _ _ us hl => match us, hl with | [_, _], _ => rfl
  have F_terms_sum := fun_mk (st := s_terms_sum) l_terms_sum c_terms_sum k_terms_sum
  have b_terms_sum := F_terms_sum.binds (ps := ["terms", "point"]) fun _ _ _ _ _ _ us hl => match us, hl with | [_, _], _ => rfl
  have F_negated_terms := fun_mk (st := s_negated_terms) l_negated_terms c_negated_terms k_negated_terms
  have b_negated_terms := F_negated_terms.binds (ps := ["terms"]) fun _ _ _ _ _ _ us hl => match us, hl with | [_], _ => rfl
  have F_rows_of := fun_mk (st := s_rows_of) l_rows_of c_rows_of k_rows_of
  have b_rows_of := F_rows_of.binds (ps := ["terms", "relation", "rhs"]) fun _ _ _ _ _ _ us hl => match us, hl with | [_, _, _], _ => rfl
  have F_fact_holds := fun_mk (st := s_fact_holds) l_fact_holds c_fact_holds k_fact_holds
  have b_fact_holds := F_fact_holds.binds (ps := ["fact", "point"]) fun _ _ _ _ _ _ us hl => match us, hl with | [_, _], _ => rfl
  have F_is_contradiction := fun_mk (st := s_is_contradiction) l_is_contradiction c_is_contradiction k_is_contradiction
  have b_is_contradiction := F_is_contradiction.binds (ps := ["fact"]) fun _ _ _ _ _ _ us hl => match us, hl with | [_], _ => rfl
  have F_as_row := fun_mk (st := s_as_row) l_as_row c_as_row k_as_row
  have b_as_row := F_as_row.binds (ps := ["fact"]) fun _ _ _ _ _ _ us hl => match us, hl with | [_], _ => rfl
  have F_as_literal := fun_mk (st := s_as_literal) l_as_literal c_as_literal k_as_literal
  have b_as_literal := F_as_literal.binds (ps := ["fact"]) fun _ _ _ _ _ _ us hl => match us, hl with | [_], _ => rfl
  have F_negation := fun_mk (st := s_negation) l_negation c_negation k_negation
  have b_negation := F_negation.binds (ps := ["fact"]) fun _ _ _ _ _ _ us hl => match us, hl with | [_], _ => rfl
  have F_literals_imply := fun_mk (st := s_literals_imply) l_literals_imply c_literals_imply k_literals_imply
  have b_literals_imply := F_literals_imply.binds (ps := ["first", "second"]) fun _ _ _ _ _ _ us hl => match us, hl with | [_, _], _ => rfl
  have F_implies := fun_mk (st := s_implies) l_implies c_implies k_implies
  have b_implies := F_implies.binds (ps := ["first", "second"]) fun _ _ _ _ _ _ us hl => match us, hl with | [_, _], _ => rfl
  have F_unknowns_in := fun_mk (st := s_unknowns_in) l_unknowns_in c_unknowns_in k_unknowns_in
  have b_unknowns_in := F_unknowns_in.binds (ps := ["fact"]) fun _ _ _ _ _ _ us hl => match us, hl with | [_], _ => rfl
  have F_full_domains := fun_mk (st := s_full_domains) l_full_domains c_full_domains k_full_domains
  have b_full_domains := F_full_domains.binds (ps := ["model", "unknowns"]) fun _ _ _ _ _ _ us hl => match us, hl with | [_, _], _ => rfl
  have F_drop_literals := fun_mk (st := s_drop_literals) l_drop_literals c_drop_literals k_drop_literals
  have b_drop_literals := F_drop_literals.binds (ps := ["domains", "literals"]) fun _ _ _ _ _ _ us hl => match us, hl with | [_, _], _ => rfl
  have F_keep_literal := fun_mk (st := s_keep_literal) l_keep_literal c_keep_literal k_keep_literal
  have b_keep_literal := F_keep_literal.binds (ps := ["domains", "literal"]) fun _ _ _ _ _ _ us hl => match us, hl with | [_, _], _ => rfl
  have F_least_of := fun_mk (st := s_least_of) l_least_of c_least_of k_least_of
  have b_least_of := F_least_of.binds (ps := ["c", "values"]) fun _ _ _ _ _ _ us hl => match us, hl with | [_, _], _ => rfl
  have F_apply_row := fun_mk (st := s_apply_row) l_apply_row c_apply_row k_apply_row
  have b_apply_row := F_apply_row.binds (ps := ["domains", "row"]) fun _ _ _ _ _ _ us hl => match us, hl with | [_, _], _ => rfl
  have F_live_literals := fun_mk (st := s_live_literals) l_live_literals c_live_literals k_live_literals
  have b_live_literals := F_live_literals.binds (ps := ["domains", "literals"]) fun _ _ _ _ _ _ us hl => match us, hl with | [_, _], _ => rfl
  have F_suppose_failing := fun_mk (st := s_suppose_failing) l_suppose_failing c_suppose_failing k_suppose_failing
  have b_suppose_failing := F_suppose_failing.binds (ps := ["domains", "fact"]) fun _ _ _ _ _ _ us hl => match us, hl with | [_, _], _ => rfl
  have F_ends_in_conflict := fun_mk (st := s_ends_in_conflict) l_ends_in_conflict c_ends_in_conflict k_ends_in_conflict
  have b_ends_in_conflict := F_ends_in_conflict.binds (ps := ["domains", "facts"]) fun _ _ _ _ _ _ us hl => match us, hl with | [_, _], _ => rfl
  have F_is_label := fun_mk (st := s_is_label) l_is_label c_is_label k_is_label
  have b_is_label := F_is_label.binds (ps := ["text"]) fun _ _ _ _ _ _ us hl => match us, hl with | [_], _ => rfl
  have F_unknowns_of := fun_mk (st := s_unknowns_of) l_unknowns_of c_unknowns_of k_unknowns_of
  have b_unknowns_of := F_unknowns_of.binds (ps := ["body"]) fun _ _ _ _ _ _ us hl => match us, hl with | [_], _ => rfl
  have F_body_holds := fun_mk (st := s_body_holds) l_body_holds c_body_holds k_body_holds
  have b_body_holds := F_body_holds.binds (ps := ["body", "point"]) fun _ _ _ _ _ _ us hl => match us, hl with | [_, _], _ => rfl
  have F_terms_fit := fun_mk (st := s_terms_fit) l_terms_fit c_terms_fit k_terms_fit
  have b_terms_fit := F_terms_fit.binds (ps := ["terms", "many"]) fun _ _ _ _ _ _ us hl => match us, hl with | [_, _], _ => rfl
  have F_literal_fits := fun_mk (st := s_literal_fits) l_literal_fits c_literal_fits k_literal_fits
  have b_literal_fits := F_literal_fits.binds (ps := ["literal", "many"]) fun _ _ _ _ _ _ us hl => match us, hl with | [_, _], _ => rfl
  have F_linear_fits := fun_mk (st := s_linear_fits) l_linear_fits c_linear_fits k_linear_fits
  have b_linear_fits := F_linear_fits.binds (ps := ["terms", "relation", "rhs", "many"]) fun _ _ _ _ _ _ us hl => match us, hl with | [_, _, _, _], _ => rfl
  have F_distinct_fit := fun_mk (st := s_distinct_fit) l_distinct_fit c_distinct_fit k_distinct_fit
  have b_distinct_fit := F_distinct_fit.binds (ps := ["numbers", "least", "most", "many"]) fun _ _ _ _ _ _ us hl => match us, hl with | [_, _, _, _], _ => rfl
  have F_entries_fit := fun_mk (st := s_entries_fit) l_entries_fit c_entries_fit k_entries_fit
  have b_entries_fit := F_entries_fit.binds (ps := ["entries"]) fun _ _ _ _ _ _ us hl => match us, hl with | [_], _ => rfl
  have F_any_fits := fun_mk (st := s_any_fits) l_any_fits c_any_fits k_any_fits
  have b_any_fits := F_any_fits.binds (ps := ["literals", "many"]) fun _ _ _ _ _ _ us hl => match us, hl with | [_, _], _ => rfl
  have F_table_fits := fun_mk (st := s_table_fits) l_table_fits c_table_fits k_table_fits
  have b_table_fits := F_table_fits.binds (ps := ["numbers", "rows", "many"]) fun _ _ _ _ _ _ us hl => match us, hl with | [_, _, _], _ => rfl
  have F_body_fits := fun_mk (st := s_body_fits) l_body_fits c_body_fits k_body_fits
  have b_body_fits := F_body_fits.binds (ps := ["body", "many"]) fun _ _ _ _ _ _ us hl => match us, hl with | [_, _], _ => rfl
  have F_cost_of := fun_mk (st := s_cost_of) l_cost_of c_cost_of k_cost_of
  have b_cost_of := F_cost_of.binds (ps := ["body", "domains"]) fun _ _ _ _ _ _ us hl => match us, hl with | [_, _], _ => rfl
  have F_look_cost := fun_mk (st := s_look_cost) l_look_cost c_look_cost k_look_cost
  have b_look_cost := F_look_cost.binds (ps := ["model", "body", "fact"]) fun _ _ _ _ _ _ us hl => match us, hl with | [_, _, _], _ => rfl
  have F_wider := fun_mk (st := s_wider) l_wider c_wider k_wider
  have b_wider := F_wider.binds (ps := ["choices", "v", "values"]) fun _ _ _ _ _ _ us hl => match us, hl with | [_, _, _], _ => rfl
  have F_all_choices := fun_mk (st := s_all_choices) l_all_choices c_all_choices k_all_choices
  have b_all_choices := F_all_choices.binds (ps := ["unknowns", "domains"]) fun _ _ _ _ _ _ us hl => match us, hl with | [_, _], _ => rfl
  have F_with_result := fun_mk (st := s_with_result) l_with_result c_with_result k_with_result
  have b_with_result := F_with_result.binds (ps := ["choice", "z", "worth", "domains"]) fun _ _ _ _ _ _ us hl => match us, hl with | [_, _, _, _], _ => rfl
  have F_table_choices := fun_mk (st := s_table_choices) l_table_choices c_table_choices k_table_choices
  have b_table_choices := F_table_choices.binds (ps := ["body", "domains"]) fun _ _ _ _ _ _ us hl => match us, hl with | [_, _], _ => rfl
  have F_result_choices := fun_mk (st := s_result_choices) l_result_choices c_result_choices k_result_choices
  have b_result_choices := F_result_choices.binds (ps := ["body", "domains"]) fun _ _ _ _ _ _ us hl => match us, hl with | [_, _], _ => rfl
  have F_body_choices := fun_mk (st := s_body_choices) l_body_choices c_body_choices k_body_choices
  have b_body_choices := F_body_choices.binds (ps := ["body", "domains"]) fun _ _ _ _ _ _ us hl => match us, hl with | [_, _], _ => rfl
  have F_premises_of := fun_mk (st := s_premises_of) l_premises_of c_premises_of k_premises_of
  have b_premises_of := F_premises_of.binds (ps := ["step"]) fun _ _ _ _ _ _ us hl => match us, hl with | [_], _ => rfl
  have F_known := fun_mk (st := s_known) l_known c_known k_known
  have b_known := F_known.binds (ps := ["model", "entries", "step"]) fun _ _ _ _ _ _ us hl => match us, hl with | [_, _, _], _ => rfl
  have F_follows_bound := fun_mk (st := s_follows_bound) l_follows_bound c_follows_bound k_follows_bound
  have b_follows_bound := F_follows_bound.binds (ps := ["model", "fact", "v"]) fun _ _ _ _ _ _ us hl => match us, hl with | [_, _, _], _ => rfl
  have F_follows_given := fun_mk (st := s_follows_given) l_follows_given c_follows_given k_follows_given
  have b_follows_given := F_follows_given.binds (ps := ["body", "fact"]) fun _ _ _ _ _ _ us hl => match us, hl with | [_, _], _ => rfl
  have F_follows_sum := fun_mk (st := s_follows_sum) l_follows_sum c_follows_sum k_follows_sum
  have b_follows_sum := F_follows_sum.binds (ps := ["entries", "fact", "pairs"]) fun _ _ _ _ _ _ us hl => match us, hl with | [_, _, _], _ => rfl
  have F_follows_divide := fun_mk (st := s_follows_divide) l_follows_divide c_follows_divide k_follows_divide
  have b_follows_divide := F_follows_divide.binds (ps := ["fact", "premise", "d"]) fun _ _ _ _ _ _ us hl => match us, hl with | [_, _, _], _ => rfl
  have F_follows_look := fun_mk (st := s_follows_look) l_follows_look c_follows_look k_follows_look
  have b_follows_look := F_follows_look.binds (ps := ["model", "body", "fact", "hints"]) fun _ _ _ _ _ _ us hl => match us, hl with | [_, _, _, _], _ => rfl
  have F_follows_apart := fun_mk (st := s_follows_apart) l_follows_apart c_follows_apart k_follows_apart
  have b_follows_apart := F_follows_apart.binds (ps := ["body", "fact"]) fun _ _ _ _ _ _ us hl => match us, hl with | [_, _], _ => rfl
  have F_follows_then := fun_mk (st := s_follows_then) l_follows_then c_follows_then k_follows_then
  have b_follows_then := F_follows_then.binds (ps := ["body", "fact", "premise"]) fun _ _ _ _ _ _ us hl => match us, hl with | [_, _, _], _ => rfl
  have F_follows_unit := fun_mk (st := s_follows_unit) l_follows_unit c_follows_unit k_follows_unit
  have b_follows_unit := F_follows_unit.binds (ps := ["model", "fact", "facts"]) fun _ _ _ _ _ _ us hl => match us, hl with | [_, _, _], _ => rfl
  have F_follows_cases := fun_mk (st := s_follows_cases) l_follows_cases c_follows_cases k_follows_cases
  have b_follows_cases := F_follows_cases.binds (ps := ["entries", "step"]) fun _ _ _ _ _ _ us hl => match us, hl with | [_, _], _ => rfl
  have F_follows_label := fun_mk (st := s_follows_label) l_follows_label c_follows_label k_follows_label
  have b_follows_label := F_follows_label.binds (ps := ["model", "entries", "step"]) fun _ _ _ _ _ _ us hl => match us, hl with | [_, _, _], _ => rfl
  have F_follows := fun_mk (st := s_follows) l_follows c_follows k_follows
  have b_follows := F_follows.binds (ps := ["model", "entries", "step"]) fun _ _ _ _ _ _ us hl => match us, hl with | [_, _, _], _ => rfl
  have F_bounds_fit := fun_mk (st := s_bounds_fit) l_bounds_fit c_bounds_fit k_bounds_fit
  have b_bounds_fit := F_bounds_fit.binds (ps := ["low", "high"]) fun _ _ _ _ _ _ us hl => match us, hl with | [_, _], _ => rfl
  have F_Model___init__ := fun_mk (st := s_Model___init__) l_Model___init__ c_Model___init__ k_Model___init__
  have b_Model___init__ := F_Model___init__.binds (ps := ["self", "unknowns"]) fun _ _ _ _ _ _ us hl => match us, hl with | [_, _], _ => rfl
  have F_Model__need := fun_mk (st := s_Model__need) l_Model__need c_Model__need k_Model__need
  have b_Model__need := F_Model__need.binds (ps := ["self", "v"]) fun _ _ _ _ _ _ us hl => match us, hl with | [_, _], _ => rfl
  have F_Model_many := fun_mk (st := s_Model_many) l_Model_many c_Model_many k_Model_many
  have b_Model_many := F_Model_many.binds (ps := ["self"]) fun _ _ _ _ _ _ us hl => match us, hl with | [_], _ => rfl
  have F_Model_low := fun_mk (st := s_Model_low) l_Model_low c_Model_low k_Model_low
  have b_Model_low := F_Model_low.binds (ps := ["self", "v"]) fun _ _ _ _ _ _ us hl => match us, hl with | [_, _], _ => rfl
  have F_Model_high := fun_mk (st := s_Model_high) l_Model_high c_Model_high k_Model_high
  have b_Model_high := F_Model_high.binds (ps := ["self", "v"]) fun _ _ _ _ _ _ us hl => match us, hl with | [_, _], _ => rfl
  have F_Model_has := fun_mk (st := s_Model_has) l_Model_has c_Model_has k_Model_has
  have b_Model_has := F_Model_has.binds (ps := ["self", "label"]) fun _ _ _ _ _ _ us hl => match us, hl with | [_, _], _ => rfl
  have F_Model_body := fun_mk (st := s_Model_body) l_Model_body c_Model_body k_Model_body
  have b_Model_body := F_Model_body.binds (ps := ["self", "label"]) fun _ _ _ _ _ _ us hl => match us, hl with | [_, _], _ => rfl
  have F_Model_put := fun_mk (st := s_Model_put) l_Model_put c_Model_put k_Model_put
  have b_Model_put := F_Model_put.binds (ps := ["self", "label", "body"]) fun _ _ _ _ _ _ us hl => match us, hl with | [_, _, _], _ => rfl
  have F_law_same := fun_mk (st := s_law_same) l_law_same c_law_same k_law_same
  have b_law_same := F_law_same.binds (ps := ["_law_told", "_law_due"]) fun _ _ _ _ _ _ us hl => match us, hl with | [_, _], _ => rfl
  have F_law_draw := fun_mk (st := s_law_draw) l_law_draw c_law_draw k_law_draw
  have b_law_draw := F_law_draw.binds (ps := ["_law_tape_here", "_law_many"]) fun _ _ _ _ _ _ us hl => match us, hl with | [_, _], _ => rfl
  have F_law_tape := fun_mk (st := s_law_tape) l_law_tape c_law_tape k_law_tape
  have b_law_tape := F_law_tape.binds (ps := ["_law_script"]) fun _ _ _ _ _ _ us hl => match us, hl with | [_], _ => rfl
  have F_law_body := fun_mk (st := s_law_body) l_law_body c_law_body k_law_body
  have b_law_body := F_law_body.binds (ps := ["_law_tape_here"]) fun _ _ _ _ _ _ us hl => match us, hl with | [_], _ => rfl
  have F_law_sizes := fun_mk (st := s_law_sizes) l_law_sizes c_law_sizes k_law_sizes
  have b_law_sizes := F_law_sizes.binds (ps := ["_law_tape_here"]) fun _ _ _ _ _ _ us hl => match us, hl with | [_], _ => rfl
  have F_law_behind_a_hint := fun_mk (st := s_law_behind_a_hint) l_law_behind_a_hint c_law_behind_a_hint k_law_behind_a_hint
  have b_law_behind_a_hint := F_law_behind_a_hint.binds (ps := ["_law_tape_here", "_law_model", "_law_body_here", "_law_counted", "_law_sizes_here"]) fun _ _ _ _ _ _ us hl => match us, hl with | [_, _, _, _, _], _ => rfl
  refine ⟨PySem.W.fnOf "law" "law" (defArgs s_law) (defBody s_law) (defScope s_law) .none kV_law dc_law pm_law an_law cd_law ct_law, fun s v => .of_eq rfl, fun base _ _ => ?_⟩
  have D_relation_holds : Is l.prog w K mg base CX0 1 "relation_holds" ["relation", "left", "right"] spRel := ⟨_, _, ok_relation_holds F_relation_holds B , PySem.W.mg_of X G a_relation_holds, k_relation_holds, b_relation_holds⟩
  have D_literal_holds : Is l.prog w K mg base CX0 2 "literal_holds" ["literal", "worth"] (spLit K) := ⟨_, _, ok_literal_holds F_literal_holds B D_relation_holds, PySem.W.mg_of X G a_literal_holds, k_literal_holds, b_literal_holds⟩
  have D_negated : Is l.prog w K mg base CX0 1 "negated" ["literal"] (spNeg K) := ⟨_, _, ok_negated F_negated B , PySem.W.mg_of X G a_negated, k_negated, b_negated⟩
  have D_literal_implies : Is l.prog w K mg base CX0 2 "literal_implies" ["first", "second"] (spImp K) := ⟨_, _, ok_literal_implies F_literal_implies B D_relation_holds, PySem.W.mg_of X G a_literal_implies, k_literal_implies, b_literal_implies⟩
  have D_terms_sum : Is l.prog w K mg base CX0 1 "terms_sum" ["terms", "point"] (spSumF K) := ⟨_, _, ok_terms_sum F_terms_sum B , PySem.W.mg_of X G a_terms_sum, k_terms_sum, b_terms_sum⟩
  have D_negated_terms : Is l.prog w K mg base CX0 1 "negated_terms" ["terms"] (spNegT K) := ⟨_, _, ok_negated_terms F_negated_terms B , PySem.W.mg_of X G a_negated_terms, k_negated_terms, b_negated_terms⟩
  have D_rows_of : Is l.prog w K mg base CX0 2 "rows_of" ["terms", "relation", "rhs"] (spRowsOf K) := ⟨_, _, ok_rows_of F_rows_of B D_negated_terms, PySem.W.mg_of X G a_rows_of, k_rows_of, b_rows_of⟩
  have D_fact_holds : Is l.prog w K mg base CX0 3 "fact_holds" ["fact", "point"] (spTrue K) := ⟨_, _, ok_fact_holds F_fact_holds B D_terms_sum D_literal_holds, PySem.W.mg_of X G a_fact_holds, k_fact_holds, b_fact_holds⟩
  have D_is_contradiction : Is l.prog w K mg base CX0 1 "is_contradiction" ["fact"] (spCon K) := ⟨_, _, ok_is_contradiction F_is_contradiction B , PySem.W.mg_of X G a_is_contradiction, k_is_contradiction, b_is_contradiction⟩
  have D_as_row : Is l.prog w K mg base CX0 1 "as_row" ["fact"] (spAsRow K) := ⟨_, _, ok_as_row F_as_row B , PySem.W.mg_of X G a_as_row, k_as_row, b_as_row⟩
  have D_as_literal : Is l.prog w K mg base CX0 1 "as_literal" ["fact"] (spAsLit K) := ⟨_, _, ok_as_literal F_as_literal B , PySem.W.mg_of X G a_as_literal, k_as_literal, b_as_literal⟩
  have D_negation : Is l.prog w K mg base CX0 2 "negation" ["fact"] (spNegF K) := ⟨_, _, ok_negation F_negation B D_negated_terms D_negated, PySem.W.mg_of X G a_negation, k_negation, b_negation⟩
  have D_literals_imply : Is l.prog w K mg base CX0 3 "literals_imply" ["first", "second"] (spImpl K litsImp) := ⟨_, _, ok_literals_imply F_literals_imply B D_as_literal D_literal_implies, PySem.W.mg_of X G a_literals_imply, k_literals_imply, b_literals_imply⟩
  have D_implies : Is l.prog w K mg base CX0 4 "implies" ["first", "second"] (spImpl K implF) := ⟨_, _, ok_implies F_implies B D_is_contradiction D_literals_imply D_as_row, PySem.W.mg_of X G a_implies, k_implies, b_implies⟩
  have D_unknowns_in : Is l.prog w K mg base CX0 1 "unknowns_in" ["fact"] (spUnkIn K) := ⟨_, _, ok_unknowns_in F_unknowns_in B , PySem.W.mg_of X G a_unknowns_in, k_unknowns_in, b_unknowns_in⟩
  have D_Model__need : IsM l.prog w K mg base CX0 1 C_Model "_need" ["self", "v"] (spNeed K C_Model) := ⟨⟨_, _, ok_Model__need F_Model__need B , ⟨a_Model__need, i_Model__need, k_Model__need⟩, b_Model__need⟩, B.cl_Model⟩
  have D_Model_low : IsM l.prog w K mg base CX0 2 C_Model "low" ["self", "v"] (spLow K C_Model) := ⟨⟨_, _, ok_Model_low F_Model_low B D_Model__need, ⟨a_Model_low, i_Model_low, k_Model_low⟩, b_Model_low⟩, B.cl_Model⟩
  have D_Model_high : IsM l.prog w K mg base CX0 2 C_Model "high" ["self", "v"] (spHigh K C_Model) := ⟨⟨_, _, ok_Model_high F_Model_high B D_Model__need, ⟨a_Model_high, i_Model_high, k_Model_high⟩, b_Model_high⟩, B.cl_Model⟩
  have D_full_domains : Is l.prog w K mg base CX0 3 "full_domains" ["model", "unknowns"] (spFullD K C_Model) := ⟨_, _, ok_full_domains F_full_domains B D_Model_low D_Model_high, PySem.W.mg_of X G a_full_domains, k_full_domains, b_full_domains⟩
  have D_drop_literals : Is l.prog w K mg base CX0 3 "drop_literals" ["domains", "literals"] (spDropL K) := ⟨_, _, ok_drop_literals F_drop_literals B D_literal_holds, PySem.W.mg_of X G a_drop_literals, k_drop_literals, b_drop_literals⟩
  have D_keep_literal : Is l.prog w K mg base CX0 3 "keep_literal" ["domains", "literal"] (spKeepL K) := ⟨_, _, ok_keep_literal F_keep_literal B D_literal_holds, PySem.W.mg_of X G a_keep_literal, k_keep_literal, b_keep_literal⟩
  have D_least_of : Is l.prog w K mg base CX0 1 "least_of" ["c", "values"] (spLeast K) := ⟨_, _, ok_least_of F_least_of B , PySem.W.mg_of X G a_least_of, k_least_of, b_least_of⟩
  have D_apply_row : Is l.prog w K mg base CX0 2 "apply_row" ["domains", "row"] (spApplyR K) := ⟨_, _, ok_apply_row F_apply_row B D_least_of, PySem.W.mg_of X G a_apply_row, k_apply_row, b_apply_row⟩
  have D_live_literals : Is l.prog w K mg base CX0 3 "live_literals" ["domains", "literals"] (spLive K) := ⟨_, _, ok_live_literals F_live_literals B D_literal_holds, PySem.W.mg_of X G a_live_literals, k_live_literals, b_live_literals⟩
  have D_suppose_failing : Is l.prog w K mg base CX0 4 "suppose_failing" ["domains", "fact"] (spSuppose K) := ⟨_, _, ok_suppose_failing F_suppose_failing B D_apply_row D_drop_literals D_negation, PySem.W.mg_of X G a_suppose_failing, k_suppose_failing, b_suppose_failing⟩
  have D_ends_in_conflict : Is l.prog w K mg base CX0 4 "ends_in_conflict" ["domains", "facts"] (spEnds K) := ⟨_, _, ok_ends_in_conflict F_ends_in_conflict B D_live_literals D_keep_literal D_apply_row, PySem.W.mg_of X G a_ends_in_conflict, k_ends_in_conflict, b_ends_in_conflict⟩
  have D_is_label : Is l.prog w K mg base CX0 1 "is_label" ["text"] spLabel := ⟨_, _, ok_is_label F_is_label B , PySem.W.mg_of X G a_is_label, k_is_label, b_is_label⟩
  have D_unknowns_of : Is l.prog w K mg base CX0 1 "unknowns_of" ["body"] (spUnkn K) := ⟨_, _, ok_unknowns_of F_unknowns_of B , PySem.W.mg_of X G a_unknowns_of, k_unknowns_of, b_unknowns_of⟩
  have D_body_holds : Is l.prog w K mg base CX0 3 "body_holds" ["body", "point"] (spHolds K) := ⟨_, _, ok_body_holds F_body_holds B D_relation_holds D_terms_sum D_literal_holds, PySem.W.mg_of X G a_body_holds, k_body_holds, b_body_holds⟩
  have D_terms_fit : Is l.prog w K mg base CX0 1 "terms_fit" ["terms", "many"] (spTmFit K) := ⟨_, _, ok_terms_fit F_terms_fit B , PySem.W.mg_of X G a_terms_fit, k_terms_fit, b_terms_fit⟩
  have D_literal_fits : Is l.prog w K mg base CX0 1 "literal_fits" ["literal", "many"] (spLitFit K) := ⟨_, _, ok_literal_fits F_literal_fits B , PySem.W.mg_of X G a_literal_fits, k_literal_fits, b_literal_fits⟩
  have D_linear_fits : Is l.prog w K mg base CX0 2 "linear_fits" ["terms", "relation", "rhs", "many"] (spLinFit K) := ⟨_, _, ok_linear_fits F_linear_fits B D_terms_fit, PySem.W.mg_of X G a_linear_fits, k_linear_fits, b_linear_fits⟩
  have D_distinct_fit : Is l.prog w K mg base CX0 1 "distinct_fit" ["numbers", "least", "most", "many"] (spDistinct K) := ⟨_, _, ok_distinct_fit F_distinct_fit B , PySem.W.mg_of X G a_distinct_fit, k_distinct_fit, b_distinct_fit⟩
  have D_entries_fit : Is l.prog w K mg base CX0 1 "entries_fit" ["entries"] (spEntries K) := ⟨_, _, ok_entries_fit F_entries_fit B , PySem.W.mg_of X G a_entries_fit, k_entries_fit, b_entries_fit⟩
  have D_any_fits : Is l.prog w K mg base CX0 2 "any_fits" ["literals", "many"] (spAnyFits K) := ⟨_, _, ok_any_fits F_any_fits B D_literal_fits, PySem.W.mg_of X G a_any_fits, k_any_fits, b_any_fits⟩
  have D_table_fits : Is l.prog w K mg base CX0 2 "table_fits" ["numbers", "rows", "many"] (spTableFits K) := ⟨_, _, ok_table_fits F_table_fits B D_distinct_fit D_entries_fit, PySem.W.mg_of X G a_table_fits, k_table_fits, b_table_fits⟩
  have D_body_fits : Is l.prog w K mg base CX0 3 "body_fits" ["body", "many"] (spBodyFits K) := ⟨_, _, ok_body_fits F_body_fits B D_linear_fits D_any_fits D_distinct_fit D_table_fits D_literal_fits D_entries_fit, PySem.W.mg_of X G a_body_fits, k_body_fits, b_body_fits⟩
  have D_cost_of : Is l.prog w K mg base CX0 2 "cost_of" ["body", "domains"] (spCostOf K) := ⟨_, _, ok_cost_of F_cost_of B D_unknowns_of, PySem.W.mg_of X G a_cost_of, k_cost_of, b_cost_of⟩
  have D_look_cost : Is l.prog w K mg base CX0 4 "look_cost" ["model", "body", "fact"] (spLookCost K C_Model) := ⟨_, _, ok_look_cost F_look_cost B D_full_domains D_cost_of D_unknowns_of D_drop_literals, PySem.W.mg_of X G a_look_cost, k_look_cost, b_look_cost⟩
  have D_wider : Is l.prog w K mg base CX0 1 "wider" ["choices", "v", "values"] (spWider K) := ⟨_, _, ok_wider F_wider B , PySem.W.mg_of X G a_wider, k_wider, b_wider⟩
  have D_all_choices : Is l.prog w K mg base CX0 2 "all_choices" ["unknowns", "domains"] (spAllCh K) := ⟨_, _, ok_all_choices F_all_choices B D_wider, PySem.W.mg_of X G a_all_choices, k_all_choices, b_all_choices⟩
  have D_with_result : Is l.prog w K mg base CX0 1 "with_result" ["choice", "z", "worth", "domains"] (spWithR K) := ⟨_, _, ok_with_result F_with_result B , PySem.W.mg_of X G a_with_result, k_with_result, b_with_result⟩
  have D_table_choices : Is l.prog w K mg base CX0 1 "table_choices" ["body", "domains"] (spBodyCh K isTab) := ⟨_, _, ok_table_choices F_table_choices B , PySem.W.mg_of X G a_table_choices, k_table_choices, b_table_choices⟩
  have D_result_choices : Is l.prog w K mg base CX0 3 "result_choices" ["body", "domains"] (spBodyCh K isRes) := ⟨_, _, ok_result_choices F_result_choices B D_all_choices D_with_result, PySem.W.mg_of X G a_result_choices, k_result_choices, b_result_choices⟩
  have D_body_choices : Is l.prog w K mg base CX0 4 "body_choices" ["body", "domains"] (spBodyCh K (fun _ => True)) := ⟨_, _, ok_body_choices F_body_choices B D_table_choices D_result_choices D_all_choices D_body_holds D_unknowns_of, PySem.W.mg_of X G a_body_choices, k_body_choices, b_body_choices⟩
  have D_premises_of : Is l.prog w K mg base CX0 1 "premises_of" ["step"] (spPrem K) := ⟨_, _, ok_premises_of F_premises_of B , PySem.W.mg_of X G a_premises_of, k_premises_of, b_premises_of⟩
  have D_Model_has : IsM l.prog w K mg base CX0 1 C_Model "has" ["self", "label"] (spHas K C_Model) := ⟨⟨_, _, ok_Model_has F_Model_has B , ⟨a_Model_has, i_Model_has, k_Model_has⟩, b_Model_has⟩, B.cl_Model⟩
  have D_Model_many : IsM l.prog w K mg base CX0 1 C_Model "many" ["self"] (spMany K C_Model) := ⟨⟨_, _, ok_Model_many F_Model_many B , ⟨a_Model_many, i_Model_many, k_Model_many⟩, b_Model_many⟩, B.cl_Model⟩
  have D_known : Is l.prog w K mg base CX0 2 "known" ["model", "entries", "step"] (spKnown K C_Model) := ⟨_, _, ok_known F_known B D_premises_of D_Model_has D_Model_many D_unknowns_in, PySem.W.mg_of X G a_known, k_known, b_known⟩
  have D_follows_bound : Is l.prog w K mg base CX0 3 "follows_bound" ["model", "fact", "v"] (spBound K C_Model) := ⟨_, _, ok_follows_bound F_follows_bound B D_Model_high D_Model_many D_Model_low, PySem.W.mg_of X G a_follows_bound, k_follows_bound, b_follows_bound⟩
  have D_follows_given : Is l.prog w K mg base CX0 3 "follows_given" ["body", "fact"] (spGiven K) := ⟨_, _, ok_follows_given F_follows_given B D_rows_of, PySem.W.mg_of X G a_follows_given, k_follows_given, b_follows_given⟩
  have D_follows_sum : Is l.prog w K mg base CX0 2 "follows_sum" ["entries", "fact", "pairs"] (spSum K) := ⟨_, _, ok_follows_sum F_follows_sum B D_as_row, PySem.W.mg_of X G a_follows_sum, k_follows_sum, b_follows_sum⟩
  have D_follows_divide : Is l.prog w K mg base CX0 2 "follows_divide" ["fact", "premise", "d"] (spDivide K) := ⟨_, _, ok_follows_divide F_follows_divide B D_as_row, PySem.W.mg_of X G a_follows_divide, k_follows_divide, b_follows_divide⟩
  have D_follows_look : Is l.prog w K mg base CX0 5 "follows_look" ["model", "body", "fact", "hints"] (spLook K C_Model) := ⟨_, _, ok_follows_look F_follows_look B D_unknowns_of D_full_domains D_body_choices D_as_literal D_cost_of D_drop_literals D_keep_literal D_fact_holds D_unknowns_in, PySem.W.mg_of X G a_follows_look, k_follows_look, b_follows_look⟩
  have D_follows_apart : Is l.prog w K mg base CX0 1 "follows_apart" ["body", "fact"] (spApart K) := ⟨_, _, ok_follows_apart F_follows_apart B , PySem.W.mg_of X G a_follows_apart, k_follows_apart, b_follows_apart⟩
  have D_follows_then : Is l.prog w K mg base CX0 5 "follows_then" ["body", "fact", "premise"] (spThen K) := ⟨_, _, ok_follows_then F_follows_then B D_rows_of D_implies, PySem.W.mg_of X G a_follows_then, k_follows_then, b_follows_then⟩
  have D_follows_unit : Is l.prog w K mg base CX0 5 "follows_unit" ["model", "fact", "facts"] (spUnit K C_Model) := ⟨_, _, ok_follows_unit F_follows_unit B D_unknowns_in D_full_domains D_ends_in_conflict D_suppose_failing, PySem.W.mg_of X G a_follows_unit, k_follows_unit, b_follows_unit⟩
  have D_follows_cases : Is l.prog w K mg base CX0 5 "follows_cases" ["entries", "step"] (spCasesE K) := ⟨_, _, ok_follows_cases F_follows_cases B D_negation D_implies, PySem.W.mg_of X G a_follows_cases, k_follows_cases, b_follows_cases⟩
  have D_Model_body : IsM l.prog w K mg base CX0 1 C_Model "body" ["self", "label"] (spBody K C_Model) := ⟨⟨_, _, ok_Model_body F_Model_body B , ⟨a_Model_body, i_Model_body, k_Model_body⟩, b_Model_body⟩, B.cl_Model⟩
  have D_follows_label : Is l.prog w K mg base CX0 6 "follows_label" ["model", "entries", "step"] (spLabelG K C_Model) := ⟨_, _, ok_follows_label F_follows_label B D_Model_body D_follows_then D_follows_given D_follows_look D_follows_apart, PySem.W.mg_of X G a_follows_label, k_follows_label, b_follows_label⟩
  have D_follows : Is l.prog w K mg base CX0 7 "follows" ["model", "entries", "step"] (spFollowsG K C_Model) := ⟨_, _, ok_follows F_follows B D_follows_label D_known D_follows_bound D_follows_sum D_follows_divide D_follows_unit D_follows_cases D_is_contradiction D_implies D_negation, PySem.W.mg_of X G a_follows, k_follows, b_follows⟩
  have D_bounds_fit : Is l.prog w K mg base CX0 1 "bounds_fit" ["low", "high"] spBounds := ⟨_, _, ok_bounds_fit F_bounds_fit B , PySem.W.mg_of X G a_bounds_fit, k_bounds_fit, b_bounds_fit⟩
  have D_Model___init__ : IsI l.prog w K mg base CX0 2 C_Model "Model" ["self", "unknowns"] (spInit K C_Model) := ⟨_, _, ok_Model___init__ F_Model___init__ B D_is_label D_bounds_fit, ⟨mk_Model, a_Model___init__, i_Model___init__, kc_Model⟩, b_Model___init__, PySem.W.mg_of X G a_Model⟩
  have D_Model_put : IsM l.prog w K mg base CX0 4 C_Model "put" ["self", "label", "body"] (spPut K C_Model) := ⟨⟨_, _, ok_Model_put F_Model_put B D_is_label D_body_fits, ⟨a_Model_put, i_Model_put, k_Model_put⟩, b_Model_put⟩, B.cl_Model⟩
  have D_law_same : Is l.prog w K mg base CX0 1 "_law_same" ["_law_told", "_law_due"] spSame := ⟨_, _, ok_law_same F_law_same B , PySem.W.mg_of X G a_law_same, k_law_same, b_law_same⟩
  have D_law_draw : Is l.prog w K mg base CX0 1 "_law_draw" ["_law_tape_here", "_law_many"] spDraw := ⟨_, _, ok_law_draw F_law_draw B , PySem.W.mg_of X G a_law_draw, k_law_draw, b_law_draw⟩
  have D_law_tape : Is l.prog w K mg base CX0 1 "_law_tape" ["_law_script"] (spTape K) := ⟨_, _, ok_law_tape F_law_tape B , PySem.W.mg_of X G a_law_tape, k_law_tape, b_law_tape⟩
  have D_law_body : Is l.prog w K mg base CX0 2 "_law_body" ["_law_tape_here"] (spBody21 K) := ⟨_, _, ok_law_body F_law_body B D_law_draw, PySem.W.mg_of X G a_law_body, k_law_body, b_law_body⟩
  have D_law_sizes : Is l.prog w K mg base CX0 2 "_law_sizes" ["_law_tape_here"] (spSizes K) := ⟨_, _, ok_law_sizes F_law_sizes B D_law_draw, PySem.W.mg_of X G a_law_sizes, k_law_sizes, b_law_sizes⟩
  have D_law_behind_a_hint : Is l.prog w K mg base CX0 8 "_law_behind_a_hint" ["_law_tape_here", "_law_model", "_law_body_here", "_law_counted", "_law_sizes_here"] (spBehind K C_Model) := ⟨_, _, ok_law_behind_a_hint F_law_behind_a_hint B D_law_draw D_follows D_law_same, PySem.W.mg_of X G a_law_behind_a_hint, k_law_behind_a_hint, b_law_behind_a_hint⟩
  exact ok_law (fun_mk (st := s_law) l_law c_law k_law) B D_law_tape D_law_sizes D_law_body D_Model___init__ D_Model_put D_look_cost D_law_draw D_law_same D_law_behind_a_hint D_follows
theorem walk {l : PySem.W.OpenLaw} {q : Program} {loose : List Str} {XP : (Str → Option Value) → Heap → Prop} {YP : World → Heap → Prop} {d : DefRec} {K : Params → PySem.W.Frag} (hn : l.most = some 63) (hdf : d.params.defaults = [])
    (hY : ∀ (w : World) (h : Heap), YP w h → (K w.params).In h)
    (F : ∀ (w : World) (mg : Str → Option Value) (fa : Addr) (h : Heap), (K w.params).In h → h.Ns mainGlobals mg → mg d.name = some (.ref fa) →
      ∃ fd : FuncData, (∀ (s : Shared) (u : Value), BindsTo s fd ⟨[u], []⟩ [("_law_script", u)]) ∧ ∀ base : Heap, (K w.params).In base → base.Ns mainGlobals mg → FnOk l.prog w (K w.params) mg base CX0 9 fa fd ["_law_script"] (spLaw (K w.params))) :
    PySem.W.WalkO q loose XP YP l.row.toRowW d [] (fun f vs => PySem.call f vs) :=
  L2.walk_of (n := 63) (k := 9) (x := "_law_script") (CX := fun _ => CX0) (sp := fun w => spLaw (K w.params)) hn (by decide) hdf ⟨rfl, by decide, by decide⟩ hY F (fun _ _ a ns hl _ hS => ⟨a, ns, rfl, hS, hl, fun _ => rfl⟩) fun _ _ _ _ _ z => z
end CG

open PySem PySem.W PyProof.Rows in
set_option maxRecDepth 100000 in
set_option maxHeartbeats 0 in
theorem PySem.Challenge.cw_commonground_k21_cost_of_a_look_holds : PySem.Challenge.rw_commonground_k21_cost_of_a_look.Holds := by
  w_on; o_law; k_head; (case hw => w_witness2)
  k_fill
  refine CG.walk (l := PySem.Challenge.rw_commonground_k21_cost_of_a_look) rfl rfl (fun w h Y => PySem.W.kIn_of Y) ?F
  case F =>
    intro w mg fa h KX G hmg
    refine' CG.all_mk KX G hmg ?a_Model ?pg_Model ?hd_Model ?po_Model ?sa_Model ?mk_Model ?kc_Model ?n_Model__names ?n_Model__lows ?n_Model__highs ?n_Model__bodies ?n_Model__goal ?a_relation_holds ?l_relation_holds ?c_relation_holds ?k_relation_holds ?a_literal_holds ?l_literal_holds ?c_literal_holds ?k_literal_holds ?a_negated ?l_negated ?c_negated ?k_negated ?a_literal_implies ?l_literal_implies ?c_literal_implies ?k_literal_implies ?a_terms_sum ?l_terms_sum ?c_terms_sum ?k_terms_sum ?a_negated_terms ?l_negated_terms ?c_negated_terms ?k_negated_terms ?a_rows_of ?l_rows_of ?c_rows_of ?k_rows_of ?a_fact_holds ?l_fact_holds ?c_fact_holds ?k_fact_holds ?a_is_contradiction ?l_is_contradiction ?c_is_contradiction ?k_is_contradiction ?a_as_row ?l_as_row ?c_as_row ?k_as_row ?a_as_literal ?l_as_literal ?c_as_literal ?k_as_literal ?a_negation ?l_negation ?c_negation ?k_negation ?a_literals_imply ?l_literals_imply ?c_literals_imply ?k_literals_imply ?a_implies ?l_implies ?c_implies ?k_implies ?a_unknowns_in ?l_unknowns_in ?c_unknowns_in ?k_unknowns_in ?a_full_domains ?l_full_domains ?c_full_domains ?k_full_domains ?a_drop_literals ?l_drop_literals ?c_drop_literals ?k_drop_literals ?a_keep_literal ?l_keep_literal ?c_keep_literal ?k_keep_literal ?a_least_of ?l_least_of ?c_least_of ?k_least_of ?a_apply_row ?l_apply_row ?c_apply_row ?k_apply_row ?a_live_literals ?l_live_literals ?c_live_literals ?k_live_literals ?a_suppose_failing ?l_suppose_failing ?c_suppose_failing ?k_suppose_failing ?a_ends_in_conflict ?l_ends_in_conflict ?c_ends_in_conflict ?k_ends_in_conflict ?a_is_label ?l_is_label ?c_is_label ?k_is_label ?a_unknowns_of ?l_unknowns_of ?c_unknowns_of ?k_unknowns_of ?a_body_holds ?l_body_holds ?c_body_holds ?k_body_holds ?a_terms_fit ?l_terms_fit ?c_terms_fit ?k_terms_fit ?a_literal_fits ?l_literal_fits ?c_literal_fits ?k_literal_fits ?a_linear_fits ?l_linear_fits ?c_linear_fits ?k_linear_fits ?a_distinct_fit ?l_distinct_fit ?c_distinct_fit ?k_distinct_fit ?a_entries_fit ?l_entries_fit ?c_entries_fit ?k_entries_fit ?a_any_fits ?l_any_fits ?c_any_fits ?k_any_fits ?a_table_fits ?l_table_fits ?c_table_fits ?k_table_fits ?a_body_fits ?l_body_fits ?c_body_fits ?k_body_fits ?a_cost_of ?l_cost_of ?c_cost_of ?k_cost_of ?a_look_cost ?l_look_cost ?c_look_cost ?k_look_cost ?a_wider ?l_wider ?c_wider ?k_wider ?a_all_choices ?l_all_choices ?c_all_choices ?k_all_choices ?a_with_result ?l_with_result ?c_with_result ?k_with_result ?a_table_choices ?l_table_choices ?c_table_choices ?k_table_choices ?a_result_choices ?l_result_choices ?c_result_choices ?k_result_choices ?a_body_choices ?l_body_choices ?c_body_choices ?k_body_choices ?a_premises_of ?l_premises_of ?c_premises_of ?k_premises_of ?a_known ?l_known ?c_known ?k_known ?a_follows_bound ?l_follows_bound ?c_follows_bound ?k_follows_bound ?a_follows_given ?l_follows_given ?c_follows_given ?k_follows_given ?a_follows_sum ?l_follows_sum ?c_follows_sum ?k_follows_sum ?a_follows_divide ?l_follows_divide ?c_follows_divide ?k_follows_divide ?a_follows_look ?l_follows_look ?c_follows_look ?k_follows_look ?a_follows_apart ?l_follows_apart ?c_follows_apart ?k_follows_apart ?a_follows_then ?l_follows_then ?c_follows_then ?k_follows_then ?a_follows_unit ?l_follows_unit ?c_follows_unit ?k_follows_unit ?a_follows_cases ?l_follows_cases ?c_follows_cases ?k_follows_cases ?a_follows_label ?l_follows_label ?c_follows_label ?k_follows_label ?a_follows ?l_follows ?c_follows ?k_follows ?a_bounds_fit ?l_bounds_fit ?c_bounds_fit ?k_bounds_fit ?a_Model___init__ ?i_Model___init__ ?l_Model___init__ ?c_Model___init__ ?k_Model___init__ ?a_Model__need ?i_Model__need ?l_Model__need ?c_Model__need ?k_Model__need ?a_Model_many ?i_Model_many ?l_Model_many ?c_Model_many ?k_Model_many ?a_Model_low ?i_Model_low ?l_Model_low ?c_Model_low ?k_Model_low ?a_Model_high ?i_Model_high ?l_Model_high ?c_Model_high ?k_Model_high ?a_Model_has ?i_Model_has ?l_Model_has ?c_Model_has ?k_Model_has ?a_Model_body ?i_Model_body ?l_Model_body ?c_Model_body ?k_Model_body ?a_Model_put ?i_Model_put ?l_Model_put ?c_Model_put ?k_Model_put ?a_law_same ?l_law_same ?c_law_same ?k_law_same ?a_law_draw ?l_law_draw ?c_law_draw ?k_law_draw ?a_law_tape ?l_law_tape ?c_law_tape ?k_law_tape ?a_law_body ?l_law_body ?c_law_body ?k_law_body ?a_law_sizes ?l_law_sizes ?c_law_sizes ?k_law_sizes ?a_law_behind_a_hint ?l_law_behind_a_hint ?c_law_behind_a_hint ?k_law_behind_a_hint ?a_law ?l_law ?c_law ?k_law ?z_len ?z_int ?z_list ?z_tuple ?z_range ?z_all ?z_any ?z_isinstance ?z_bool ?z_abs ?z_set ?z_str ?z_sorted ?z_sum ?z_min ?z_max ?z_zip ?z_enumerate ?z_dict ?w_LABEL_RULES ?v_LABEL_RULES ?g_COEFFICIENT_MOST ?r_COEFFICIENT_MOST ?g_SUM_MOST ?r_SUM_MOST ?g_ENTRY_MOST ?r_ENTRY_MOST ?g_LETTERS ?r_LETTERS ?g_DIGITS ?r_DIGITS ?g_UNKNOWNS_MOST ?r_UNKNOWNS_MOST ?g_CONSTRAINTS_MOST ?r_CONSTRAINTS_MOST ?g_BOUND_MOST ?r_BOUND_MOST ?g_COST_MOST ?r_COST_MOST
    (case a_Model => k_is)
    (case pg_Model => k_is)
    (case hd_Model => k_is)
    (case po_Model => k_is)
    (case sa_Model => k_is)
    (case mk_Model => k_is)
    (case kc_Model => k_is)
    (case n_Model__names => k_is)
    (case n_Model__lows => k_is)
    (case n_Model__highs => k_is)
    (case n_Model__bodies => k_is)
    (case n_Model__goal => k_is)
    (case a_relation_holds => k_is)
    (case l_relation_holds => k_is)
    (case c_relation_holds => k_is)
    (case k_relation_holds => k_is)
    (case a_literal_holds => k_is)
    (case l_literal_holds => k_is)
    (case c_literal_holds => k_is)
    (case k_literal_holds => k_is)
    (case a_negated => k_is)
    (case l_negated => k_is)
    (case c_negated => k_is)
    (case k_negated => k_is)
    (case a_literal_implies => k_is)
    (case l_literal_implies => k_is)
    (case c_literal_implies => k_is)
    (case k_literal_implies => k_is)
    (case a_terms_sum => k_is)
    (case l_terms_sum => k_is)
    (case c_terms_sum => k_is)
    (case k_terms_sum => k_is)
    (case a_negated_terms => k_is)
    (case l_negated_terms => k_is)
    (case c_negated_terms => k_is)
    (case k_negated_terms => k_is)
    (case a_rows_of => k_is)
    (case l_rows_of => k_is)
    (case c_rows_of => k_is)
    (case k_rows_of => k_is)
    (case a_fact_holds => k_is)
    (case l_fact_holds => k_is)
    (case c_fact_holds => k_is)
    (case k_fact_holds => k_is)
    (case a_is_contradiction => k_is)
    (case l_is_contradiction => k_is)
    (case c_is_contradiction => k_is)
    (case k_is_contradiction => k_is)
    (case a_as_row => k_is)
    (case l_as_row => k_is)
    (case c_as_row => k_is)
    (case k_as_row => k_is)
    (case a_as_literal => k_is)
    (case l_as_literal => k_is)
    (case c_as_literal => k_is)
    (case k_as_literal => k_is)
    (case a_negation => k_is)
    (case l_negation => k_is)
    (case c_negation => k_is)
    (case k_negation => k_is)
    (case a_literals_imply => k_is)
    (case l_literals_imply => k_is)
    (case c_literals_imply => k_is)
    (case k_literals_imply => k_is)
    (case a_implies => k_is)
    (case l_implies => k_is)
    (case c_implies => k_is)
    (case k_implies => k_is)
    (case a_unknowns_in => k_is)
    (case l_unknowns_in => k_is)
    (case c_unknowns_in => k_is)
    (case k_unknowns_in => k_is)
    (case a_full_domains => k_is)
    (case l_full_domains => k_is)
    (case c_full_domains => k_is)
    (case k_full_domains => k_is)
    (case a_drop_literals => k_is)
    (case l_drop_literals => k_is)
    (case c_drop_literals => k_is)
    (case k_drop_literals => k_is)
    (case a_keep_literal => k_is)
    (case l_keep_literal => k_is)
    (case c_keep_literal => k_is)
    (case k_keep_literal => k_is)
    (case a_least_of => k_is)
    (case l_least_of => k_is)
    (case c_least_of => k_is)
    (case k_least_of => k_is)
    (case a_apply_row => k_is)
    (case l_apply_row => k_is)
    (case c_apply_row => k_is)
    (case k_apply_row => k_is)
    (case a_live_literals => k_is)
    (case l_live_literals => k_is)
    (case c_live_literals => k_is)
    (case k_live_literals => k_is)
    (case a_suppose_failing => k_is)
    (case l_suppose_failing => k_is)
    (case c_suppose_failing => k_is)
    (case k_suppose_failing => k_is)
    (case a_ends_in_conflict => k_is)
    (case l_ends_in_conflict => k_is)
    (case c_ends_in_conflict => k_is)
    (case k_ends_in_conflict => k_is)
    (case a_is_label => k_is)
    (case l_is_label => k_is)
    (case c_is_label => k_is)
    (case k_is_label => k_is)
    (case a_unknowns_of => k_is)
    (case l_unknowns_of => k_is)
    (case c_unknowns_of => k_is)
    (case k_unknowns_of => k_is)
    (case a_body_holds => k_is)
    (case l_body_holds => k_is)
    (case c_body_holds => k_is)
    (case k_body_holds => k_is)
    (case a_terms_fit => k_is)
    (case l_terms_fit => k_is)
    (case c_terms_fit => k_is)
    (case k_terms_fit => k_is)
    (case a_literal_fits => k_is)
    (case l_literal_fits => k_is)
    (case c_literal_fits => k_is)
    (case k_literal_fits => k_is)
    (case a_linear_fits => k_is)
    (case l_linear_fits => k_is)
    (case c_linear_fits => k_is)
    (case k_linear_fits => k_is)
    (case a_distinct_fit => k_is)
    (case l_distinct_fit => k_is)
    (case c_distinct_fit => k_is)
    (case k_distinct_fit => k_is)
    (case a_entries_fit => k_is)
    (case l_entries_fit => k_is)
    (case c_entries_fit => k_is)
    (case k_entries_fit => k_is)
    (case a_any_fits => k_is)
    (case l_any_fits => k_is)
    (case c_any_fits => k_is)
    (case k_any_fits => k_is)
    (case a_table_fits => k_is)
    (case l_table_fits => k_is)
    (case c_table_fits => k_is)
    (case k_table_fits => k_is)
    (case a_body_fits => k_is)
    (case l_body_fits => k_is)
    (case c_body_fits => k_is)
    (case k_body_fits => k_is)
    (case a_cost_of => k_is)
    (case l_cost_of => k_is)
    (case c_cost_of => k_is)
    (case k_cost_of => k_is)
    (case a_look_cost => k_is)
    (case l_look_cost => k_is)
    (case c_look_cost => k_is)
    (case k_look_cost => k_is)
    (case a_wider => k_is)
    (case l_wider => k_is)
    (case c_wider => k_is)
    (case k_wider => k_is)
    (case a_all_choices => k_is)
    (case l_all_choices => k_is)
    (case c_all_choices => k_is)
    (case k_all_choices => k_is)
    (case a_with_result => k_is)
    (case l_with_result => k_is)
    (case c_with_result => k_is)
    (case k_with_result => k_is)
    (case a_table_choices => k_is)
    (case l_table_choices => k_is)
    (case c_table_choices => k_is)
    (case k_table_choices => k_is)
    (case a_result_choices => k_is)
    (case l_result_choices => k_is)
    (case c_result_choices => k_is)
    (case k_result_choices => k_is)
    (case a_body_choices => k_is)
    (case l_body_choices => k_is)
    (case c_body_choices => k_is)
    (case k_body_choices => k_is)
    (case a_premises_of => k_is)
    (case l_premises_of => k_is)
    (case c_premises_of => k_is)
    (case k_premises_of => k_is)
    (case a_known => k_is)
    (case l_known => k_is)
    (case c_known => k_is)
    (case k_known => k_is)
    (case a_follows_bound => k_is)
    (case l_follows_bound => k_is)
    (case c_follows_bound => k_is)
    (case k_follows_bound => k_is)
    (case a_follows_given => k_is)
    (case l_follows_given => k_is)
    (case c_follows_given => k_is)
    (case k_follows_given => k_is)
    (case a_follows_sum => k_is)
    (case l_follows_sum => k_is)
    (case c_follows_sum => k_is)
    (case k_follows_sum => k_is)
    (case a_follows_divide => k_is)
    (case l_follows_divide => k_is)
    (case c_follows_divide => k_is)
    (case k_follows_divide => k_is)
    (case a_follows_look => k_is)
    (case l_follows_look => k_is)
    (case c_follows_look => k_is)
    (case k_follows_look => k_is)
    (case a_follows_apart => k_is)
    (case l_follows_apart => k_is)
    (case c_follows_apart => k_is)
    (case k_follows_apart => k_is)
    (case a_follows_then => k_is)
    (case l_follows_then => k_is)
    (case c_follows_then => k_is)
    (case k_follows_then => k_is)
    (case a_follows_unit => k_is)
    (case l_follows_unit => k_is)
    (case c_follows_unit => k_is)
    (case k_follows_unit => k_is)
    (case a_follows_cases => k_is)
    (case l_follows_cases => k_is)
    (case c_follows_cases => k_is)
    (case k_follows_cases => k_is)
    (case a_follows_label => k_is)
    (case l_follows_label => k_is)
    (case c_follows_label => k_is)
    (case k_follows_label => k_is)
    (case a_follows => k_is)
    (case l_follows => k_is)
    (case c_follows => k_is)
    (case k_follows => k_is)
    (case a_bounds_fit => k_is)
    (case l_bounds_fit => k_is)
    (case c_bounds_fit => k_is)
    (case k_bounds_fit => k_is)
    (case a_Model___init__ => k_is)
    (case i_Model___init__ => k_is)
    (case l_Model___init__ => k_is)
    (case c_Model___init__ => k_is)
    (case k_Model___init__ => k_is)
    (case a_Model__need => k_is)
    (case i_Model__need => k_is)
    (case l_Model__need => k_is)
    (case c_Model__need => k_is)
    (case k_Model__need => k_is)
    (case a_Model_many => k_is)
    (case i_Model_many => k_is)
    (case l_Model_many => k_is)
    (case c_Model_many => k_is)
    (case k_Model_many => k_is)
    (case a_Model_low => k_is)
    (case i_Model_low => k_is)
    (case l_Model_low => k_is)
    (case c_Model_low => k_is)
    (case k_Model_low => k_is)
    (case a_Model_high => k_is)
    (case i_Model_high => k_is)
    (case l_Model_high => k_is)
    (case c_Model_high => k_is)
    (case k_Model_high => k_is)
    (case a_Model_has => k_is)
    (case i_Model_has => k_is)
    (case l_Model_has => k_is)
    (case c_Model_has => k_is)
    (case k_Model_has => k_is)
    (case a_Model_body => k_is)
    (case i_Model_body => k_is)
    (case l_Model_body => k_is)
    (case c_Model_body => k_is)
    (case k_Model_body => k_is)
    (case a_Model_put => k_is)
    (case i_Model_put => k_is)
    (case l_Model_put => k_is)
    (case c_Model_put => k_is)
    (case k_Model_put => k_is)
    (case a_law_same => k_is)
    (case l_law_same => k_is)
    (case c_law_same => k_is)
    (case k_law_same => k_is)
    (case a_law_draw => k_is)
    (case l_law_draw => k_is)
    (case c_law_draw => k_is)
    (case k_law_draw => k_is)
    (case a_law_tape => k_is)
    (case l_law_tape => k_is)
    (case c_law_tape => k_is)
    (case k_law_tape => k_is)
    (case a_law_body => k_is)
    (case l_law_body => k_is)
    (case c_law_body => k_is)
    (case k_law_body => k_is)
    (case a_law_sizes => k_is)
    (case l_law_sizes => k_is)
    (case c_law_sizes => k_is)
    (case k_law_sizes => k_is)
    (case a_law_behind_a_hint => k_is)
    (case l_law_behind_a_hint => k_is)
    (case c_law_behind_a_hint => k_is)
    (case k_law_behind_a_hint => k_is)
    (case a_law => k_is)
    (case l_law => k_is)
    (case c_law => k_is)
    (case k_law => k_is)
    (case z_len => k_is)
    (case z_int => k_is)
    (case z_list => k_is)
    (case z_tuple => k_is)
    (case z_range => k_is)
    (case z_all => k_is)
    (case z_any => k_is)
    (case z_isinstance => k_is)
    (case z_bool => k_is)
    (case z_abs => k_is)
    (case z_set => k_is)
    (case z_str => k_is)
    (case z_sorted => k_is)
    (case z_sum => k_is)
    (case z_min => k_is)
    (case z_max => k_is)
    (case z_zip => k_is)
    (case z_enumerate => k_is)
    (case z_dict => k_is)
    (case w_LABEL_RULES => k_is)
    (case v_LABEL_RULES => (refine' ⟨_, _, _, ?h1, ?h2, ?h3, ?h4, ?h5⟩; (case h1 => first | k_is | rfl); (case h2 => rfl); (case h3 => rfl); (case h4 => exact Nat.le_of_ble_eq_true rfl); (case h5 => repeat (first | exact .nil | refine .cons ⟨_, rfl⟩ ?_))))
    (case g_COEFFICIENT_MOST => k_is)
    (case r_COEFFICIENT_MOST => first | rfl | exact ⟨_, rfl⟩)
    (case g_SUM_MOST => k_is)
    (case r_SUM_MOST => first | rfl | exact ⟨_, rfl⟩)
    (case g_ENTRY_MOST => k_is)
    (case r_ENTRY_MOST => first | rfl | exact ⟨_, rfl⟩)
    (case g_LETTERS => k_is)
    (case r_LETTERS => first | rfl | exact ⟨_, rfl⟩)
    (case g_DIGITS => k_is)
    (case r_DIGITS => first | rfl | exact ⟨_, rfl⟩)
    (case g_UNKNOWNS_MOST => k_is)
    (case r_UNKNOWNS_MOST => first | rfl | exact ⟨_, rfl⟩)
    (case g_CONSTRAINTS_MOST => k_is)
    (case r_CONSTRAINTS_MOST => first | rfl | exact ⟨_, rfl⟩)
    (case g_BOUND_MOST => k_is)
    (case r_BOUND_MOST => first | rfl | exact ⟨_, rfl⟩)
    (case g_COST_MOST => k_is)
    (case r_COST_MOST => first | rfl | exact ⟨_, rfl⟩)
#print axioms PySem.Challenge.cw_commonground_k21_cost_of_a_look_holds
