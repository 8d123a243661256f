import PyProof.Rows.All
import Wide.All
import OpenK.AllK
import Wide.FinOn
import HandS.ForMost
import HandS.Wide
import HandS.IsInst
import HandS.Evl
import HandS.Walk
import HandS.Conv
import HandS.Deep
import HandS.More
import HandS.SetFor
import HandS.Strs
import HandS.TupSets
import HandS.TupAny
import KE.KDictCopyH
import HandS.DictComp
import HandS.Zip
import PySem.Challenge.RW_commonground_k66_consistent_with_facts
set_option Elab.async false
set_option linter.all false
set_option maxRecDepth 100000
set_option maxHeartbeats 4000000

/-! ### ground: calls by a bundle, frames, step rules -/
namespace CG
open PySem L2

structure Is (P : Program) (w : World) (K : PySem.W.Frag) (mg : Str → Option Value) (base : Heap) (CX : CXT) (k : Nat) (x : Str) (ps : List Str) (sp : Sp) : Prop where
  ex : ∃ (f : Addr) (fd : FuncData), FnOk P w K mg base CX k f fd ps sp ∧ mg x = some (.ref f) ∧ PySem.W.keepIn K (.ref f) = true ∧ Binds K fd ps []

def tCl (sp : Sp) (E : XK) (t : TA) : TE := fun σ H Q => t σ H fun vs H1 => sp vs H1 Q E
section
variable {X : Cx} {CX : CXT} {k : Nat} {x : Str} {ps : List Str} {sp : Sp} {E : XK} {t : TA} {p pos : Pos} {e : Expr} {es : List Expr}
theorem pe_is (D : Is X.prog X.w X.K X.mg X.base CX k x ps sp) (hr : Room k X.A) (hg : Gl X x) (hx : Passes CX X E) (ha : PA X (e :: es) t) (hdb : (x == ("__debug__" : Str)) = false := by decide)
    (he : starEach (e :: es) X.env = (false, eval e X.env) :: starEach es X.env := by rfl) (hpl : (backTo pos (starEach es X.env)).any (·.1) = false := by rfl) : PE X (.Call (.Name x p) (e :: es) [] pos) (tCl sp E t) := by
  obtain ⟨f, fd, F, hm, hk, hb⟩ := D.ex
  have q := pe_call (p := p) F hr hg hm hk hb Paired.nil hx ha hdb he hpl
  have e1 : tCall sp [] E t = tCl sp E t := by
    funext σ H Q
    show (t σ H fun vs H1 => sp (vs ++ []) H1 Q E) = (t σ H fun vs H1 => sp vs H1 Q E)
    simp only [List.append_nil]
  rw [← e1]
  exact q
theorem pe_gc {v : V} {j : Pos} (hg : Gl X x) (hm : ∃ u, X.mg x = some u ∧ RelV v u) (hdb : (x == ("__debug__" : Str)) = false := by decide) (hnm : x ≠ "__name__" := by decide) : PE X (.Name x j) (tC v) := by
  obtain ⟨u, h1, h2⟩ := hm
  exact pe_glob hg h1 h2 hdb
end

/-- all that is tracked stands, but at S, where things are written -/
structure Kp (S : List Addr) (H H' : Hp) : Prop where
  k : ∀ b o, ¬ b ∈ S → H b = some o → H' b = some o
  mu : ∀ b, b ∈ S → Mut (H b)
/-- the same from the entry: what is new since is free -/
def Fm (S : List Addr) (H H' : Hp) : Prop := ∀ b o, ¬ b ∈ S → H b = some o → H' b = some o
section
variable {S S' : List Addr} {H H0 H1 H2 : Hp} {a p : Addr} {o o' : HO} {xs : List V} {K : PySem.W.Frag}
theorem Fm.start : Fm S H H := fun _ _ _ h => h
theorem Kp.refl : Kp [] H H := ⟨fun _ _ _ h => h, fun _ h => nomatch h⟩
theorem Kp.new (hp : H p = none) : Kp [] H (upd H p o) := ⟨fun b u _ h => by rw [upd_ne (ne_of_none h hp)]; exact h, fun _ h => nomatch h⟩
theorem Kp.put (hp : H p = some o) (hm : Mut (some o)) : Kp [p] H (upd H p o') := ⟨fun b u hb h => by rw [upd_ne (fun e => hb (by simp [e]))]; exact h, fun b hb => by
  rw [List.mem_singleton] at hb
  subst hb
  rw [hp]
  exact hm⟩
theorem Fm.go (f : Fm S H0 H) (k : Kp S' H H1) (h : ∀ a, a ∈ S' → a ∈ S ∨ H0 a = none) : Fm S H0 H1 := fun b o hb e => by
  refine k.k b o (fun hm => ?_) (f b o hb e)
  rcases h b hm with q | q
  · exact hb q
  · rw [q] at e
    cases e
theorem Fm.go0 (f : Fm S H0 H) (k : Kp [] H H1) : Fm S H0 H1 := f.go k fun _ h => nomatch h
theorem Fm.kp (f : Fm S H0 H) (mu : ∀ b, b ∈ S → Mut (H0 b)) : Kp S H0 H := ⟨f, mu⟩
theorem Fm.free (f : Fm S H0 H) (h : H p = none) (hs : ∀ b, b ∈ S → ∃ o, H b = some o) : H0 p = none := by
  cases q : H0 p with
  | none => rfl
  | some o =>
    by_cases hb : p ∈ S
    · obtain ⟨o, e⟩ := hs p hb
      rw [h] at e
      cases e
    · rw [f p o hb q] at h
      cases h
theorem Kp.free (f : Kp S H0 H) (h : H p = none) (hs : ∀ b, b ∈ S → ∃ o, H b = some o) : H0 p = none := Fm.free (S := S) f.k h hs
theorem Kp.free0 (f : Kp [] H0 H) (h : H p = none) : H0 p = none := f.free h fun _ hm => by cases hm
theorem Kp.get (k : Kp S H H1) (hn : ¬ a ∈ S) (h : H a = some o) : H1 a = some o := k.k _ _ hn h
theorem Kp.get0 (k : Kp [] H H1) (h : H a = some o) : H1 a = some o := k.k _ _ (fun h => nomatch h) h
theorem Kp.get1 (k : Kp [p] H H1) (hn : a ≠ p) (h : H a = some o) : H1 a = some o := k.k _ _ (fun h => hn (by simpa using h)) h
theorem Kp.tup (k : Kp S H H1) (h : SqT K H a xs) : SqT K H1 a xs := by
  rcases h with (h | ⟨u, h⟩) | h
  · exact .inl (.inl (k.k _ _ (fun hm => by have q := k.mu _ hm; rw [h] at q; exact q) h))
  · exact .inl (.inr ⟨u, k.k _ _ (fun hm => by have q := k.mu _ hm; rw [h] at q; exact q) h⟩)
  · exact .inr h
theorem Kp.trans (a : Kp [] H0 H1) (b : Kp [] H1 H2) : Kp [] H0 H2 := ⟨fun c o _ h => b.get0 (a.get0 h), fun _ h => nomatch h⟩
theorem Kp.tr (a : Kp S H0 H1) (b : Kp S' H1 H2) (h : ∀ x, x ∈ S' → x ∈ S ∨ H0 x = none) : Kp S H0 H2 := ⟨fun c o hc e => b.k c o (fun hm => by
  rcases h c hm with q | q
  · exact hc q
  · rw [q] at e
    cases e) (a.k c o hc e), a.mu⟩
theorem Kp.tr0 (b : Kp [] H1 H2) (a : Kp S H0 H1) : Kp S H0 H2 := a.tr b fun _ h => by cases h
theorem Kp.tr1 (b : Kp S H1 H2) (a : Kp S H0 H1) : Kp S H0 H2 := a.tr b fun _ h => .inl h
theorem Kp.trN (b : Kp [p] H1 H2) (a : Kp S H0 H1) (hp : H0 p = none) : Kp S H0 H2 := a.tr b fun x hx => by
  rw [List.mem_singleton] at hx
  subst hx
  exact .inr hp
theorem Kp.base (mu : ∀ b, b ∈ S → Mut (H b)) : Kp S H H := ⟨fun _ _ _ h => h, mu⟩
theorem Kp.fresh (k : Kp S H0 H1) (h : H1 p = none) (hs : ∀ b, b ∈ S → ∃ o, H1 b = some o) : ∀ x, x ∈ [p] → x ∈ S ∨ H0 x = none := fun x hx => by
  rw [List.mem_singleton] at hx
  subst hx
  exact .inr (k.free h hs)
theorem ne_newL (hp : H p = none) (h : H a = some o) : a ≠ p := ne_of_none h hp
theorem ne_newR (hp : H p = none) (h : H a = some o) : p ≠ a := (ne_of_none h hp).symm
theorem SqT.ty (h : SqT K H a xs) : TyX K H (.ref a) (.type "tuple") := by
  rcases h with (h | ⟨u, h⟩) | ⟨o, its, n, h1, h2, _⟩
  · exact .base (.tup h)
  · exact .fTuple h
  · exact .kTuple h1 h2
end

/-! ### step rules: from the head of a reading -/
/-- one step of a reading, many -/
class Stp (g : Prop) (n : outParam Prop) : Prop where
  imp : n → g
class Stps (g : Prop) (n : outParam Prop) : Prop where
  imp : n → g
instance (priority := low) stps_nil {g : Prop} : Stps g g := ⟨id⟩
instance stps_cons {g m n : Prop} [a : Stp g m] [b : Stps m n] : Stps g n := ⟨fun h => a.imp (b.imp h)⟩
/-- one step at least -/
theorem go1 {g m n : Prop} (a : Stp g m) (b : Stps m n) (h : n) : g := a.imp (b.imp h)
class Look (σ : St) (n : Nat) (v : outParam V) : Prop where
  e : σ[n]? = some (some v)
instance look0 {v : V} {σ : St} : Look (some v :: σ) 0 v := ⟨rfl⟩
instance lookS {v : V} {x : Option V} {σ : St} {n : Nat} [a : Look σ n v] : Look (x :: σ) (n + 1) v := ⟨by rw [List.getElem?_cons_succ]; exact a.e⟩
class SetS (σ : St) (n : Nat) (v : V) (σ' : outParam St) : Prop where
  e : σ.set n (some v) = σ'
instance set0 {v : V} {x : Option V} {σ : St} : SetS (x :: σ) 0 v (some v :: σ) := ⟨rfl⟩
instance setS {v : V} {x : Option V} {σ σ' : St} {n : Nat} [a : SetS σ n v σ'] : SetS (x :: σ) (n + 1) v (x :: σ') := ⟨by rw [List.set_cons_succ, a.e]⟩
def mkT (xs : List V) (H : Hp) (Q : VK) : Prop := xs.length ≤ sizeLine ∧ ∀ p, H p = none → Q (.ref p) (upd H p (.tup xs))
def mkL (xs : List V) (H : Hp) (Q : VK) : Prop := xs.length ≤ sizeLine ∧ ∀ p, H p = none → Q (.ref p) (upd H p (.lst xs))
def asB (x : V) (R : Bool → Prop) : Prop := ∃ k, x = .bl k ∧ R k
/-- two ways by a test -/
def iteP (b : Bool) (A B : Prop) : Prop := if b = true then A else B
theorem iteP_of {b : Bool} {A B : Prop} (h : iteP b A B) : if b = true then A else B := h
section
variable {σ σ' : St} {H : Hp} {Q : VK} {ta tb tc te : TE} {v : V} {i j : Int} {n : Nat} {K : PySem.W.Frag} {E : XK} {C : Int → Int → Prop} {gi : Int → Int → V} {nx bk ct : St → Hp → Prop} {rt : VK}
instance s_seq {t u : TS} : Stp (tSeq t u ⟨nx, rt, bk, ct⟩ σ H) (t ⟨u ⟨nx, rt, bk, ct⟩, rt, bk, ct⟩ σ H) := ⟨id⟩
instance s_next : Stp (tNext ⟨nx, rt, bk, ct⟩ σ H) (nx σ H) := ⟨id⟩
instance s_set : Stp (tAsg te (gName n) ⟨nx, rt, bk, ct⟩ σ H) (te σ H fun x H1 => gName n x σ H1 nx) := ⟨id⟩
instance s_asg {g : TG} : Stp (tAsg te g ⟨nx, rt, bk, ct⟩ σ H) (te σ H fun x H1 => g x σ H1 nx) := ⟨id⟩
instance s_gN {R : St → Hp → Prop} [a : SetS σ n v σ'] : Stp (gName n v σ H R) (R σ' H) := ⟨fun h => by show R (σ.set n (some v)) H; rw [a.e]; exact h⟩
instance s_drop : Stp (tDrop te ⟨nx, rt, bk, ct⟩ σ H) (te σ H fun _ H1 => nx σ H1) := ⟨id⟩
instance s_ret : Stp (tRet te ⟨nx, rt, bk, ct⟩ σ H) (te σ H rt) := ⟨id⟩
instance s_retN : Stp (tRetN ⟨nx, rt, bk, ct⟩ σ H) (rt .non H) := ⟨id⟩
instance s_break : Stp (tBreak ⟨nx, rt, bk, ct⟩ σ H) (bk σ H) := ⟨id⟩
instance s_cont : Stp (tCont ⟨nx, rt, bk, ct⟩ σ H) (ct σ H) := ⟨id⟩
instance s_ifS {c : TT} {t u : TS} {D : Ends} : Stp (tIfS c t u D σ H) (c σ H fun b H1 => iteP b (t D σ H1) (u D σ H1)) := ⟨id⟩
instance s_var [a : Look σ n v] : Stp (tVar n σ H Q) (Q v H) := ⟨fun h => ⟨v, a.e, h⟩⟩
instance s_c : Stp (tC v σ H Q) (Q v H) := ⟨id⟩
instance s_op {r : R2} : Stp (tOp r ta tb σ H Q) (ta σ H fun x H1 => tb σ H1 fun y H2 => r x y H2 Q) := ⟨id⟩
instance s_un {r : V → Hp → VK → Prop} : Stp (tUn r ta σ H Q) (ta σ H fun x H1 => r x H1 Q) := ⟨id⟩
instance s_rU {g : Int → V} : Stp (rU g (.int i) H Q) (Q (g i) H) := ⟨fun h => ⟨i, rfl, h⟩⟩
instance s_rI0 : Stp (rI0 gi (.int i) (.int j) H Q) (Q (gi i j) H) := ⟨fun h => ⟨i, j, rfl, rfl, h⟩⟩
theorem r_rI (hc : C i j) (h : Q (gi i j) H) : rI C gi (.int i) (.int j) H Q := ⟨i, j, rfl, rfl, hc, h⟩
instance s_pow6 : Stp (rI CPow (fun i j => V.int (i ^ j.toNat)) (.int 10) (.int 6) H Q) (Q (.int 1000000) H) := ⟨fun h => ⟨10, 6, rfl, rfl, ⟨by decide, by decide, by decide⟩, h⟩⟩
instance s_pow7 : Stp (rI CPow (fun i j => V.int (i ^ j.toNat)) (.int 10) (.int 7) H Q) (Q (.int 10000000) H) := ⟨fun h => ⟨10, 7, rfl, rfl, ⟨by decide, by decide, by decide⟩, h⟩⟩
instance s_pow8 : Stp (rI CPow (fun i j => V.int (i ^ j.toNat)) (.int 10) (.int 8) H Q) (Q (.int 100000000) H) := ⟨fun h => ⟨10, 8, rfl, rfl, ⟨by decide, by decide, by decide⟩, h⟩⟩
instance s_pow9 : Stp (rI CPow (fun i j => V.int (i ^ j.toNat)) (.int 10) (.int 9) H Q) (Q (.int 1000000000) H) := ⟨fun h => ⟨10, 9, rfl, rfl, ⟨by decide, by decide, by decide⟩, h⟩⟩
instance s_pow10 : Stp (rI CPow (fun i j => V.int (i ^ j.toNat)) (.int 10) (.int 10) H Q) (Q (.int 10000000000) H) := ⟨fun h => ⟨10, 10, rfl, rfl, ⟨by decide, by decide, by decide⟩, h⟩⟩
instance s_pow12 : Stp (rI CPow (fun i j => V.int (i ^ j.toNat)) (.int 10) (.int 12) H Q) (Q (.int 1000000000000) H) := ⟨fun h => ⟨10, 12, rfl, rfl, ⟨by decide, by decide, by decide⟩, h⟩⟩
instance s_pow21 : Stp (rI CPow (fun i j => V.int (i ^ j.toNat)) (.int 10) (.int 21) H Q) (Q (.int 1000000000000000000000) H) := ⟨fun h => ⟨10, 21, rfl, rfl, ⟨by decide, by decide, by decide⟩, h⟩⟩
instance s_pow30 : Stp (rI CPow (fun i j => V.int (i ^ j.toNat)) (.int 10) (.int 30) H Q) (Q (.int 1000000000000000000000000000000) H) := ⟨fun h => ⟨10, 30, rfl, rfl, ⟨by decide, by decide, by decide⟩, h⟩⟩
instance s_pow40 : Stp (rI CPow (fun i j => V.int (i ^ j.toNat)) (.int 10) (.int 40) H Q) (Q (.int 10000000000000000000000000000000000000000) H) := ⟨fun h => ⟨10, 40, rfl, rfl, ⟨by decide, by decide, by decide⟩, h⟩⟩
instance s_pow60 : Stp (rI CPow (fun i j => V.int (i ^ j.toNat)) (.int 10) (.int 60) H Q) (Q (.int 1000000000000000000000000000000000000000000000000000000000000) H) := ⟨fun h => ⟨10, 60, rfl, rfl, ⟨by decide, by decide, by decide⟩, h⟩⟩
instance s_eqI : Stp (rEq (.int i) (.int j) H Q) (Q (.bl (decide (i = j))) H) := ⟨fun h => ⟨rfl, by
  have e : decide (V.int i = V.int j) = decide (i = j) := by simp
  rw [e]
  exact h⟩⟩
instance s_neI : Stp (rNe (.int i) (.int j) H Q) (Q (.bl (decide (i ≠ j))) H) := ⟨fun h => ⟨rfl, by
  have e : (!decide (V.int i = V.int j)) = decide (i ≠ j) := by simp
  rw [e]
  exact h⟩⟩
instance s_eqS {a b : Str} : Stp (rEq (.str a) (.str b) H Q) (Q (.bl (decide (a = b))) H) := ⟨fun h => ⟨rfl, by
  have e : decide (V.str a = V.str b) = decide (a = b) := by simp
  rw [e]
  exact h⟩⟩
instance s_neS {a b : Str} : Stp (rNe (.str a) (.str b) H Q) (Q (.bl (decide (a ≠ b))) H) := ⟨fun h => ⟨rfl, by
  have e : (!decide (V.str a = V.str b)) = decide (a ≠ b) := by simp
  rw [e]
  exact h⟩⟩
instance s_eqB {a b : Bool} : Stp (rEq (.bl a) (.bl b) H Q) (Q (.bl (decide (a = b))) H) := ⟨fun h => ⟨rfl, by
  have e : decide (V.bl a = V.bl b) = decide (a = b) := by simp
  rw [e]
  exact h⟩⟩
instance s_neB {a b : Bool} : Stp (rNe (.bl a) (.bl b) H Q) (Q (.bl (decide (a ≠ b))) H) := ⟨fun h => ⟨rfl, by
  have e : (!decide (V.bl a = V.bl b)) = decide (a ≠ b) := by simp
  rw [e]
  exact h⟩⟩
instance s_test {R : Bool → Hp → Prop} : Stp (tTest te σ H R) (te σ H fun x H1 => asB x fun k => R k H1) := ⟨id⟩
instance s_B {R : Bool → Hp → Prop} : Stp (tB te σ H R) (te σ H fun x H1 => asB x fun k => R k H1) := ⟨id⟩
instance s_asB {b : Bool} {R : Bool → Prop} : Stp (asB (.bl b) R) (R b) := ⟨fun h => ⟨b, rfl, h⟩⟩
instance s_and {t u : TT} {R : Bool → Hp → Prop} : Stp (tAnd t u σ H R) (t σ H fun c H1 => iteP c (u σ H1 R) (R false H1)) := ⟨id⟩
instance s_or {t u : TT} {R : Bool → Hp → Prop} : Stp (tOr t u σ H R) (t σ H fun c H1 => iteP c (R true H1) (u σ H1 R)) := ⟨id⟩
instance s_not {t : TT} {R : Bool → Hp → Prop} : Stp (tNot t σ H R) (t σ H fun c H1 => R (!c) H1) := ⟨id⟩
instance s_andV : Stp (tAndV ta tb σ H Q) (ta σ H fun x H1 => asB x fun c => iteP c (tb σ H1 Q) (Q (.bl false) H1)) := ⟨id⟩
instance s_orV : Stp (tOrV ta tb σ H Q) (ta σ H fun x H1 => asB x fun c => iteP c (Q (.bl true) H1) (tb σ H1 Q)) := ⟨id⟩
instance s_notV : Stp (tNotV ta σ H Q) (ta σ H fun x H1 => asB x fun c => Q (.bl (!c)) H1) := ⟨id⟩
instance s_if {t : TT} : Stp (tIf t ta tb σ H Q) (t σ H fun c H1 => iteP c (ta σ H1 Q) (tb σ H1 Q)) := ⟨id⟩
instance s_chain {r r' : R2} : Stp (tChain r r' ta tb tc σ H Q) (ta σ H fun x H1 => tb σ H1 fun y H2 => r x y H2 fun z H3 => asB z fun k => iteP k (tc σ H3 fun w' H4 => r' y w' H4 Q) (Q (.bl false) H3)) := ⟨id⟩
instance s_nil {R : List V → Hp → Prop} : Stp (tNil σ H R) (R [] H) := ⟨id⟩
instance s_cons {tr : TA} {R : List V → Hp → Prop} : Stp (tCons ta tr σ H R) (ta σ H fun x H1 => tr σ H1 fun xs H2 => R (x :: xs) H2) := ⟨id⟩
instance s_tTup {t : TA} : Stp (tTup t σ H Q) (t σ H fun xs H1 => mkT xs H1 Q) := ⟨id⟩
instance s_tLst {t : TA} : Stp (tLst t σ H Q) (t σ H fun xs H1 => mkL xs H1 Q) := ⟨id⟩
instance s_cB {t : TA} {r : List V → Hp → VK → Prop} : Stp (tCB r t σ H Q) (t σ H fun vs H1 => r vs H1 Q) := ⟨id⟩
instance s_cl {sp : Sp} {t : TA} : Stp (tCl sp E t σ H Q) (t σ H fun vs H1 => sp vs H1 Q E) := ⟨id⟩
instance s_aug {ti : TIp} [a : Look σ n v] : Stp (tAug n te ti ⟨nx, rt, bk, ct⟩ σ H) (te σ H fun y H1 => ti v y H1 fun z H2 => gName n z σ H2 nx) := ⟨fun h => ⟨v, a.e, h⟩⟩
instance s_ipI {f : Int → Int → Int} : Stp (ipI f (.int i) (.int j) H Q) (Q (.int (f i j)) H) := ⟨fun h => ⟨i, j, rfl, rfl, h⟩⟩
instance s_iteT {A B : Prop} : Stp (iteP true A B) A := ⟨fun h => iteT h⟩
instance s_iteF {A B : Prop} : Stp (iteP false A B) B := ⟨fun h => iteF h⟩
instance s_iteNT {A B : Prop} : Stp (iteP (!true) A B) B := ⟨fun h => iteF h⟩
instance s_iteNF {A B : Prop} : Stp (iteP (!false) A B) A := ⟨fun h => iteT h⟩
theorem r_mkT {xs : List V} (hl : xs.length ≤ sizeLine) (h : ∀ p H2, H p = none → SqT K H2 p xs → Kp [] H H2 → Q (.ref p) H2) : mkT xs H Q :=
  ⟨hl, fun p hp => h p _ hp (SqT.of upd_same) (Kp.new hp)⟩
theorem r_mkL {xs : List V} (hl : xs.length ≤ sizeLine) (h : ∀ p H2, H p = none → H2 p = some (.lst xs) → Kp [] H H2 → Q (.ref p) H2) : mkL xs H Q :=
  ⟨hl, fun p hp => h p _ hp upd_same (Kp.new hp)⟩
theorem r_ixT {p : Addr} {xs : List V} (h : SqT K H p xs) (e : atI xs i = some v) (q : Q v H) : rIxT K (.ref p) (.int i) H Q := ⟨p, xs, i, v, rfl, rfl, h, e, q⟩
theorem r_ixL {p : Addr} {xs : List V} (h : H p = some (.lst xs)) (e : atI xs i = some v) (q : Q v H) : rIxL K (.ref p) (.int i) H Q := ⟨p, xs, i, v, rfl, rfl, SqL.of h, e, q⟩
theorem r_gTup {t : TGs} {m : Nat} {p : Addr} {xs : List V} {R : St → Hp → Prop} (h : SqT K H p xs) (e : xs.length = m) (q : t xs σ H R) : gTup K m t (.ref p) σ H R := ⟨p, xs, rfl, h, e, q⟩
instance s_gCons {t : TG} {u : TGs} {r : List V} {R : St → Hp → Prop} : Stp (gCons t u (v :: r) σ H R) (t v σ H fun σ' H' => u r σ' H' R) := ⟨fun h => ⟨v, r, rfl, h⟩⟩
instance s_gNil {R : St → Hp → Prop} : Stp (gNil [] σ H R) (R σ H) := ⟨fun h => ⟨rfl, h⟩⟩
instance s_gSub {s : TSet} {R : St → Hp → Prop} : Stp (gSub ta tb s v σ H R) (ta σ H fun o H1 => tb σ H1 fun i H2 => s o i v H2 fun H3 => R σ H3) := ⟨id⟩
theorem r_setL {p : Addr} {xs : List V} {m : Nat} {R : Hp → Prop} (h : H p = some (.lst xs)) (e : ixN xs.length i = some m) (q : ∀ H2, H2 p = some (.lst (xs.set m v)) → Kp [p] H H2 → R H2) : rSetL (.ref p) (.int i) v H R :=
  ⟨p, xs, i, m, rfl, rfl, h, e, q _ upd_same (Kp.put h trivial)⟩
theorem if_T {A B : Prop} {c : Prop} [Decidable c] (hc : c) (h : A) : iteP (decide c) A B := by
  unfold iteP
  rw [if_pos (decide_eq_true hc)]
  exact h
theorem if_F {A B : Prop} {c : Prop} [Decidable c] (hc : ¬ c) (h : B) : iteP (decide c) A B := by
  unfold iteP
  rw [if_neg (by rw [decide_eq_false hc]; decide)]
  exact h
theorem if_S {A B : Prop} {c : Prop} [Decidable c] (h : c → A) (h' : ¬ c → B) : iteP (decide c) A B := by
  by_cases hc : c
  · exact if_T hc (h hc)
  · exact if_F hc (h' hc)
theorem if_NT {A B : Prop} {c : Prop} [Decidable c] (hc : ¬ c) (h : A) : iteP (!decide c) A B := by
  rw [decide_eq_false hc]
  exact iteT h
theorem if_NF {A B : Prop} {c : Prop} [Decidable c] (hc : c) (h : B) : iteP (!decide c) A B := by
  rw [decide_eq_true hc]
  exact iteF h
theorem if_NS {A B : Prop} {c : Prop} [Decidable c] (h : ¬ c → A) (h' : c → B) : iteP (!decide c) A B := by
  by_cases hc : c
  · exact if_NF hc (h' hc)
  · exact if_NT hc (h hc)
theorem if_B {A B : Prop} {b : Bool} (h : b = true → A) (h' : b = false → B) : iteP b A B := by
  cases b
  · exact iteF (h' rfl)
  · exact iteT (h rfl)
end

/-! ### built-in calls by named rules -/
section
variable {X : Cx} {f : Value} {r r' : List V → Hp → VK → Prop}
theorem callR_imp (h : CallR X f r) (i : ∀ xs H Q, r' xs H Q → r xs H Q) : CallR X f r' := fun pins s σ H xs us Q I rx q => h pins s σ H xs us Q I rx (i _ _ _ q)
def rInt : List V → Hp → VK → Prop := fun xs H Q => (∃ i, xs = [.int i] ∧ Q (.int i) H) ∨ ∃ k, xs = [.bl k] ∧ Q (.int (if k then 1 else 0)) H
theorem cg_int : CallR X (.type "int") rInt := call_int1
def rLen (K : PySem.W.Frag) : List V → Hp → VK → Prop := fun xs H Q => ∃ p ys, xs = [.ref p] ∧ (SqL K H p ys ∨ SqT K H p ys) ∧ Q (.int ys.length) H
theorem cg_len : CallR X (.builtin "len") (rLen X.K) := call_len_seq
def rListOf (K : PySem.W.Frag) : List V → Hp → VK → Prop := fun xs H Q => ∃ p ys, xs = [.ref p] ∧ (SqL K H p ys ∨ SqT K H p ys) ∧ ∀ l, H l = none → Q (.ref l) (upd H l (.lst ys))
theorem cg_list : CallR X (.type "list") (rListOf X.K) := call_list_of
def rTupOf (K : PySem.W.Frag) : List V → Hp → VK → Prop := fun xs H Q => ∃ p ys, xs = [.ref p] ∧ ((SqL K H p ys ∧ ∀ l, H l = none → Q (.ref l) (upd H l (.tup ys))) ∨ (SqT K H p ys ∧ Q (.ref p) H))
theorem cg_tuple : CallR X (.type "tuple") (rTupOf X.K) := call_tuple_of
def rAbs : List V → Hp → VK → Prop := fun xs H Q => ∃ i, xs = [.int i] ∧ Q (.int (if i < 0 then -i else i)) H
theorem cg_abs : CallR X (.builtin "abs") rAbs := call_abs
end
section
variable {H : Hp} {Q : VK} {K : PySem.W.Frag} {i : Int} {p : Addr} {xs : List V}
instance s_int : Stp (rInt [.int i] H Q) (Q (.int i) H) := ⟨fun q => .inl ⟨i, rfl, q⟩⟩
instance s_intB {b : Bool} : Stp (rInt [.bl b] H Q) (Q (.int (if b then 1 else 0)) H) := ⟨fun q => .inr ⟨b, rfl, q⟩⟩
theorem r_lenT (h : SqT K H p xs) (q : Q (.int xs.length) H) : rLen K [.ref p] H Q := ⟨p, xs, rfl, .inr h, q⟩
theorem r_lenL (h : H p = some (.lst xs)) (q : Q (.int xs.length) H) : rLen K [.ref p] H Q := ⟨p, xs, rfl, .inl (SqL.of h), q⟩
theorem r_listL (h : SqL K H p xs) (q : ∀ l H2, H l = none → H2 l = some (.lst xs) → Kp [] H H2 → Q (.ref l) H2) : rListOf K [.ref p] H Q := ⟨p, xs, rfl, .inl h, fun l hl => q l _ hl upd_same (Kp.new hl)⟩
theorem r_tupleL (h : H p = some (.lst xs)) (q : ∀ l H2, H l = none → SqT K H2 l xs → Kp [] H H2 → Q (.ref l) H2) : rTupOf K [.ref p] H Q := ⟨p, xs, rfl, .inl ⟨SqL.of h, fun l hl => q l _ hl (SqT.of upd_same) (Kp.new hl)⟩⟩
instance s_abs : Stp (rAbs [.int i] H Q) (Q (.int (if i < 0 then -i else i)) H) := ⟨fun q => ⟨i, rfl, q⟩⟩
theorem r_isi {v c : V} {t u : Value} {b : Bool} (hc : ClsV c u) (ht : TyX K H v t) (hk : PySem.W.kitOne K t u = some b) (q : Q (.bl b) H) : rIsi K [v, c] H Q := ⟨v, c, t, u, b, rfl, hc, ht, hk, q⟩
theorem r_inL {neg : Bool} {x : V} {b : Bool} (h : H p = some (.lst xs)) (fx : flatV x = true) (fs : xs.all flatV = true) (e : (if neg then !inV x xs else inV x xs) = b) (q : Q (.bl b) H) : rIn K neg x (.ref p) H Q := ⟨p, xs, rfl, .inl (SqL.of h), fx, fs, by rw [e]; exact q⟩
theorem r_inT {neg : Bool} {x : V} {b : Bool} (h : SqT K H p xs) (fx : flatV x = true) (fs : xs.all flatV = true) (e : (if neg then !inV x xs else inV x xs) = b) (q : Q (.bl b) H) : rIn K neg x (.ref p) H Q := ⟨p, xs, rfl, .inr h, fx, fs, by rw [e]; exact q⟩
end
/-! ### data that never changes -/
mutual
inductive Im (K : PySem.W.Frag) (H : Hp) : V → PyData → Prop
  | non : Im K H .non .none
  | bl (b : Bool) : Im K H (.bl b) (.bool b)
  | int (i : Int) : Im K H (.int i) (.int i)
  | str (x : Str) : Im K H (.str x) (.str x)
  | tup {a : Addr} {xs : List V} {ds : List PyData} : SqT K H a xs → ImAll K H xs ds → Im K H (.ref a) (.tuple ds)
inductive ImAll (K : PySem.W.Frag) (H : Hp) : List V → List PyData → Prop
  | nil : ImAll K H [] []
  | cons {v : V} {vs : List V} {d : PyData} {ds : List PyData} : Im K H v d → ImAll K H vs ds → ImAll K H (v :: vs) (d :: ds)
end
section
variable {K : PySem.W.Frag} {H H' : Hp} {S : List Addr} {p : Addr} {xs : List V} {ds : List PyData} {x : V} {d : PyData}
mutual
theorem Kp.im (k : Kp S H H') : ∀ {x : V} {d : PyData}, Im K H x d → Im K H' x d
  | _, _, .non => .non
  | _, _, .bl b => .bl b
  | _, _, .int i => .int i
  | _, _, .str z => .str z
  | _, _, .tup h a => .tup (k.tup h) (Kp.imAll k a)
theorem Kp.imAll (k : Kp S H H') : ∀ {xs : List V} {ds : List PyData}, ImAll K H xs ds → ImAll K H' xs ds
  | _, _, .nil => .nil
  | _, _, .cons h a => .cons (Kp.im k h) (Kp.imAll k a)
end
mutual
theorem Im.dp : ∀ {x : V} {d : PyData}, Im K H x d → Dp K H x d
  | _, _, .non => .non
  | _, _, .bl b => .bl b
  | _, _, .int i => .int i
  | _, _, .str z => .str z
  | _, _, .tup h a => .tup h (ImAll.dp a)
theorem ImAll.dp : ∀ {xs : List V} {ds : List PyData}, ImAll K H xs ds → DpAll K H xs ds
  | _, _, .nil => .nil
  | _, _, .cons h a => .cons h.dp (ImAll.dp a)
end
theorem ImAll.length : ∀ {xs : List V} {ds : List PyData}, ImAll K H xs ds → xs.length = ds.length
  | _, _, .nil => rfl
  | _, _, .cons _ a => by rw [List.length_cons, List.length_cons, ImAll.length a]
theorem ImAll.get : ∀ {xs : List V} {ds : List PyData} {i : Nat} {x : V}, ImAll K H xs ds → xs[i]? = some x → ∃ d, ds[i]? = some d ∧ Im K H x d
  | _, _, _, _, .nil, e => by simp at e
  | _, _, 0, _, .cons h _, e => by simp at e; subst e; exact ⟨_, rfl, h⟩
  | _, _, i + 1, _, .cons _ a, e => by
    obtain ⟨d, h1, h2⟩ := ImAll.get (i := i) a (by simpa using e)
    exact ⟨d, by simpa using h1, h2⟩
theorem ImAll.at : ∀ {xs : List V} {ds : List PyData} {i : Nat} {d : PyData}, ImAll K H xs ds → ds[i]? = some d → ∃ x, xs[i]? = some x ∧ Im K H x d
  | _, _, _, _, .nil, e => by simp at e
  | _, _, 0, _, .cons h _, e => by simp at e; subst e; exact ⟨_, rfl, h⟩
  | _, _, i + 1, _, .cons _ a, e => by
    obtain ⟨x, h1, h2⟩ := ImAll.at (i := i) a (by simpa using e)
    exact ⟨x, by simpa using h1, h2⟩
theorem ImAll.snoc : ∀ {xs : List V} {ds : List PyData} {x : V} {d : PyData}, ImAll K H xs ds → Im K H x d → ImAll K H (xs ++ [x]) (ds ++ [d])
  | _, _, _, _, .nil, h => .cons h .nil
  | _, _, _, _, .cons h a, h' => .cons h (ImAll.snoc a h')
/-- the data of a flat value, back -/
def flatD : PyData → Option V
  | .none => some .non
  | .bool b => some (.bl b)
  | .int i => some (.int i)
  | .str x => some (.str x)
  | _ => Option.none
def flatDs : List PyData → Option (List V)
  | [] => some []
  | d :: ds => match flatD d, flatDs ds with
    | some x, some xs => some (x :: xs)
    | _, _ => Option.none
theorem Im.flat (h : Im K H x d) {y : V} (e : flatD d = some y) : x = y := by
  cases h with
  | tup _ _ => cases e
  | _ => exact Option.some.inj e
theorem ImAll.flat : ∀ {xs : List V} {ds : List PyData} {ys : List V}, ImAll K H xs ds → flatDs ds = some ys → xs = ys
  | _, _, _, .nil, e => Option.some.inj e
  | _, d :: ds, ys, .cons (v := v) h a, e => by
    unfold flatDs at e
    split at e
    · rename_i y zs h1 h2
      rw [h.flat h1, ImAll.flat a h2]
      exact Option.some.inj e
    · cases e
theorem Im.open (h : Im K H (.ref p) (.tuple ds)) : ∃ xs, SqT K H p xs ∧ ImAll K H xs ds := by
  cases h with
  | tup h a => exact ⟨_, h, a⟩
theorem Im.sq (h : Im K H (.ref p) (.tuple ds)) {ys : List V} (e : flatDs ds = some ys) : SqT K H p ys := by
  obtain ⟨xs, h1, h2⟩ := h.open
  rw [← h2.flat e]
  exact h1
theorem Im.isRef (h : Im K H x (.tuple ds)) : ∃ p, x = .ref p := by
  cases h with
  | tup h a => exact ⟨_, rfl⟩
theorem flatDs_ints : ∀ ns : List Int, flatDs (ns.map PyData.int) = some (ns.map V.int)
  | [] => rfl
  | n :: ns => by
    show (match flatD (.int n), flatDs (ns.map PyData.int) with | some x, some xs => some (x :: xs) | _, _ => Option.none) = _
    rw [flatDs_ints ns]
    rfl
theorem Im.ints {ns : List Int} (h : SqT K H p (ns.map V.int)) : Im K H (.ref p) (.tuple (ns.map .int)) := by
  refine .tup h ?_
  clear h
  induction ns with
  | nil => exact .nil
  | cons n ns ih => exact .cons (.int n) ih
end
/-! ### loops -/
def forS (J : It) (g : TG) (tb : TS) (D : Ends) (σ : St) (H : Hp) : Prop := ∃ W : Nat → Nat → St → Hp → Prop, (∃ m, W 0 m σ H) ∧ ∀ i m σ H, W i m σ H →
  (J.stop i H ∧ D.nx σ H) ∨ (J.go i H ∧ ∃ N : St → Hp → Prop, (∀ σ' H', N σ' H' → ∃ m', m' < m ∧ W (i + 1) m' σ' H') ∧ ∀ x H', J.yld i H x H' → g x σ H' fun σ2 H2 => tb { D with nx := N, ct := N, bk := D.nx } σ2 H2)
def isL (K : PySem.W.Frag) (x : V) (H : Hp) (R : It → Hp → Prop) : Prop := ∃ a, x = .ref a ∧ (∃ xs, SqL K H a xs) ∧ R (Itl K a) H
def isT (K : PySem.W.Frag) (x : V) (H : Hp) (R : It → Hp → Prop) : Prop := ∃ a, x = .ref a ∧ (∃ xs, SqT K H a xs) ∧ R (Itt K a) H
def isR1 (vs : List V) (H : Hp) (R : It → Hp → Prop) : Prop := ∃ j : Int, vs = [.int j] ∧ -(2 ^ 62) ≤ j ∧ j < 2 ^ 62 ∧ R (Itr 0 j.toNat) H
section
variable {σ : St} {H : Hp} {K : PySem.W.Frag} {p : Addr} {xs : List V} {g : TG} {tb : TS} {nx bk ct : St → Hp → Prop} {rt : VK} {D : Ends} {wi : TI} {tl : TE} {ta : TA} {R : It → Hp → Prop} {lo : Int} {n : Nat}
instance s_for : Stp (tFor wi g tb D σ H) (wi σ H fun J H1 => forS J g tb D σ H1) := ⟨id⟩
instance s_iL : Stp (iList K tl σ H R) (tl σ H fun x H1 => isL K x H1 R) := ⟨id⟩
instance s_iT : Stp (iTup K tl σ H R) (tl σ H fun x H1 => isT K x H1 R) := ⟨id⟩
instance s_iR1 : Stp (iRng1 ta σ H R) (ta σ H fun vs H1 => isR1 vs H1 R) := ⟨id⟩
theorem r_isL (h : H p = some (.lst xs)) (q : R (Itl K p) H) : isL K (.ref p) H R := ⟨p, rfl, ⟨xs, SqL.of h⟩, q⟩
theorem r_isT (h : SqT K H p xs) (q : R (Itt K p) H) : isT K (.ref p) H R := ⟨p, rfl, ⟨xs, h⟩, q⟩
theorem r_isR1 {j : Int} (h : -1000000000 ≤ j ∧ j ≤ 1000000000) (q : R (Itr 0 j.toNat) H) : isR1 [.int j] H R := ⟨j, rfl, by omega, by omega, q⟩
/-- a for over a list that stands at p all along -/
theorem r_forL (xs : List V) (Pv : Nat → St → Hp → Prop) (h0 : Pv 0 σ H) (hG : ∀ i σ' H', Pv i σ' H' → H' p = some (.lst xs))
    (hs : ∀ i x σ' H', xs[i]? = some x → Pv i σ' H' → g x σ' H' fun σ2 H2 => tb ⟨Pv (i + 1), rt, nx, Pv (i + 1)⟩ σ2 H2) (hd : ∀ σ' H', Pv xs.length σ' H' → nx σ' H') : forS (Itl K p) g tb ⟨nx, rt, bk, ct⟩ σ H :=
  for_it (walk_list (K := K) (a := p) (xs := xs)) Pv h0 (fun i σ' H' _ h => SqL.of (hG i σ' H' h)) (fun i x σ' H1 H2 _ h y => by obtain ⟨rfl, y⟩ := y; exact hs i x σ' _ y h) hd
theorem r_forLI (ns : List Int) (Pv : Nat → St → Hp → Prop) (h0 : Pv 0 σ H) (hG : ∀ i σ' H', Pv i σ' H' → H' p = some (.lst (ns.map V.int)))
    (hs : ∀ i (y : Int) σ' H', ns[i]? = some y → Pv i σ' H' → g (.int y) σ' H' fun σ2 H2 => tb ⟨Pv (i + 1), rt, nx, Pv (i + 1)⟩ σ2 H2) (hd : ∀ σ' H', Pv ns.length σ' H' → nx σ' H') : forS (Itl K p) g tb ⟨nx, rt, bk, ct⟩ σ H := by
  refine r_forL (ns.map V.int) Pv h0 hG (fun i x σ' H' e h => ?_) (by rw [List.length_map]; exact hd)
  rw [List.getElem?_map] at e
  cases q : ns[i]? with
  | none =>
    rw [q] at e
    cases e
  | some y =>
    rw [q] at e
    cases e
    exact hs i y σ' H' q h
theorem r_forT (xs : List V) (Pv : Nat → St → Hp → Prop) (h0 : Pv 0 σ H) (hG : ∀ i σ' H', Pv i σ' H' → SqT K H' p xs)
    (hs : ∀ i x σ' H', xs[i]? = some x → Pv i σ' H' → g x σ' H' fun σ2 H2 => tb ⟨Pv (i + 1), rt, nx, Pv (i + 1)⟩ σ2 H2) (hd : ∀ σ' H', Pv xs.length σ' H' → nx σ' H') : forS (Itt K p) g tb ⟨nx, rt, bk, ct⟩ σ H :=
  for_it (walk_tup (K := K) (a := p) (xs := xs)) Pv h0 (fun i σ' H' _ h => hG i σ' H' h) (fun i x σ' H1 H2 _ h y => by obtain ⟨rfl, y⟩ := y; exact hs i x σ' _ y h) hd
theorem r_forR (Pv : Nat → St → Hp → Prop) (h0 : Pv 0 σ H)
    (hs : ∀ i σ' H', i < n → Pv i σ' H' → g (.int (lo + (i : Int))) σ' H' fun σ2 H2 => tb ⟨Pv (i + 1), rt, nx, Pv (i + 1)⟩ σ2 H2) (hd : ∀ σ' H', Pv n σ' H' → nx σ' H') : forS (Itr lo n) g tb ⟨nx, rt, bk, ct⟩ σ H :=
  for_it walk_range Pv h0 (fun _ _ _ _ _ => trivial) (fun i x σ' H1 H2 hi h y => by obtain ⟨rfl, rfl⟩ := y; exact hs i σ' _ hi h) hd
theorem any_take {α : Type} {l : List α} {f : α → Bool} {i : Nat} {x : α} (h : l[i]? = some x) : (l.take (i + 1)).any f = ((l.take i).any f || f x) := by
  rw [List.take_add_one, h, List.any_append]
  simp
end
/-! ### comprehensions -/
def apS (D : Addr) (y : V) (H : Hp) (R : Hp → Prop) : Prop := ∃ acc, H D = some (.lst acc) ∧ acc.length < sizeLine ∧ R (upd H D (.lst (acc ++ [y])))
def wpS (σ2 σ : St) (vs : List Nat) (R : Prop) : Prop := wipe σ2 vs = wipe σ vs ∧ R
def lcS (J : It) (g : TG) (tt : TT) (te : TE) (vs : List Nat) (σ : St) (H1 : Hp) (Q : VK) : Prop := ∀ D, H1 D = none → ∃ W : Nat → Nat → Hp → Prop, (∃ m, W 0 m (upd H1 D (.lst []))) ∧ ∀ i m H, W i m H →
  (J.stop i H ∧ Q (.ref D) H) ∨ (J.go i H ∧ ∃ Nx : Hp → Prop, (∀ H', Nx H' → ∃ m', m' < m ∧ W (i + 1) m' H') ∧ ∀ x H', J.yld i H x H' → g x (wipe σ vs) H' fun σ2 H2 => wipe σ2 vs = wipe σ vs ∧ tt σ2 H2 fun b H3 =>
    if b = true then te σ2 H3 fun y H4 => ∃ acc, H4 D = some (.lst acc) ∧ acc.length < sizeLine ∧ Nx (upd H4 D (.lst (acc ++ [y]))) else Nx H3)
class SetN (σ : St) (n : Nat) (σ' : outParam St) : Prop where
  e : σ.set n none = σ'
instance setn0 {x : Option V} {σ : St} : SetN (x :: σ) 0 (none :: σ) := ⟨rfl⟩
instance setnS {x : Option V} {σ σ' : St} {n : Nat} [a : SetN σ n σ'] : SetN (x :: σ) (n + 1) (x :: σ') := ⟨by rw [List.set_cons_succ, a.e]⟩
class Wip (σ : St) (vs : List Nat) (σ' : outParam St) : Prop where
  e : wipe σ vs = σ'
instance wip0 {σ : St} : Wip σ [] σ := ⟨rfl⟩
instance wipS {σ σ1 σ2 : St} {v : Nat} {vs : List Nat} [a : Wip σ vs σ1] [b : SetN σ1 v σ2] : Wip σ (v :: vs) σ2 := ⟨by unfold wipe; rw [a.e, b.e]⟩
instance wipM0 {σ : St} : Wip σ (List.map (fun x : Str × Nat => x.2) []) σ := ⟨rfl⟩
instance wipMS {σ σ1 σ2 : St} {x : Str} {v : Nat} {own : List (Str × Nat)} [a : Wip σ (List.map (fun x : Str × Nat => x.2) own) σ1] [b : SetN σ1 v σ2] : Wip σ (List.map (fun x : Str × Nat => x.2) ((x, v) :: own)) σ2 := ⟨by rw [List.map_cons]; unfold wipe; rw [a.e, b.e]⟩
section
variable {σ σ0 : St} {H : Hp} {K : PySem.W.Frag} {p : Addr} {xs : List V} {g : TG} {wi : TI} {tt : TT} {te : TE} {vs : List Nat} {Q : VK} {J : It} {n : Nat} {lo : Int}
instance s_lc : Stp (tLc wi g tt te vs σ H Q) (wi σ H fun J H1 => lcS J g tt te vs σ H1 Q) := ⟨id⟩
instance s_yes {R : Bool → Hp → Prop} : Stp (tYes σ H R) (R true H) := ⟨id⟩
instance s_wp {R : Prop} {σ2 : St} [a : Wip σ2 vs σ0] [b : Wip σ vs σ0] : Stp (wpS σ2 σ vs R) R := ⟨fun h => ⟨by rw [a.e, b.e], h⟩⟩
theorem r_ap {D : Addr} {y : V} {R : Hp → Prop} {acc : List V} (h : H D = some (.lst acc)) (hl : acc.length < sizeLine) (q : ∀ H2, H2 D = some (.lst (acc ++ [y])) → Kp [D] H H2 → R H2) : apS D y H R :=
  ⟨acc, h, hl, q _ upd_same (Kp.put h trivial)⟩
theorem lc_by {G : Hp → Prop} {Y : Nat → Hp → V → Hp → Prop} (w : Walk J n G Y) [hw : Wip σ vs σ0] (Pv : Addr → Nat → Hp → Prop) (h0 : ∀ D H2, H D = none → H2 D = some (.lst []) → Kp [] H H2 → Pv D 0 H2) (hG : ∀ D i H', Pv D i H' → G H')
    (hs : ∀ D i x H' H'', i < n → Pv D i H' → Y i H' x H'' → g x σ0 H'' fun σ2 H2 => wpS σ2 σ vs (tt σ2 H2 fun b H3 => iteP b (te σ2 H3 fun y H4 => apS D y H4 (Pv D (i + 1))) (Pv D (i + 1) H3)))
    (hd : ∀ D H', Pv D n H' → Q (.ref D) H') : lcS J g tt te vs σ H Q := by
  intro D hD
  refine lc_it w (Pv D) (h0 D _ hD upd_same (Kp.new hD)) (fun i H' _ h => hG D i H' h) ?_ (hd D)
  intro i x H' H'' hi h y
  rw [hw.e]
  have q := hs D i x H' H'' hi h y
  unfold wpS at q
  rw [hw.e] at q
  exact q
theorem r_lcT (xs : List V) [hw : Wip σ vs σ0] (Pv : Addr → Nat → Hp → Prop) (h0 : ∀ D H2, H D = none → H2 D = some (.lst []) → Kp [] H H2 → Pv D 0 H2) (hG : ∀ D i H', Pv D i H' → SqT K H' p xs)
    (hs : ∀ D i x H', xs[i]? = some x → Pv D i H' → g x σ0 H' fun σ2 H2 => wpS σ2 σ vs (tt σ2 H2 fun b H3 => iteP b (te σ2 H3 fun y H4 => apS D y H4 (Pv D (i + 1))) (Pv D (i + 1) H3)))
    (hd : ∀ D H', Pv D xs.length H' → Q (.ref D) H') : lcS (Itt K p) g tt te vs σ H Q :=
  lc_by (walk_tup (K := K) (a := p) (xs := xs)) Pv h0 hG (fun D i x H1 H2 _ h y => by obtain ⟨rfl, y⟩ := y; exact hs D i x _ y h) hd
theorem r_lcL (xs : List V) [hw : Wip σ vs σ0] (Pv : Addr → Nat → Hp → Prop) (h0 : ∀ D H2, H D = none → H2 D = some (.lst []) → Kp [] H H2 → Pv D 0 H2) (hG : ∀ D i H', Pv D i H' → H' p = some (.lst xs))
    (hs : ∀ D i x H', xs[i]? = some x → Pv D i H' → g x σ0 H' fun σ2 H2 => wpS σ2 σ vs (tt σ2 H2 fun b H3 => iteP b (te σ2 H3 fun y H4 => apS D y H4 (Pv D (i + 1))) (Pv D (i + 1) H3)))
    (hd : ∀ D H', Pv D xs.length H' → Q (.ref D) H') : lcS (Itl K p) g tt te vs σ H Q :=
  lc_by (walk_list (K := K) (a := p) (xs := xs)) Pv h0 (fun D i H' h => SqL.of (hG D i H' h)) (fun D i x H1 H2 _ h y => by obtain ⟨rfl, y⟩ := y; exact hs D i x _ y h) hd
theorem r_lcR [hw : Wip σ vs σ0] (Pv : Addr → Nat → Hp → Prop) (h0 : ∀ D H2, H D = none → H2 D = some (.lst []) → Kp [] H H2 → Pv D 0 H2)
    (hs : ∀ D i H', i < n → Pv D i H' → g (.int (lo + (i : Int))) σ0 H' fun σ2 H2 => wpS σ2 σ vs (tt σ2 H2 fun b H3 => iteP b (te σ2 H3 fun y H4 => apS D y H4 (Pv D (i + 1))) (Pv D (i + 1) H3)))
    (hd : ∀ D H', Pv D n H' → Q (.ref D) H') : lcS (Itr lo n) g tt te vs σ H Q :=
  lc_by walk_range Pv h0 (fun _ _ _ _ => trivial) (fun D i x H1 H2 hi h y => by obtain ⟨rfl, rfl⟩ := y; exact hs D i _ hi h) hd
end
/-! ### rules with the written part by its name (within comprehensions) -/
section
variable {X : Cx} (K : PySem.W.Frag)
theorem ixT (h : X.K = K := by rfl) : IxR X (rIxT K) := h ▸ ix_tup
theorem ixL (h : X.K = K := by rfl) : IxR X (rIxL K) := h ▸ ix_list
theorem inS (h : X.K = K := by rfl) : OpR X (compareOp .In) (rIn K false) := h ▸ op_in_seq
theorem notInS (h : X.K = K := by rfl) : OpR X (compareOp .NotIn) (rIn K true) := h ▸ op_notIn_seq
theorem cgLen (h : X.K = K := by rfl) : CallR X (.builtin "len") (rLen K) := h ▸ cg_len
theorem cgList (h : X.K = K := by rfl) : CallR X (.type "list") (rListOf K) := h ▸ cg_list
theorem cgTuple (h : X.K = K := by rfl) : CallR X (.type "tuple") (rTupOf K) := h ▸ cg_tuple
theorem cgIsi (h : X.K = K := by rfl) : CallR X (.builtin "isinstance") (rIsi K) := h ▸ call_isi
theorem eqD {k : Nat} {A : Around} (r : Room k A) (h : X.K = K := by rfl) (ha : X.A = A := by rfl) : OpR X (compareOp .Eq) (rEqD K) := h ▸ op_eqD (by rw [ha]; exact r.units)
theorem neD {k : Nat} {A : Around} (r : Room k A) (h : X.K = K := by rfl) (ha : X.A = A := by rfl) : OpR X (compareOp .NotEq) (rNeD K) := h ▸ op_neD (by rw [ha]; exact r.units)
theorem slT (h : X.K = K := by rfl) : SlR X (rSlT K) := h ▸ sl_tup
end
/-! ### is None; any, all -/
def rIsNo : R2 := fun x y H Q => y = .non ∧ Q (.bl (decide (x = .non))) H
def rNotNo : R2 := fun x y H Q => y = .non ∧ Q (.bl (!decide (x = .non))) H
theorem cg_isN {X : Cx} : OpR X (compareOp .Is) rIsNo := op_isN
theorem cg_notN {X : Cx} : OpR X (compareOp .IsNot) rNotNo := op_notN
section
variable {H : Hp} {Q : VK} {p : Addr} {K : PySem.W.Frag} {bs : List Bool}
instance s_isN0 : Stp (rIsNo .non .non H Q) (Q (.bl true) H) := ⟨fun h => ⟨rfl, h⟩⟩
instance s_isN1 : Stp (rIsNo (.ref p) .non H Q) (Q (.bl false) H) := ⟨fun h => ⟨rfl, by rw [decide_eq_false (fun e => by cases e)]; exact h⟩⟩
instance s_notN0 : Stp (rNotNo .non .non H Q) (Q (.bl false) H) := ⟨fun h => ⟨rfl, h⟩⟩
instance s_notN1 : Stp (rNotNo (.ref p) .non H Q) (Q (.bl true) H) := ⟨fun h => ⟨rfl, by rw [decide_eq_false (fun e => by cases e)]; exact h⟩⟩
theorem r_any (h : H p = some (.lst (bs.map V.bl))) (q : Q (.bl (bs.any id)) H) : rAny K [.ref p] H Q := ⟨p, bs, rfl, SqL.of h, q⟩
theorem r_all (h : H p = some (.lst (bs.map V.bl))) (q : Q (.bl (bs.all id)) H) : rAll K [.ref p] H Q := ⟨p, bs, rfl, SqL.of h, q⟩
end
/-! ### list methods -/
instance s_bm {K : PySem.W.Frag} {T : String} {r : V → List V → Hp → VK → Prop} {to : TE} {t : TA} {σ : St} {H : Hp} {Q : VK} : Stp (tBM K T r to t σ H Q) (to σ H fun x H1 => tyV K T x H1 ∧ t σ H1 fun xs H2 => r x xs H2 Q) := ⟨id⟩
theorem r_tyL {K : PySem.W.Frag} {H : Hp} {l : Addr} {xs : List V} {R : Prop} (h : H l = some (.lst xs)) (q : R) : tyV K "list" (.ref l) H ∧ R := ⟨.inl ⟨rfl, xs, SqL.of h⟩, q⟩
theorem r_app {H : Hp} {l : Addr} {xs : List V} {y : V} {Q : VK} (h : H l = some (.lst xs)) (hl : xs.length < sizeLine) (q : ∀ H2, H2 l = some (.lst (xs ++ [y])) → Kp [l] H H2 → Q .non H2) : rAppend (.ref l) [y] H Q :=
  ⟨l, xs, y, rfl, rfl, h, hl, q _ upd_same (Kp.put h trivial)⟩
section
variable {H : Hp} {Q : VK} {l p : Addr} {K : PySem.W.Frag} {xs : List V} {y : V} {i : Int}
def rIns : V → List V → Hp → VK → Prop := fun x vs H Q => ∃ (l : Addr) (xs : List V) (i : Int) (y : V), x = .ref l ∧ vs = [.int i, y] ∧ H l = some (.lst xs) ∧ xs.length < sizeLine ∧ 0 ≤ i ∧ i < 2 ^ 63 ∧ Q .non (upd H l (.lst (xs.take i.toNat ++ [y] ++ xs.drop i.toNat)))
theorem cg_insert {X : Cx} : MtR X "list.insert" rIns := mt_insert
theorem r_ins (h : H l = some (.lst xs)) (hl : xs.length < sizeLine) (h0 : 0 ≤ i) (h1 : i ≤ 1000000) (q : ∀ H2, H2 l = some (.lst (xs.take i.toNat ++ [y] ++ xs.drop i.toNat)) → Kp [l] H H2 → Q .non H2) : rIns (.ref l) [.int i, y] H Q :=
  ⟨l, xs, i, y, rfl, rfl, h, hl, h0, by omega, q _ upd_same (Kp.put h trivial)⟩
theorem r_pop (h : H l = some (.lst xs)) (h0 : 0 ≤ i) (h1 : i < xs.length) (h2 : i ≤ 1000000) (q : ∀ y H2, xs[i.toNat]? = some y → H2 l = some (.lst (xs.eraseIdx i.toNat)) → Kp [l] H H2 → Q y H2) : rPopAt (.ref l) [.int i] H Q := by
  have e : i.toNat < xs.length := by omega
  refine ⟨l, xs, i, i.toNat, xs[i.toNat], rfl, rfl, h, by omega, by omega, ?_, List.getElem?_eq_getElem e, q _ _ (List.getElem?_eq_getElem e) upd_same (Kp.put h trivial)⟩
  unfold seqIndex?
  rw [if_neg (by omega : ¬ i < 0)]
  simp
  omega
theorem r_listT (h : SqT K H p xs) (q : ∀ l H2, H l = none → H2 l = some (.lst xs) → Kp [] H H2 → Q (.ref l) H2) : rListOf K [.ref p] H Q := ⟨p, xs, rfl, .inr h, fun l hl => q l _ hl upd_same (Kp.new hl)⟩
instance s_sl {r : V → Option Int → Option Int → Hp → VK → Prop} {te : TE} {tl th : TO} {σ : St} : Stp (tSl r te tl th σ H Q) (te σ H fun x H1 => tl σ H1 fun l H2 => th σ H2 fun u H3 => r x l u H3 Q) := ⟨id⟩
instance s_noPart {σ : St} {R : Option Int → Hp → Prop} : Stp (tNoPart σ H R) (R Option.none H) := ⟨id⟩
def asI (x : V) (R : Int → Prop) : Prop := ∃ i, x = .int i ∧ R i
instance s_asI {R : Int → Prop} : Stp (asI (.int i) R) (R i) := ⟨fun h => ⟨i, rfl, h⟩⟩
instance s_part {te : TE} {σ : St} {R : Option Int → Hp → Prop} : Stp (tPart te σ H R) (te σ H fun x H1 => asI x fun i => R (some i) H1) := ⟨id⟩
theorem r_slL {lo hi : Option Int} (h : H p = some (.lst xs)) (q : ∀ l H2, H l = none → H2 l = some (.lst (cutV xs lo hi)) → Kp [] H H2 → Q (.ref l) H2) : rSlL K (.ref p) lo hi H Q := ⟨p, xs, rfl, SqL.of h, fun l hl => q l _ hl upd_same (Kp.new hl)⟩
theorem slL {X : Cx} (K : PySem.W.Frag) (h : X.K = K := by rfl) : SlR X (rSlL K) := h ▸ sl_list
theorem cut_from {i : Int} (h : 0 ≤ i) : cutV xs (some i) none = xs.drop i.toNat := by
  obtain ⟨k, rfl⟩ : ∃ k : Nat, i = k := ⟨i.toNat, by omega⟩
  unfold cutV
  rw [HT.sIx_nat, HT.sIx_none, Int.toNat_natCast]
  by_cases hk : k ≤ xs.length
  · rw [Nat.min_eq_left hk, List.take_of_length_le (by rw [List.length_drop]; omega)]
  · rw [Nat.min_eq_right (by omega), List.drop_eq_nil_of_le (Nat.le_refl _), List.drop_eq_nil_of_le (by omega), List.take_nil]
/-- a list of bools in which True, False stands -/
theorem flat_bls (bs : List Bool) : (bs.map V.bl).all flatV = true := by
  induction bs with
  | nil => rfl
  | cons b bs ih => simpa [flatV] using ih
theorem inV_true (bs : List Bool) : inV (.bl true) (bs.map V.bl) = bs.any id := by
  unfold inV
  rw [List.any_map]
  congr 1
  funext b
  cases b <;> rfl
theorem inV_false (bs : List Bool) : (!inV (.bl false) (bs.map V.bl)) = bs.all id := by
  unfold inV
  induction bs with
  | nil => rfl
  | cons b bs ih =>
    simp only [List.map_cons, List.any_cons, List.all_cons, Bool.not_or, ih]
    cases b <;> rfl
end
/-! ### the walk's own steps (rows of tactics) -/
local macro_rules | `(tactic| walk_at "cg yes") => `(tactic| (first
  | assumption | decide | omega | (simp; done)
  | fail))
local macro_rules | `(tactic| walk_at "cg ne") => `(tactic| (first
  | assumption | (apply Ne.symm; assumption) | exact ne_newL (by assumption) (by walk_at "cg h") | exact ne_newR (by assumption) (by walk_at "cg h")
  | fail))
/-- what stands at an address, a tuple, from the last heap backwards -/
local macro_rules | `(tactic| walk_at "cg h") => `(tactic| (first
  | assumption
  | ((with_reducible show _ = some _); first
      | exact Kp.get0 (by assumption) (by walk_at "cg h") | exact Kp.get1 (by assumption) (by walk_at "cg ne") (by walk_at "cg h"))
  | ((with_reducible show SqT _ _ _ _); exact Kp.tup (by assumption) (by walk_at "cg h"))
  | ((with_reducible show Im _ _ _ _); exact Kp.im (by assumption) (by walk_at "cg h"))
  | ((with_reducible show ImAll _ _ _ _); exact Kp.imAll (by assumption) (by walk_at "cg h"))
  | fail))
/-- an address that was free -/
local macro_rules | `(tactic| walk_at "cg fr") => `(tactic| (first
  | assumption
  | exact Kp.free0 (by assumption) (by assumption)
  | exact Kp.free0 (by walk_at "cg kp") (by assumption)
  | fail))
/-- the frame from the entry on -/
local macro_rules | `(tactic| walk_at "cg kp") => `(tactic| (first
  | assumption
  | exact Kp.refl
  | exact Kp.tr0 (by assumption) (by walk_at "cg kp")
  | exact Kp.tr1 (by assumption) (by walk_at "cg kp")
  | exact Kp.trN (by assumption) (by walk_at "cg kp") (by walk_at "cg fr")
  | fail))
local macro_rules | `(tactic| walk_at "cg ty") => `(tactic| (first
  | exact .base (.int _) | exact .base (.bl _) | exact .base (.str _) | exact .base .non | exact SqT.ty (by walk_at "cg h") | exact .base (.lst (by walk_at "cg h"))
  | fail))
local macro_rules | `(tactic| walk_at "cg C") => `(tactic| (first
  | assumption | exact (show CMul _ _ from .inl ⟨by omega, by omega⟩) | exact (show CMul _ _ from .inr ⟨by omega, by omega⟩) | omega | decide
  | exact ⟨by decide, by decide, by decide⟩ | exact ⟨by omega, by omega⟩
  | fail))
local macro_rules | `(tactic| walk_at "cg s") => `(tactic| (first
  | (refine go1 inferInstance inferInstance ?_)
  | ((with_reducible refine r_rI ?_ ?_); (focus (walk_at "cg C")))
  | ((with_reducible apply r_ixL); (focus (walk_at "cg h")); exact rfl)
  | ((with_reducible apply r_ixT); (focus (walk_at "cg h")); exact rfl)
  | ((with_reducible apply r_lenL); (focus (walk_at "cg h")))
  | ((with_reducible apply r_lenT); (focus (walk_at "cg h")))
  | ((with_reducible apply r_gTup); (focus (walk_at "cg h")); exact rfl)
  | ((with_reducible refine r_mkT (K := ‹PySem.W.Frag›) ?_ ?_); (focus (exact Nat.le_of_ble_eq_true rfl)); intro _ _ _ _ _)
  | ((with_reducible refine r_mkL ?_ ?_); (focus (exact Nat.le_of_ble_eq_true rfl)); intro _ _ _ _ _)
  | ((with_reducible apply r_tupleL); (focus (walk_at "cg h")); intro _ _ _ _ _)
  | ((with_reducible apply r_listT); (focus (walk_at "cg h")); intro _ _ _ _ _)
  | ((with_reducible apply r_slL); (focus (walk_at "cg h")); intro _ _ _ _ _)
  | ((with_reducible apply r_listL); (focus (walk_at "cg h")); intro _ _ _ _ _)
  | ((with_reducible apply r_setL); (focus (walk_at "cg h")); exact rfl)
  | ((with_reducible apply r_isi); (focus (exact .ty _)); (focus (walk_at "cg ty")); (focus (first | exact kit_ty (r := true) (by decide +kernel) | exact kit_ty (r := false) (by decide +kernel))))
  | ((with_reducible apply r_inL); (focus (walk_at "cg h")); exact rfl; exact rfl; (focus (first | exact (by decide +kernel : _ = true) | exact (by decide +kernel : _ = false))))
  | ((with_reducible apply r_inT); (focus (walk_at "cg h")); exact rfl; exact rfl; (focus (first | exact (by decide +kernel : _ = true) | exact (by decide +kernel : _ = false))))
  | ((with_reducible apply r_tyL); (focus (walk_at "cg h")))
  | ((with_reducible refine r_app (xs := ?xs) ?h ?hl ?_); (case h => walk_at "cg h"); (case hl => first | exact Nat.lt_of_sub_pos (by decide) | (apply small1000; omega) | (apply small1000; simp; done) | (apply small1000; simp; omega)); intro _ _ _)
  | ((with_reducible apply r_isL); (focus (walk_at "cg h")))
  | ((with_reducible apply r_isT); (focus (walk_at "cg h")))
  | ((with_reducible apply r_isR1); (focus (first | omega | (constructor <;> decide))))
  | ((with_reducible refine if_T ?_ ?_); (focus (walk_at "cg yes"))) | ((with_reducible refine if_F ?_ ?_); (focus (walk_at "cg yes")))
  | ((with_reducible refine if_NT ?_ ?_); (focus (walk_at "cg yes"))) | ((with_reducible refine if_NF ?_ ?_); (focus (walk_at "cg yes")))
  | fail))
local macro_rules | `(tactic| walk_at "cg") => `(tactic| repeat (walk_at "cg s"))

/-! ### set(xs) of a list of ints, and sorted of it -/
section
open PySem.Spec PyProof.Rows
variable {P : Program} {w : World} {A : Around} {E : Value → Shared → Prop} {s : Shared}
/-- a new empty set; the iterator of the list at l -/
def oSet (w : World) : Obj := ⟨.type "set", none, .set #[] 0 (.fresh 0 0 (!w.params.followText "set-order")), #[]⟩
def oIt (l : Addr) : Obj := ⟨.type "list_iterator", none, .fields #[.ref l, .int 0 0], #[]⟩
/-- what the making of the set leaves: the set at n, every elder object -/
def SetDone (w : World) (h0 : Heap) (ns : List Int) (h : Heap) : Prop := ∃ c, SetR w h h0.objs.size (fun j => decide (j ∈ ns)) c ∧ c ≤ ns.length ∧ ∀ b o, h0.get? b = some o → h.get? b = some o
set_option maxHeartbeats 8000000 in
theorem set_made {l : Addr} {vs : Array Value} {ns : List Int} {Q : Value → Shared → Prop} (hc : A.handled = none) (hl : s.heap.IsList l vs) (hv : IntsAre vs.toList ns) (few : ns.length ≤ 4000)
    (q : ∀ h tk, SetDone w s.heap ns h → Q (.ref s.heap.objs.size) { s with heap := h, toks := tk }) : wpAny (model P w) A (call (.type "set") [.ref l]) Q E s := by
  have room : ns.length + 1 < scanBound := by unfold scanBound; omega
  have size : vs.size = ns.length := by simpa using IntsAre.length hv
  have atS : (s.heap.push (oSet w)).get? s.heap.objs.size = some (oSet w) := Heap.get?_push_size _ rfl
  have tyS : Shared.TypeIs { s with heap := s.heap.push (oSet w) } (.ref s.heap.objs.size) "set" := ⟨_, atS, rfl⟩
  have e1 := F.called_set.made
  have e2 := F.called_set.sub
  have e3 := F.called_set.notType
  have e4 := F.called_set.canCreate
  have e5 := F.typeCall_set_1 (.ref l)
  have e6 := F.called_set.init.lookup
  have e7 := F.called_set.init.bind (.ref s.heap.objs.size)
  obtain ⟨cc, tl, e0⟩ := F.called_set.mro
  apply wpAny_call
  apply codeAny_of_tree
  show wpAny _ _ (callAny (.type "set") _) _ _ _
  apply wpAny_pure
  refine ⟨Code.quiet_builtin _ (by decide +kernel), ?_⟩
  apply codeAny_builtin F.entry_type_call
  rw [Around.under_plain (weight_type_call_type "set" [.ref l] []) rfl]
  repeat any_goals first | wp_step | assumption
  refine codeAny_mono (code_set_led1 (E := E) (.ref l) (Q₁ := fun v z => v = .ref s.heap.objs.size ∧ z = { s with heap := s.heap.push (oSet w) }) ⟨rfl, rfl⟩) ?_
  rintro (e | f) z hz
  · exact hz
  · cases f
    case ret v =>
      obtain ⟨rfl, rfl⟩ := hz
      repeat any_goals first | wp_step | assumption
      refine codeAny_mono (codeAny_call_builtin F.called_set.init.plain F.entry_set_init (check_set_init_1 tyS ?go)
        (R := wants (fun r z => r = .none ∧ ∃ h tk, z = { s with heap := h, toks := tk } ∧ SetDone w s.heap ns h) E)) ?_
      case go =>
        obtain ⟨⟨c0, d0, t0, s0⟩, at0, cl0, n0, da0⟩ := hl
        dsimp only at cl0 da0
        subst cl0 da0
        have atL : (s.heap.push (oSet w)).get? l = some ⟨.type "list", d0, .seq vs n0, s0⟩ := Heap.get?_push_of_some _ at0
        have isL : (s.heap.push (oSet w)).IsList l vs := ⟨_, atL, rfl, n0, rfl⟩
        have f1 := F.sub_list_set
        have f2 := F.sub_list_frozenset
        have f3 : (Value.type "list" == Value.type "dict") = false := by decide
        unfold Builtin.«set.__init__» noKeywords Builtin.Frozenset.updateFrom
        generalize hw : pyIter = it0
        wp_walk
        subst hw
        apply wpAny_pyIter_list isL
        apply wpAny_bind
        apply wpAny_runValue
        have small : l < s.heap.objs.size := Heap.lt_size at0
        have big : (s.heap.push (oSet w)).objs.size = s.heap.objs.size + 1 := Heap.size_push ..
        have calm : A.in1.in1.in1.handled = none := by simpa using hc
        have n1 : l ≠ (s.heap.push (oSet w)).objs.size := by
          rw [big]
          exact Nat.ne_of_lt (Nat.lt_succ_of_lt small)
        have n2 : s.heap.objs.size ≠ (s.heap.push (oSet w)).objs.size := by
          rw [big]
          exact Nat.ne_of_lt (Nat.lt_succ_self _)
        refine set_update_ints (Walks.list calm _ l n1 vs).toS s.heap.objs.size (fun hm => ?f1) ns size room (fun i v ev => ?f2) (vs.size - 0) 0 _ rfl (Nat.zero_le _)
          ⟨⟨_, Heap.get?_push_size _ rfl, rfl, rfl⟩, isL.push _⟩ ⟨0, Nat.le_refl 0, setR_new_at (Heap.get?_push_of_some _ atS)⟩ ?f3
        case f1 =>
          rcases List.mem_cons.mp hm with e | hm
          · exact n2 e
          · exact Nat.ne_of_gt small (List.mem_singleton.mp hm)
        case f2 =>
          have hi : i < ns.length := size ▸ (Array.getElem?_eq_some_iff.mp ev).1
          obtain ⟨t, e⟩ := IntsAre.int_at hv i v (by simpa using ev)
          exact ⟨ns[i], t, by simp [hi], by simp [e, hi]⟩
        case f3 =>
          rintro ⟨h, g, d, tk, os⟩ c moved hcn hS
          obtain rfl : g = s.gens := moved.gens
          obtain rfl : d = s.drawn := moved.drawn
          obtain rfl : os = s.os := moved.os
          apply wpAny_pure
          show wpAny _ _ (ret Value.none) _ _ _
          apply wpAny_pure
          refine ⟨rfl, h, tk, rfl, c, hS, by omega, fun b o e => ?_⟩
          have lt := Heap.lt_size e
          refine moved.heap b o (fun hm => ?_) (Heap.get?_push_of_some _ (Heap.get?_push_of_some _ e))
          rcases List.mem_cons.mp hm with e | hm
          · exact Nat.ne_of_lt lt e
          · have e : b = (s.heap.push (oSet w)).objs.size := List.mem_singleton.mp hm
            rw [big] at e
            exact Nat.ne_of_lt (Nat.lt_succ_of_lt lt) e
      rintro (e | f) z hz
      · exact hz
      · cases f
        case ret v =>
          obtain ⟨rfl, h, tk, rfl, done⟩ := hz
          repeat any_goals first | wp_step | assumption
          exact q h tk done
        all_goals exact hz.elim
    all_goals exact hz.elim
end
/-- set(xs), xs a list of ints -/
def rSetL (K : PySem.W.Frag) (w : World) : List V → Hp → VK → Prop := fun vs H Q => ∃ (l : Addr) (ns : List Int), vs = [.ref l] ∧ SqL K H l (ns.map V.int) ∧ ns.length ≤ 4000 ∧
  ∀ p c, H p = none → c ≤ ns.length → (∀ us : List Int, (∀ j ∈ ns, j ∈ us) → c ≤ us.length) → Q (.ref p) (upd H p (SetO w p (fun j => decide (j ∈ ns)) c))
theorem nodup_le0 : ∀ {ns us : List Int}, ns.Nodup → (∀ k ∈ ns, k ∈ us) → ns.length ≤ us.length
  | [], _, _, _ => Nat.zero_le _
  | n :: ns, us, h, s => by
    rw [List.nodup_cons] at h
    have m := s n List.mem_cons_self
    have q := nodup_le0 (ns := ns) (us := us.erase n) h.2 fun k hk => (List.mem_erase_of_ne fun e => h.1 (by rw [← e]; exact hk)).mpr (s k (List.mem_cons_of_mem _ hk))
    rw [List.length_erase_of_mem m] at q
    have := List.length_pos_of_mem m
    rw [List.length_cons]
    omega
theorem setR_card {w : World} {h : Heap} {a : Addr} {S : Int → Bool} {c : Nat} (R : SetR w h a S c) {us : List Int} (hs : ∀ k, S k = true → k ∈ us) : c ≤ us.length := by
  obtain ⟨o, es, ep, t, _, _, _, _, nd, iff, _, _, hsz, _⟩ := R
  have q := nodup_le0 nd fun k hk => hs k ((iff k).mpr hk)
  rw [List.length_map] at q
  have : es.toList.length = es.size := by simp
  omega
theorem cg_setL {X : Cx} (hc : X.calm = true) : CallR X (.type "set") (rSetL X.K X.w) := by
  rintro pins s σ H vs us Q I r ⟨l, ns, rfl, hS, hn, q⟩
  obtain ⟨its, rv, pl, hz⟩ := I.list hS
  have e1 := Vals.ref1 r
  subst e1
  have hv : PyProof.Rows.IntsAre its.toArray.toList ns := by simpa using rv.ints
  refine set_made (I.ok.hd hc) pl.isList hv hn ?_
  rintro h tk ⟨c, hR, hcn, keep⟩
  have free : H s.heap.objs.size = none := I.hok.fresh (Nat.le_refl _)
  exact ⟨.ref _, _, I.laid (t' := tk) keep (Nat.le_refl _) (setO_new hR), rfl, q _ c free hcn fun us hu => setR_card hR fun k hk => hu k (of_decide_eq_true hk)⟩

/-! ### sets of tuples of flat things (ints, texts, bools, None) -/
section
open PySem.Spec PyProof.Rows
variable {P : Program} {w : World} {κ : Type} [DecidableEq κ] {kn : KeyKind P w κ} {A : Around} {E : Value → Shared → Prop} {s : Shared}
theorem tv_cls (n : Nat) {v : Value} (h : carriedByValue v = true) : ofAClassStatement n v = pure false := by
  cases v with
  | ref a => simp [carriedByValue] at h
  | _ => cases n <;> rfl
theorem tv_hash (n : Nat) {v : Value} (h : carriedByValue v = true) : ∃ b, hashByValue n v = pure b := by
  cases v with
  | ref a => simp [carriedByValue] at h
  | _ => cases n <;> exact ⟨_, rfl⟩
/-- a tuple of flat things is of no class statement -/
theorem tt_cls {k : List κ} {b : Addr} {Q : Bool → Shared → Prop} (T : IsTupleKey kn s.heap k b) (q : Q false s) : wpAny (model P w) A (ofAClassStatement 8 (.ref b)) Q E s := by
  have ty := T.typeIs
  obtain ⟨o, its, n, at0, _, da, ia⟩ := T
  unfold ofAClassStatement
  refine wpAny_bind (wpAny_typeOf ty ?_)
  dsimp only
  have e0 : (("tuple" : String) == "tuple") = true := by decide
  simp only [e0, if_true, Bool.not_true, Bool.false_eq_true, if_false]
  try refine wpAny_bind (wpAny_pure ?_)
  try simp only [Bool.not_true, Bool.false_eq_true, if_false]
  show wpAny _ _ (seqItems? (.ref b) >>= _) _ _ s
  refine wpAny_bind (wpAny_seqItems at0 da ?_)
  dsimp only
  refine wpAny_bind ?_
  show wpAny _ _ (forIn its _ _) _ _ s
  rw [← Array.forIn_toList]
  refine wpAny_forIn_list _ (fun left st z => st.1 = none ∧ z = s ∧ ∀ v ∈ left, carriedByValue v = true) _ ?_ ?_ _ _ ⟨rfl, rfl, ia.byValue⟩
  · rintro v left st z ⟨e1, rfl, all⟩
    rw [tv_cls _ (all v List.mem_cons_self)]
    refine wpAny_bind (wpAny_pure ?_)
    simp only [Bool.false_eq_true, if_false]
    exact wpAny_pure ⟨rfl, rfl, fun u hu => all u (List.mem_cons_of_mem _ hu)⟩
  · rintro ⟨x, y⟩ z ⟨e1, rfl, _⟩
    simp only at e1
    subst e1
    exact wpAny_pure q
/-- whether its hash is by value: one of both -/
theorem tt_hash {k : List κ} {b : Addr} {Q : Bool → Shared → Prop} (T : IsTupleKey kn s.heap k b) (q : ∀ r, Q r s) : wpAny (model P w) A (hashByValue 8 (.ref b)) Q E s := by
  have ty := T.typeIs
  obtain ⟨o, its, n, at0, _, da, ia⟩ := T
  unfold hashByValue
  refine wpAny_bind (wpAny_specialOf ty F.slot_tuple_hash.lookup ?_)
  show wpAny _ _ (seqItems? (.ref b) >>= _) _ _ s
  refine wpAny_bind (wpAny_seqItems at0 da ?_)
  refine wpAny_bind ?_
  show wpAny _ _ (forIn its _ _) _ _ s
  rw [← Array.forIn_toList]
  refine wpAny_forIn_list _ (fun left st z => st.1 = none ∧ z = s ∧ ∀ v ∈ left, carriedByValue v = true) _ ?_ ?_ _ _ ⟨rfl, rfl, ia.byValue⟩
  · rintro v left st z ⟨e1, rfl, all⟩
    obtain ⟨r, e2⟩ := tv_hash 7 (all v List.mem_cons_self)
    rw [e2]
    refine wpAny_bind (wpAny_pure ?_)
    cases r
    · simp only [Bool.not_false, if_true]
      exact wpAny_pure (wpAny_pure (q false))
    · simp only [Bool.not_true, Bool.false_eq_true, if_false]
      exact wpAny_pure ⟨rfl, rfl, fun u hu => all u (List.mem_cons_of_mem _ hu)⟩
  · rintro ⟨x, y⟩ z ⟨e1, rfl, _⟩
    simp only at e1
    subst e1
    exact wpAny_pure (q true)
/-- a search among such tuples shows nothing -/
theorem tt_seen {k : List κ} {b : Addr} {Q : Bool → Shared → Prop} (T : IsTupleKey kn s.heap k b) {ys : List Value} (hy : ∀ y ∈ ys, ∃ k' c, y = Value.ref c ∧ IsTupleKey kn s.heap k' c) (q : Q false s) :
    wpAny (model P w) A (searchCouldBeSeen (.ref b) ys) Q E s := by
  unfold searchCouldBeSeen
  refine wpAny_bind ?_
  refine wpAny_forIn_list _ (fun left st z => st.1 = none ∧ z = s ∧ ∀ y ∈ left, ∃ k' c, y = Value.ref c ∧ IsTupleKey kn s.heap k' c) _ ?_ ?_ _ _ ⟨rfl, rfl, hy⟩
  · rintro v left st z ⟨e1, rfl, all⟩
    obtain ⟨k', c, rfl, T'⟩ := all v List.mem_cons_self
    have more : ∀ y ∈ left, ∃ k' c, y = Value.ref c ∧ IsTupleKey kn z.heap k' c := fun u hu => all u (List.mem_cons_of_mem _ hu)
    dsimp only
    by_cases hv : (b == c || (carriedByValue (.ref b) && carriedByValue (.ref c))) = true
    · refine wp_if_pos hv ?_
      exact wpAny_pure ⟨rfl, rfl, more⟩
    · refine wp_if_neg hv ?_
      refine wpAny_bind (wpAny_eqIsQuiet_tuple T ?_)
      simp only [Bool.not_true, Bool.false_eq_true, if_false]
      refine wpAny_bind (wpAny_eqIsQuiet_tuple T' ?_)
      simp only [Bool.not_true, Bool.false_eq_true, if_false]
      refine wpAny_bind (tt_cls T ?_)
      simp only [Bool.false_eq_true, if_false]
      refine wpAny_bind (tt_cls T' ?_)
      simp only [Bool.false_eq_true, if_false]
      exact wpAny_pure ⟨rfl, rfl, more⟩
  · rintro ⟨x, y⟩ z ⟨e1, rfl, _⟩
    simp only at e1
    subst e1
    exact wpAny_pure q

variable (kn)
/-- the entries that a list of tuples makes -/
def tEnt (p : Addr × List κ) : Int × Value := (tupleKeyHash kn p.2, .ref p.1)
/-- the set at a holds the tuples of L, in the order of the table -/
structure TSet (h : Heap) (a : Addr) (L : List (Addr × List κ)) (es : Array (Int × Value)) (ep : Nat) (t : SetTable) : Prop where
  ob : ∃ o, h.get? a = some o ∧ o.ExactSet ∧ o.data = .set es ep t
  rows : es.toList = L.map (tEnt kn)
  tab : TabOk t (L.map fun p => tupleKeyHash kn p.2)
  nd : (L.map (·.2)).Nodup
  tup : ∀ p ∈ L, IsTupleKey kn h p.2 p.1
  led : w.params.followText "set-order" = true ∨ t.led = true
  room : L.length * 5 < t.mask * 3
  few : L.length < 64
variable {kn}
variable {a : Addr} {L : List (Addr × List κ)} {es : Array (Int × Value)} {ep : Nat} {t : SetTable}
theorem TSet.size {h : Heap} (R : TSet kn h a L es ep t) : es.size = L.length := by
  have q := congrArg List.length R.rows
  simpa using q
theorem tfits (hp : t.place.size = es.size) (hd : t.dummies = #[]) (hl : es.size ≤ t.mask) : t.fits es.size = true := by
  unfold SetTable.fits SetTable.fill
  rw [hd, Bool.and_eq_true, beq_iff_eq, decide_eq_true_eq]
  show t.place.size = es.size ∧ t.place.size + 0 ≤ t.mask
  omega
theorem TSet.psz {h : Heap} (R : TSet kn h a L es ep t) : t.place.size = es.size := by
  have q := R.tab.sz
  rw [List.length_map] at q
  rw [q, R.size]
theorem TSet.fits {h : Heap} (R : TSet kn h a L es ep t) : t.fits es.size = true := by
  have h2 := R.size
  have h3 := R.room
  exact tfits R.psz R.tab.dm (by omega)
theorem TSet.entry {h : Heap} (R : TSet kn h a L es ep t) {i : Nat} {p : Addr × List κ} (e : L[i]? = some p) : es[i]? = some (tupleKeyHash kn p.2, Value.ref p.1) := by
  rw [← Array.getElem?_toList, R.rows, List.getElem?_map, e]
  rfl
theorem TSet.gw {h : Heap} (R : TSet kn h a L es ep t) : ¬ t.gaveWay = true := by
  unfold SetTable.gaveWay
  rw [mask_odd R.tab.mok]
  decide
theorem TSet.at {h h' : Heap} (R : TSet kn h a L es ep t) (ha : ∀ o, h.get? a = some o → h'.get? a = some o) (ht : ∀ p ∈ L, IsTupleKey kn h' p.2 p.1) : TSet kn h' a L es ep t := by
  obtain ⟨o, ho, r⟩ := R.ob
  exact ⟨⟨o, ha o ho, r⟩, R.rows, R.tab, R.nd, ht, R.led, R.room, R.few⟩
theorem tk_keep {h h' : Heap} {k : List κ} {b : Addr} (T : IsTupleKey kn h k b) (hk : ∀ c o, h.get? c = some o → h'.get? c = some o) : IsTupleKey kn h' k b := by
  obtain ⟨o, its, n, ho, r⟩ := T
  exact ⟨o, its, n, hk b o ho, r⟩
/-- a tuple isn't the set -/
theorem tk_other {h h' : Heap} {k : List κ} {b : Addr} {o : Obj} (T : IsTupleKey kn h k b) (ho : h.get? a = some o) (hd : o.data = .set es ep t) (hs : Heap.SameBut a h h') : IsTupleKey kn h' k b := by
  obtain ⟨o', its, n, ho', hc, hd', hi⟩ := T
  refine ⟨o', its, n, (hs.2 b fun e => ?_).trans ho', hc, hd', hi⟩
  rw [e, ho] at ho'
  rw [← Option.some.inj ho', hd] at hd'
  exact nomatch hd'
theorem nth_dummy (m : Nat) : ∀ (n : Nat) (p : SetTable.Probe), p.dummy = none → (nth m p n).dummy = none
  | 0, _, h => h
  | n + 1, p, h => nth_dummy m n (adv m p) (by unfold adv; split <;> exact h)
/-- the start of a search -/
abbrev ways (m : Nat) (h : Int) : SetTable.Probe := runAt m (SetTable.bits h % (m + 1)) (SetTable.bits h)
set_option maxHeartbeats 8000000 in
/-- the search, from the c-th step of the way on -/
theorem tset_from (R : TSet kn s.heap a L es ep t) {x : Addr} {k : List κ} (hx : IsTupleKey kn s.heap k x) (hu : A.units < cLine) {N : Nat} (N1 : N < 10 * SetTable.turns t.mask)
    (N2 : way t.mask (tupleKeyHash kn k) N ∉ t.place.toList) (N3 : ∀ c, c < N → way t.mask (tupleKeyHash kn k) c ∈ t.place.toList) {Q : SetFound → Shared → Prop}
    (yes : k ∈ L.map (·.2) → Q (.there none) s) (no : k ∉ L.map (·.2) → Q (.free (way t.mask (tupleKeyHash kn k) N) false) s) :
    ∀ (f c : Nat) (stand : Option SetTable.Probe), stand.getD (t.probeStart (tupleKeyHash kn k)) = nth t.mask (ways t.mask (tupleKeyHash kn k)) c → c ≤ N → N - c < f →
      (∀ (i : Nat) p, L[i]? = some p → p.2 = k → ∃ d, c ≤ d ∧ d < N ∧ t.place.toList[i]? = some (way t.mask (tupleKeyHash kn k) d)) →
      wpAny (model P w) A (setSearchFrom a (.ref x) (tupleKeyHash kn k) true f stand) Q E s
  | 0, _, _, _, _, hf, _ => absurd hf (Nat.not_lt_zero _)
  | f + 1, c, stand, hst, hc, hf, hre => by
    obtain ⟨o, ho, _, hd⟩ := R.ob
    generalize hh : tupleKeyHash kn k = hs at *
    rw [setSearchFrom_succ]
    refine wpAny_bind (wpAny_setState_of ho hd R.fits ?_)
    dsimp only
    refine wp_if_neg R.gw ?_
    try refine wpAny_bind (wpAny_pure ?_)
    have e1 : ∀ q, nth t.mask (nth t.mask (ways t.mask hs) c) q = nth t.mask (ways t.mask hs) (c + q) := fun q => (nth_add t.mask c _ q).symm
    have e2 : ∀ q, (nth t.mask (nth t.mask (ways t.mask hs) c) q).j = way t.mask hs (c + q) := fun q => congrArg SetTable.Probe.j (e1 q)
    have e3 : c + (N - c) = N := by omega
    have at_ : ∀ (i : Nat) p, L[i]? = some p → (es[i]?.map (·.1)).getD 0 = tupleKeyHash kn p.2 := fun i p hp => by
      rw [R.entry hp]
      rfl
    rcases go_spec t R.tab.ris R.tab.dm (fun i => (es[i]?.map (·.1)).getD 0) hs (10 * SetTable.turns t.mask) (N - c) _ (nth_dummy t.mask c (ways t.mask hs) rfl) (by omega)
      (fun q hq => by rw [e2]; exact N3 (c + q) (by omega)) (by rw [e2, e3]; exact N2) with ⟨q, i, hq, hi, hhi, none_before, pr⟩ | ⟨none_before, pr⟩
    · have pr2 : t.probe (fun i => (es[i]?.map (·.1)).getD 0) hs (stand.getD (t.probeStart hs)) = some (.candidate (way t.mask hs (c + q)) i (nth t.mask (ways t.mask hs) (c + (q + 1)))) := by
        rw [hst, ← e2, ← e1]
        exact pr
      rw [pr2]
      dsimp only
      rw [e2] at hi
      have lt : i < L.length := by
        have h1 : i < t.place.toList.length := (List.getElem?_eq_some_iff.mp hi).1
        rw [Array.length_toList, R.psz, R.size] at h1
        exact h1
      obtain ⟨p, hp⟩ : ∃ p, L[i]? = some p := ⟨_, List.getElem?_eq_getElem lt⟩
      have hm : p ∈ L := List.mem_of_getElem? hp
      have T := R.tup p hm
      have sl : t.slot (way t.mask hs (c + q)) = .live i := slot_live R.tab.ris hi
      have go : wpAny (model P w) A (searchRest a (.ref x) hs true f es t (way t.mask hs (c + q)) i (nth t.mask (ways t.mask hs) (c + (q + 1)))) Q E s := by
        unfold searchRest
        rw [R.entry hp]
        dsimp only
        refine wpAny_bind (wpAny_holding (wpAny_eqBool_tuple hu T hx ?_))
        refine wpAny_bind (wpAny_setState_of ho hd R.fits ?_)
        dsimp only
        by_cases same : p.2 = k
        · refine wp_if_pos (by simp [same]) ?_
          exact wpAny_pure (yes (List.mem_map.mpr ⟨p, hm, same⟩))
        · refine wp_if_neg (by simp [same]) ?_
          try refine wpAny_bind (wpAny_pure ?_)
          rw [sameMem]
          dsimp only
          simp only [if_true, sl, R.entry hp]
          refine wpAny_bind (wpAny_isSame_ref_self (wpAny_bind (wpAny_pure ?_)))
          simp only [if_true]
          refine wp_if_neg (by simp [same]) ?_
          subst hh
          refine tset_from R hx hu N1 N2 N3 yes no f (c + (q + 1)) _ rfl (by omega) (by omega) fun i0 p0 h0 k0 => ?_
          obtain ⟨d, d1, d2, d3⟩ := hre i0 p0 h0 k0
          refine ⟨d, ?_, d2, d3⟩
          rcases Nat.lt_trichotomy d (c + q) with z | z | z
          · refine absurd ((at_ i0 p0 h0).trans (congrArg (tupleKeyHash kn) k0)) (none_before (d - c) i0 (by omega) ?_)
            rw [e2, show c + (d - c) = d by omega]
            exact d3
          · rw [z] at d3
            have sl2 := slot_live R.tab.ris d3
            rw [sl] at sl2
            injection sl2 with sl2
            rw [← sl2, hp] at h0
            exact absurd ((congrArg Prod.snd (Option.some.inj h0)).trans k0) same
          · omega
      by_cases hl : t.led = true
      · refine wp_if_neg (by simp [hl]) ?_
        try refine wpAny_bind (wpAny_pure ?_)
        exact go
      · refine wp_if_pos (by simp [hl]) ?_
        refine wpAny_bind (tt_seen hx (fun y hy => ?_) ?_)
        · obtain ⟨e, he, ee⟩ := List.mem_map.mp hy
          have he1 : e ∈ es ∧ e.1 = hs := by simpa using he
          have he2 : e ∈ es.toList := by simpa using he1.1
          rw [R.rows] at he2
          obtain ⟨p2, hp2, e5⟩ := List.mem_map.mp he2
          exact ⟨p2.2, p2.1, by rw [← ee, ← e5]; rfl, R.tup p2 hp2⟩
        · refine wp_if_neg (by decide) ?_
          try refine wpAny_bind (wpAny_pure ?_)
          exact go
    · have pr2 : t.probe (fun i => (es[i]?.map (·.1)).getD 0) hs (stand.getD (t.probeStart hs)) = some (.empty (way t.mask hs N) none) := by
        have e4 : way t.mask hs N = (nth t.mask (nth t.mask (ways t.mask hs) c) (N - c)).j := by rw [e2, e3]
        rw [hst, e4]
        exact pr
      rw [pr2]
      dsimp only
      refine wpAny_pure (no fun hm => ?_)
      obtain ⟨p0, h0, k0⟩ := List.mem_map.mp hm
      obtain ⟨i0, hi0, e0⟩ := List.getElem_of_mem h0
      have h00 : L[i0]? = some p0 := by rw [List.getElem?_eq_getElem hi0, e0]
      obtain ⟨d, d1, d2, d3⟩ := hre i0 p0 h00 k0
      refine none_before (d - c) i0 (by omega) ?_ ((at_ i0 p0 h00).trans ((congrArg (tupleKeyHash kn) k0).trans hh))
      rw [e2, show c + (d - c) = d by omega]
      exact d3
/-- the search that adding asks for -/
theorem tset_search (R : TSet kn s.heap a L es ep t) {x : Addr} {k : List κ} (hx : IsTupleKey kn s.heap k x) (hu : A.units < cLine) {Q : SetFound → Shared → Prop} (yes : k ∈ L.map (·.2) → Q (.there none) s)
    (no : ∀ N, k ∉ L.map (·.2) → way t.mask (tupleKeyHash kn k) N ∉ t.place.toList → (∀ c, c < N → way t.mask (tupleKeyHash kn k) c ∈ t.place.toList) → Q (.free (way t.mask (tupleKeyHash kn k) N) false) s) :
    wpAny (model P w) A (setSearch a (.ref x) (tupleKeyHash kn k) true) Q E s := by
  have r := R.room
  obtain ⟨N, N1, N2, N3⟩ := R.tab.first (by rw [List.length_map]; omega) (tupleKeyHash kn k)
  have small : 10 * SetTable.turns t.mask ≤ 1420 := by
    unfold SetTable.turns
    rcases R.tab.mok with e | e | e <;> omega
  unfold setSearch
  refine tset_from R hx hu N1 N2 N3 yes (fun h => no N h N2 N3) 100000 0 none rfl (Nat.zero_le _) (by omega) fun i p hp e => ?_
  have hi : (L.map fun p => tupleKeyHash kn p.2)[i]? = some (tupleKeyHash kn k) := by
    rw [List.getElem?_map, hp, ← e]
    rfl
  have il : i < t.place.toList.length := by
    rw [Array.length_toList, R.psz, R.size]
    exact (List.getElem?_eq_some_iff.mp hp).1
  obtain ⟨d, hd, e2⟩ := R.tab.before N2 hi (List.getElem?_eq_getElem il)
  exact ⟨d, Nat.zero_le _, hd, by rw [List.getElem?_eq_getElem il, e2]⟩
end

/-! ### one more tuple, the table laid anew, the whole of set(tuple of tuples) -/
section
open PySem.Spec PyProof.Rows
variable {P : Program} {w : World} {κ : Type} [DecidableEq κ] {kn : KeyKind P w κ} {A : Around} {E : Value → Shared → Prop} {s : Shared} {a : Addr} {L : List (Addr × List κ)} {es : Array (Int × Value)} {ep : Nat} {t : SetTable}
theorem pick_all {α : Type} (L : List α) : ∀ n, n ≤ L.length → (List.range n).filterMap (fun i => L[i]?) = L.take n
  | 0, _ => rfl
  | n + 1, h => by
    rw [List.range_succ, List.filterMap_append, pick_all L n (Nat.le_of_lt h), List.take_add_one, List.getElem?_eq_getElem h]
    rw [List.filterMap_cons_some (List.getElem?_eq_getElem h)]
    rfl
/-- the entries in another order are those of the tuples in that order -/
theorem tset_order (L : List (Addr × List κ)) (es : Array (Int × Value)) (hr : es.toList = L.map (tEnt kn)) : ∀ l : List Nat, (∀ i ∈ l, i < L.length) →
    l.filterMap (fun i => es[i]?) = (l.filterMap fun i => L[i]?).map (tEnt kn) ∧ ((l.filterMap fun i => L[i]?).map fun p => tupleKeyHash kn p.2) = l.map fun i => (es.map (·.1)).getD i 0
  | [], _ => ⟨rfl, rfl⟩
  | i :: l, hl => by
    have hi := hl i List.mem_cons_self
    obtain ⟨e1, e2⟩ := tset_order L es hr l fun j hj => hl j (List.mem_cons_of_mem _ hj)
    have en : es[i]? = some (tEnt kn L[i]) := by
      rw [← Array.getElem?_toList, hr, List.getElem?_map, List.getElem?_eq_getElem hi]
      rfl
    refine ⟨?_, ?_⟩
    · rw [List.filterMap_cons_some en, List.filterMap_cons_some (List.getElem?_eq_getElem hi), e1]
      rfl
    · rw [List.filterMap_cons_some (List.getElem?_eq_getElem hi), List.map_cons, List.map_cons, e2]
      have e5 : (es.map (·.1))[i]? = some (tupleKeyHash kn (L[i]).2) := by
        rw [Array.getElem?_map, en]
        rfl
      rw [Array.getD_eq_getD_getElem?, e5]
      rfl
theorem put_other (L : List (Addr × List κ)) (p : Nat) (x : Addr × List κ) : (L.take p ++ x :: L.drop p).Perm (x :: L) := by
  have h : (L.take p ++ x :: L.drop p).Perm (x :: (L.take p ++ L.drop p)) := List.perm_middle
  rwa [List.take_append_drop] at h
set_option maxHeartbeats 8000000 in
/-- a larger table -/
theorem tset_relay {o : Obj} (ho : s.heap.get? a = some o) (ex : o.ExactSet) (hd : o.data = .set es ep t) (rows : es.toList = L.map (tEnt kn)) (psz : t.place.size = es.size) (dm : t.dummies = #[]) (fl : es.size ≤ t.mask)
    (nd : (L.map (·.2)).Nodup) (tup : ∀ p ∈ L, IsTupleKey kn s.heap p.2 p.1) (ld : w.params.followText "set-order" = true ∨ t.led = true) (few : L.length < 64) {wanted M : Nat}
    (hw : SetTable.sizeAbove wanted - 1 = M) (hM : MaskOk M) (hw2 : SetTable.sizeAbove wanted ≤ 128) (hn : L.length * 5 < M * 3) {Q : Unit → Shared → Prop}
    (q : ∀ h' L' es' ep' t', Heap.SameBut a s.heap h' → TSet kn h' a L' es' ep' t' → L'.Perm L → Q () { s with heap := h' }) : wpAny (model P w) A (setRelay a wanted) Q E s := by
  have sz : es.size = L.length := by simpa using congrArg List.length rows
  obtain ⟨t', order, e, hp, T, em, el, _, _⟩ := relaid_ok t (hs := es.map (·.1)) (wanted := wanted) hw hM (by rw [Array.size_map, sz]; omega)
  rw [Array.size_map, sz] at hp
  obtain ⟨r1, r3⟩ := tset_order L es rows order.toList fun i hi => List.mem_range.mp (hp.mem_iff.mp hi)
  have r2 : (order.toList.filterMap fun i => L[i]?).Perm L := by
    have h1 := hp.filterMap fun i => L[i]?
    rwa [pick_all L L.length (Nat.le_refl _), List.take_length] at h1
  generalize order.toList.filterMap (fun i => L[i]?) = L2 at r1 r2 r3
  rw [← r3] at T
  have r4 : (order.filterMap (es[·]?)).toList = L2.map (tEnt kn) := by
    first | (rw [Array.toList_filterMap]; exact r1) | simpa using r1
  have s2 : (order.filterMap (es[·]?)).size = es.size := by
    have h := congrArg List.length r4
    rw [Array.length_toList, List.length_map, r2.length_eq] at h
    rw [h, sz]
  rw [setRelay_eq]
  refine wpAny_bind (wpAny_setState_of ho hd (tfits psz dm fl) ?_)
  dsimp only
  refine wp_if_neg (by rw [sizeLine_eq]; omega) ?_
  try refine wpAny_bind (wpAny_pure ?_)
  rw [e]
  dsimp only
  refine wpAny_bind ?_
  refine wp_if_neg (by rw [s2]; simp) ?_
  try refine wpAny_bind (wpAny_pure ?_)
  refine wpAny_pure ?_
  dsimp only
  refine wpAny_storeSet_of ho hd ?_ (by rw [s2, sz, sizeLine_eq]; omega)
  have sb : Heap.SameBut a s.heap (s.heap.update a (Obj.putSet (order.filterMap (es[·]?)) t')) := Heap.SameBut.update ..
  refine q _ L2 (order.filterMap (es[·]?)) (ep + 1) t' sb ⟨⟨_, store_at ho hd, ⟨ex.1, ex.2.1, ex.2.2⟩, rfl⟩, r4, T, (r2.map (·.2)).nodup_iff.mpr nd, fun p hpm => tk_other (tup p (r2.mem_iff.mp hpm)) ho hd sb, by rw [el]; exact ld, ?_, by rw [r2.length_eq]; exact few⟩ r2
  rw [r2.length_eq, em]
  exact hn
/-- what holds behind one more: the old tuples and this one, once -/
def OneMore (L : List (Addr × List κ)) (x : Addr) (k : List κ) (L' : List (Addr × List κ)) : Prop := (k ∈ L.map (·.2) → L' = L) ∧ (k ∉ L.map (·.2) → L'.Perm ((x, k) :: L))
set_option maxHeartbeats 16000000 in
theorem tset_add (R : TSet kn s.heap a L es ep t) {x : Addr} {k : List κ} (hx : IsTupleKey kn s.heap k x) (hu : A.units < cLine) (hfew : L.length + 1 < 64) {Q : Bool → Shared → Prop}
    (q : ∀ b h' L' es' ep' t', Heap.SameBut a s.heap h' → TSet kn h' a L' es' ep' t' → OneMore L x k L' → Q b { s with heap := h' }) :
    wpAny (model P w) A (setAddHashed a (.ref x) (tupleKeyHash kn k)) Q E s := by
  obtain ⟨o, ho, hex, hd⟩ := R.ob
  have sz := R.size
  have room := R.room
  unfold setAddHashed
  refine wpAny_holding ?_
  rw [show (100000 : Nat) = 99999 + 1 from rfl, setAddHashedIn_succ]
  refine wpAny_bind (wpAny_setState_of ho hd R.fits ?_)
  dsimp only
  refine wp_if_neg (by simp [byScan, Value.scannable]) ?_
  try refine wpAny_bind (wpAny_pure ?_)
  refine wpAny_bind (tset_search R hx hu (fun hm => ?_) fun N hm N2 N3 => ?_)
  · dsimp only
    exact wpAny_pure (q false s.heap L es ep t (Heap.SameBut.refl a s.heap) R ⟨fun _ => rfl, fun z => absurd hm z⟩)
  · dsimp only
    refine wpAny_bind (wpAny_setState_of ho hd R.fits ?_)
    dsimp only
    obtain ⟨q1, q2, q3, q4, q5, _, _, _, q9⟩ := R.tab.put N2 N3
    generalize hpt : t.put (way t.mask (tupleKeyHash kn k) N) = pt at q1 q3 q4 q5 q9 ⊢
    obtain ⟨t1, p⟩ := pt
    dsimp only at q1 q3 q4 q5 q9 ⊢
    subst q1
    -- the table, whatever it says of plain
    have fin : ∀ t2 : SetTable, TabOk t2 (List.map (fun p => tupleKeyHash kn p.2) L |>.take (SetTable.below t.place (way t.mask (tupleKeyHash kn k) N)) |>.append (tupleKeyHash kn k :: (L.map fun p => tupleKeyHash kn p.2).drop (SetTable.below t.place (way t.mask (tupleKeyHash kn k) N)))) →
        t2.mask = t.mask → t2.led = t.led → t2.fill = L.length + 1 → wpAny (model P w) A (do
          storeSet a (SetTable.insertAt es (SetTable.below t.place (way t.mask (tupleKeyHash kn k) N)) (tupleKeyHash kn k, Value.ref x)) t2
          if !false && t2.tooFull then setRelay a (SetTable.grown (es.size + 1))
          return true) Q E s := fun t2 T2 m2 l2 f2 => by
      have hin : (SetTable.insertAt es (SetTable.below t.place (way t.mask (tupleKeyHash kn k) N)) (tupleKeyHash kn k, Value.ref x)).toList = (L.take (SetTable.below t.place (way t.mask (tupleKeyHash kn k) N)) ++ (x, k) :: L.drop (SetTable.below t.place (way t.mask (tupleKeyHash kn k) N))).map (tEnt kn) := by
        rw [SetTable.toList_insertAt, R.rows, List.map_append, List.map_cons, List.map_take, List.map_drop]
        rfl
      generalize SetTable.below t.place (way t.mask (tupleKeyHash kn k) N) = p at hin T2 q2 ⊢
      have pm := put_other L p (x, k)
      have hlen : (L.take p ++ (x, k) :: L.drop p).length = L.length + 1 := pm.length_eq
      have T3 : TabOk t2 ((L.take p ++ (x, k) :: L.drop p).map fun p => tupleKeyHash kn p.2) := by
        rw [List.map_append, List.map_cons, List.map_take, List.map_drop]
        exact T2
      have nd1 : ((L.take p ++ (x, k) :: L.drop p).map (·.2)).Nodup := by
        refine (pm.map (·.2)).nodup_iff.mpr ?_
        rw [List.map_cons]
        exact List.nodup_cons.mpr ⟨hm, R.nd⟩
      have es1 : (SetTable.insertAt es p (tupleKeyHash kn k, Value.ref x)).size = L.length + 1 := by
        have h := congrArg List.length hin
        rw [Array.length_toList, List.length_map, hlen] at h
        exact h
      generalize SetTable.insertAt es p (tupleKeyHash kn k, Value.ref x) = E1 at hin es1 ⊢
      generalize L.take p ++ (x, k) :: L.drop p = L1 at pm hlen T3 nd1 hin
      refine wpAny_bind (wpAny_storeSet_of ho hd ?_ (by rw [es1, sizeLine_eq]; omega))
      have sb : Heap.SameBut a s.heap (s.heap.update a (Obj.putSet E1 t2)) := Heap.SameBut.update ..
      have ho1 := store_at (es' := E1) (t' := t2) ho hd
      generalize s.heap.update a (Obj.putSet E1 t2) = h1 at sb ho1 ⊢
      have tup1 : ∀ p ∈ L1, IsTupleKey kn h1 p.2 p.1 := fun p hp => by
        rcases List.mem_cons.mp (pm.mem_iff.mp hp) with e | hp
        · rw [e]
          exact tk_other hx ho hd sb
        · exact tk_other (R.tup p hp) ho hd sb
      have ld1 : w.params.followText "set-order" = true ∨ t2.led = true := by rw [l2]; exact R.led
      have psz : t2.place.size = E1.size := by
        have h := T3.sz
        rw [List.length_map, hlen] at h
        rw [h, es1]
      by_cases hf : t2.tooFull = true
      · first
          | (refine wpAny_bind ?_; refine wp_if_pos (by simp [hf]) ?_)
          | (refine wp_if_pos (by simp [hf]) ?_; refine wpAny_bind ?_)
        have full : (L.length + 1) * 5 ≥ t2.mask * 3 := by
          have h := hf
          unfold SetTable.tooFull at h
          rw [decide_eq_true_eq, f2] at h
          exact h
        rw [sz]
        have two : (t2.mask = 7 ∧ L.length = 4) ∨ (t2.mask = 31 ∧ L.length = 18) := by
          rw [m2] at full ⊢
          rcases R.tab.mok with e | e | e
          · left; rw [e] at full room; exact ⟨e, by omega⟩
          · right; rw [e] at full room; exact ⟨e, by omega⟩
          · exfalso; rw [e] at full; omega
        have go : ∀ M, SetTable.sizeAbove (SetTable.grown (L.length + 1)) - 1 = M → MaskOk M → SetTable.sizeAbove (SetTable.grown (L.length + 1)) ≤ 128 → (L.length + 1) * 5 < M * 3 →
            wpAny (model P w) A (setRelay a (SetTable.grown (L.length + 1))) (fun _ s' => wpAny (model P w) A (pure true) Q E s') E { s with heap := h1 } := fun M c1 c2 c3 c4 => by
          refine tset_relay (s := { s with heap := h1 }) ho1 ⟨hex.1, hex.2.1, hex.2.2⟩ rfl hin psz T3.dm (by rw [es1]; rcases two with ⟨e, e2⟩ | ⟨e, e2⟩ <;> omega) nd1 tup1 ld1 (by rw [hlen]; exact hfew) c1 c2 c3 (by rw [hlen]; exact c4) ?_
          intro h2 L2 es2 ep2 t3 sb2 R2 pm2
          exact wpAny_pure (q true h2 L2 es2 ep2 t3 (sb.trans sb2) R2 ⟨fun z => absurd z hm, fun _ => pm2.trans pm⟩)
        rcases two with ⟨_, e2⟩ | ⟨_, e2⟩
        · exact go 31 (by rw [e2, size_20]) (.inr (.inl rfl)) (by rw [e2, size_20]; decide) (by omega)
        · exact go 127 (by rw [e2, size_76]) (.inr (.inr rfl)) (by rw [e2, size_76]; decide) (by omega)
      · first
          | refine wp_if_neg (by simp [hf]) ?_
          | (refine wpAny_bind ?_; refine wp_if_neg (by simp [hf]) ?_; refine wpAny_pure ?_)
        refine wpAny_pure (q true h1 L1 E1 (ep + 1) t2 sb ⟨⟨_, ho1, ⟨hex.1, hex.2.1, hex.2.2⟩, rfl⟩, hin, T3, nd1, tup1, ld1, ?_, by rw [hlen]; exact hfew⟩ ⟨fun z => absurd z hm, fun _ => pm⟩)
        have h := hf
        unfold SetTable.tooFull at h
        rw [decide_eq_true_eq, f2] at h
        rw [hlen]
        omega
    rw [List.length_map] at q9
    by_cases hp1 : t1.plain = true
    · first
        | (refine wpAny_bind ?_; refine wp_if_pos hp1 ?_; refine tt_hash hx fun r => ?_)
        | refine wp_if_pos hp1 (wpAny_bind (tt_hash hx fun r => ?_))
      cases r
      · simp only [Bool.false_eq_true, if_false]
        exact fin _ ⟨q3.ris, q3.dm, q3.sz, q3.mok, q3.bd, q3.reach⟩ q4 q5 q9
      · simp only [if_true]
        exact fin _ q3 q4 q5 q9
    · first
        | (refine wpAny_bind ?_; refine wp_if_neg hp1 ?_; refine wpAny_pure ?_)
        | refine wp_if_neg hp1 (wpAny_bind (wpAny_pure ?_))
        | refine wp_if_neg hp1 ?_
      simp only [if_true]
      exact fin _ q3 q4 q5 q9
/-- what the set has from the first i tuples -/
structure TGot (ks : List (Addr × List κ)) (i : Nat) (L : List (Addr × List κ)) : Prop where
  sub : ∀ p ∈ L, p ∈ ks.take i
  all : ∀ p ∈ ks.take i, p.2 ∈ L.map (·.2)
  len : L.length ≤ i
theorem TGot.step {ks L L' : List (Addr × List κ)} {i : Nat} {x : Addr × List κ} (g : TGot ks i L) (h : ks[i]? = some x) (m : OneMore L x.1 x.2 L') : TGot ks (i + 1) L' := by
  have e : ks.take (i + 1) = ks.take i ++ [x] := by
    rw [List.take_add_one, h]
    rfl
  by_cases c : x.2 ∈ L.map (·.2)
  · rw [m.1 c]
    refine ⟨fun p hp => ?_, fun p hp => ?_, Nat.le_succ_of_le g.len⟩
    · rw [e]
      exact List.mem_append_left _ (g.sub p hp)
    · rw [e] at hp
      rcases List.mem_append.mp hp with z | z
      · exact g.all p z
      · rw [List.mem_singleton.mp z]
        exact c
  · have pm := m.2 c
    refine ⟨fun p hp => ?_, fun p hp => ?_, ?_⟩
    · rw [e]
      rcases List.mem_cons.mp (pm.mem_iff.mp hp) with z | z
      · rw [z]
        exact List.mem_append_right _ (List.mem_singleton.mpr rfl)
      · exact List.mem_append_left _ (g.sub p z)
    · rw [(pm.map (·.2)).mem_iff, List.map_cons]
      rw [e] at hp
      rcases List.mem_append.mp hp with z | z
      · exact List.mem_cons_of_mem _ (g.all p z)
      · rw [List.mem_singleton.mp z]
        exact List.mem_cons_self
    · rw [pm.length_eq, List.length_cons]
      exact Nat.succ_le_succ g.len
set_option maxHeartbeats 8000000 in
/-- the loop of set.update -/
theorem tset_loop {I : Addr} {fp wr : List Addr} {G : Array GenState → Array GenState → Prop} {n : Nat} {Pv : Nat → Value → Prop} {St : Nat → Shared → Prop} {R : Result → Shared → Prop}
    (W : WalksS P w A.in1 I fp wr G n Pv St) (S : Addr) (hSf : S ∉ fp) (ks : List (Addr × List κ)) (hn : n = ks.length) (few : ks.length < 64) (val : ∀ i v, Pv i v → ∃ p, ks[i]? = some p ∧ v = .ref p.1)
    (h0 : Heap) (tup : ∀ p ∈ ks, IsTupleKey kn h0 p.2 p.1) (hS0 : h0.get? S = none) (hw0 : ∀ b ∈ wr, h0.get? b = none) (hu : A.in1.units < cLine) :
    ∀ (j i : Nat) (s : Shared), n - i = j → i ≤ n → St i s → (∀ b o, h0.get? b = some o → s.heap.get? b = some o) → (∃ L es ep t, TSet kn s.heap S L es ep t ∧ TGot ks i L) →
      (∀ s' L es ep t, Moved (S :: wr) G s s' → TSet kn s'.heap S L es ep t → TGot ks n L → (∀ b o, h0.get? b = some o → s'.heap.get? b = some o) → R (.ok (.ret .none)) s') →
      codeAny (model P w) A (.builtin "set.update.loop" ⟨[.ref S, .ref I], []⟩) R s := by
  have hSw : S ∉ wr := fun h => hSf (W.sub _ h)
  have up : ∀ b ∈ wr, b ∈ S :: wr := fun b hb => List.mem_cons_of_mem _ hb
  have keep : ∀ {s s' : Shared}, Moved wr G s s' → (∀ b o, h0.get? b = some o → s.heap.get? b = some o) → ∀ b o, h0.get? b = some o → s'.heap.get? b = some o := fun hm hk b o e =>
    hm.heap b o (fun hb => by rw [hw0 b hb] at e; cases e) (hk b o e)
  intro j
  induction j with
  | zero =>
    intro i s hj hi hst hk ⟨L, es, ep, t, hS, g⟩ done
    have e : i = n := by omega
    subst e
    refine codeAny_builtin F.entry_set_update_loop ?_
    rw [Around.under_plainId F.plain_set_update_loop _]
    show wpAny _ A.in1 (pyNext (.ref I) >>= _) _ _ s
    refine wpAny_bind (W.done s _ _ hst fun s' hm => ?_)
    show wpAny _ A.in1 (ret Value.none) _ _ s'
    have hk' := keep hm hk
    exact wpAny_pure (done s' L es ep t (hm.mono up) (hS.at (fun o e => hm.heap S o hSw e) fun p hp => tk_keep (tup p (List.mem_of_mem_take (g.sub p hp))) hk') g hk')
  | succ j ih =>
    intro i s hj hi hst hk ⟨L, es, ep, t, hS, g⟩ done
    have lt : i < n := by omega
    refine codeAny_builtin F.entry_set_update_loop ?_
    rw [Around.under_plainId F.plain_set_update_loop _]
    show wpAny _ A.in1 (pyNext (.ref I) >>= _) _ _ s
    refine wpAny_bind (W.item i s _ _ lt hst fun v s' hv hst' hm => ?_)
    obtain ⟨p, hp, rfl⟩ := val i v hv
    have hk' := keep hm hk
    have hS' : TSet kn s'.heap S L es ep t := hS.at (fun o e => hm.heap S o hSw e) fun q hq => tk_keep (tup q (List.mem_of_mem_take (g.sub q hq))) hk'
    have hx : IsTupleKey kn s'.heap p.2 p.1 := tk_keep (tup p (List.mem_of_getElem? hp)) hk'
    show wpAny _ A.in1 (holding [Value.ref p.1] (setAdd S (.ref p.1)) >>= _) _ _ s'
    refine wpAny_bind (wpAny_holding ?_)
    unfold setAdd
    refine wpAny_holding ?_
    refine wpAny_bind (wpAny_pyHash_tuple hu hx ?_)
    refine tset_add (s := { s' with toks := s'.toks + (p.2.length + 1) }) hS' hx hu (by have := g.len; omega) fun b h' L' es' ep' t' sb hS2 m => ?_
    have hk2 : ∀ b o, h0.get? b = some o → h'.get? b = some o := fun b o e => (sb.2 b (fun z => by rw [z, hS0] at e; cases e)).trans (hk' b o e)
    refine wpAny_pure ⟨plainId_quiet F.plain_set_update_loop _, ih (i + 1) _ (by omega) lt (W.frame _ s' _ _ hst' (Nat.le_add_right _ _) fun b hb o e => ?_) hk2 ⟨L', es', ep', t', hS2, g.step hp m⟩ fun s'' L2 es2 ep2 t2 hm2 hS3 g3 hk3 => ?_⟩
    · rw [sb.2 b (fun h : b = S => hSf (by rw [← h]; exact hb))]
      exact e
    · refine done s'' L2 es2 ep2 t2 (Moved.trans W.gtrans ((hm.mono up).then_heap (Nat.le_add_right _ _) fun b o hb e => ?_) hm2) hS3 g3 hk3
      rw [sb.2 b (fun h : b = S => hb (by rw [h]; exact List.mem_cons_self))]
      exact e
end

/-! ### set(xs), a tuple of tuples or of ints, and how many are in it -/
/-- each once -/
def dd {α : Type} [DecidableEq α] : List α → List α
  | [] => []
  | x :: xs => if x ∈ dd xs then dd xs else x :: dd xs
section
variable {α : Type} [DecidableEq α]
theorem dd_mem : ∀ {xs : List α} {x : α}, x ∈ dd xs ↔ x ∈ xs
  | [], x => Iff.rfl
  | y :: ys, x => by
    unfold dd
    by_cases h : y ∈ dd ys
    · rw [if_pos h, List.mem_cons, dd_mem]
      constructor
      · exact .inr
      · rintro (rfl | q)
        · exact dd_mem.mp h
        · exact q
    · rw [if_neg h, List.mem_cons, List.mem_cons, dd_mem]
theorem dd_nodup : ∀ xs : List α, (dd xs).Nodup
  | [] => List.nodup_nil
  | y :: ys => by
    unfold dd
    by_cases h : y ∈ dd ys
    · rw [if_pos h]
      exact dd_nodup ys
    · rw [if_neg h]
      exact List.nodup_cons.mpr ⟨h, dd_nodup ys⟩
theorem dd_le : ∀ xs : List α, (dd xs).length ≤ xs.length
  | [] => Nat.le_refl _
  | y :: ys => by
    unfold dd
    have q := dd_le ys
    by_cases h : y ∈ dd ys
    · rw [if_pos h, List.length_cons]
      omega
    · rw [if_neg h, List.length_cons, List.length_cons]
      omega
theorem dd_len : ∀ {xs : List α}, (dd xs).length = xs.length ↔ xs.Nodup
  | [] => by simp [dd]
  | y :: ys => by
    unfold dd
    have q := dd_le ys
    by_cases h : y ∈ dd ys
    · rw [if_pos h, List.length_cons, List.nodup_cons]
      exact ⟨fun e => by omega, fun e => absurd (dd_mem.mp h) e.1⟩
    · rw [if_neg h, List.length_cons, List.length_cons, List.nodup_cons, ← dd_len (xs := ys)]
      exact ⟨fun e => ⟨fun m => h (dd_mem.mpr m), by omega⟩, fun e => by omega⟩
theorem same_len {xs ys : List α} (h1 : xs.Nodup) (h2 : ys.Nodup) (h : ∀ k, k ∈ xs ↔ k ∈ ys) : xs.length = ys.length :=
  ((List.perm_ext_iff_of_nodup h1 h2).mpr h).length_eq
end
/-- a set of n things stands at a -/
def SetC (a : Addr) (n : Nat) : HO := .ext fun h => ∃ o es ep t, h.get? a = some o ∧ o.ExactSet ∧ o.data = .set es ep t ∧ t.fits es.size = true ∧ es.size = n ∧ n < 100000
theorem setC_new {P : Program} {w : World} {H : Hp} {h : Heap} {a : Addr} {n : Nat} (R : ∃ o es ep t, h.get? a = some o ∧ o.ExactSet ∧ o.data = .set es ep t ∧ t.fits es.size = true ∧ es.size = n ∧ n < 100000) : ObjOk P w H h a (SetC a n) := by
  have ⟨o, _, _, _, ho, _⟩ := R
  refine ⟨R, ⟨o, ho⟩, fun h1 h2 p k => ?_⟩
  obtain ⟨o', es, ep, t, e, r⟩ := p
  exact ⟨o', es, ep, t, k o' e, r⟩
/-- a flat value as a key -/
def lfV : V → Leaf
  | .int i => .num i
  | .bl b => .num (if b = true then 1 else 0)
  | .str x => .text x
  | _ => .none
section
open PySem.Spec PyProof.Rows
variable {P : Program} {w : World} {A : Around} {E : Value → Shared → Prop} {s : Shared}
set_option maxHeartbeats 8000000 in
theorem tset_made {κ : Type} [DecidableEq κ] {kn : KeyKind P w κ} {l : Addr} {vs : Array Value} {ks : List (Addr × List κ)} {Q : Value → Shared → Prop} (hc : A.handled = none) (hu : A.units + 3 < cLine) (hl : s.heap.IsTuple l vs)
    (hv : vs.toList = ks.map fun p => Value.ref p.1) (tup : ∀ p ∈ ks, IsTupleKey kn s.heap p.2 p.1) (few : ks.length < 64)
    (q : ∀ h tk L es ep t, TSet kn h s.heap.objs.size L es ep t → TGot ks ks.length L → (∀ b o, s.heap.get? b = some o → h.get? b = some o) → Q (.ref s.heap.objs.size) { s with heap := h, toks := tk }) : wpAny (model P w) A (call (.type "set") [.ref l]) Q E s := by
  have size : vs.size = ks.length := by simpa using congrArg List.length hv
  have atS : (s.heap.push (oSet w)).get? s.heap.objs.size = some (oSet w) := Heap.get?_push_size _ rfl
  have tyS : Shared.TypeIs { s with heap := s.heap.push (oSet w) } (.ref s.heap.objs.size) "set" := ⟨_, atS, rfl⟩
  have e1 := F.called_set.made
  have e2 := F.called_set.sub
  have e3 := F.called_set.notType
  have e4 := F.called_set.canCreate
  have e5 := F.typeCall_set_1 (.ref l)
  have e6 := F.called_set.init.lookup
  have e7 := F.called_set.init.bind (.ref s.heap.objs.size)
  obtain ⟨cc, tl, e0⟩ := F.called_set.mro
  apply wpAny_call
  apply codeAny_of_tree
  show wpAny _ _ (callAny (.type "set") _) _ _ _
  apply wpAny_pure
  refine ⟨Code.quiet_builtin _ (by decide +kernel), ?_⟩
  apply codeAny_builtin F.entry_type_call
  rw [Around.under_plain (weight_type_call_type "set" [.ref l] []) rfl]
  repeat any_goals first | wp_step | assumption
  refine codeAny_mono (code_set_led1 (E := E) (.ref l) (Q₁ := fun v z => v = .ref s.heap.objs.size ∧ z = { s with heap := s.heap.push (oSet w) }) ⟨rfl, rfl⟩) ?_
  rintro (e | f) z hz
  · exact hz
  · cases f
    case ret v =>
      obtain ⟨rfl, rfl⟩ := hz
      repeat any_goals first | wp_step | assumption
      refine codeAny_mono (codeAny_call_builtin F.called_set.init.plain F.entry_set_init (check_set_init_1 tyS ?go)
        (R := wants (fun r z => r = .none ∧ ∃ h tk L es ep t, z = { s with heap := h, toks := tk } ∧ TSet kn h s.heap.objs.size L es ep t ∧ TGot ks ks.length L ∧ ∀ b o, s.heap.get? b = some o → h.get? b = some o) E)) ?_
      case go =>
        obtain ⟨⟨c0, d0, t0, s0⟩, at0, cl0, n0, da0⟩ := hl
        dsimp only at cl0 da0
        subst cl0 da0
        have atL : (s.heap.push (oSet w)).get? l = some ⟨.type "tuple", d0, .seq vs n0, s0⟩ := Heap.get?_push_of_some _ at0
        have isL : (s.heap.push (oSet w)).IsTuple l vs := ⟨_, atL, rfl, n0, rfl⟩
        have f1 := F.sub_tuple_set
        have f2 := F.sub_tuple_frozenset
        have f3 : (Value.type "tuple" == Value.type "dict") = false := by decide
        unfold Builtin.«set.__init__» noKeywords Builtin.Frozenset.updateFrom
        generalize hw : pyIter = it0
        wp_walk
        subst hw
        apply wpAny_pyIter_tuple isL
        apply wpAny_bind
        apply wpAny_runValue
        have small : l < s.heap.objs.size := Heap.lt_size at0
        have big : (s.heap.push (oSet w)).objs.size = s.heap.objs.size + 1 := Heap.size_push ..
        have calm : A.in1.in1.in1.handled = none := by simpa using hc
        have n1 : l ≠ (s.heap.push (oSet w)).objs.size := by
          rw [big]
          exact Nat.ne_of_lt (Nat.lt_succ_of_lt small)
        have n2 : s.heap.objs.size ≠ (s.heap.push (oSet w)).objs.size := by
          rw [big]
          exact Nat.ne_of_lt (Nat.lt_succ_self _)
        have nothing : ∀ b, s.heap.objs.size ≤ b → s.heap.get? b = none := fun b hb => by
          cases q : s.heap.get? b with
          | none => rfl
          | some o => exact absurd (Nat.lt_of_lt_of_le (Heap.lt_size q) hb) (Nat.lt_irrefl _)
        refine tset_loop (Walks.tuple calm _ l n1 vs).toS s.heap.objs.size (fun hm => ?f1) ks size few (fun i v ev => ?f2) s.heap tup (nothing _ (Nat.le_refl _)) (fun b hb => nothing b ?f4) (by show A.units + 3 < cLine; omega) (vs.size - 0) 0 _ rfl (Nat.zero_le _)
          ⟨⟨_, Heap.get?_push_size _ rfl, rfl, rfl⟩, isL.push _⟩ (fun b o e => Heap.get?_push_of_some _ (Heap.get?_push_of_some _ e)) ?f5 ?f3
        case f1 =>
          rcases List.mem_cons.mp hm with e | hm
          · exact n2 e
          · exact Nat.ne_of_gt small (List.mem_singleton.mp hm)
        case f2 =>
          have q : vs.toList[i]? = some v := by rw [Array.getElem?_toList]; exact ev
          rw [hv, List.getElem?_map] at q
          cases hq : ks[i]? with
          | none =>
            rw [hq] at q
            cases q
          | some p =>
            rw [hq] at q
            exact ⟨p, rfl, (Option.some.inj q).symm⟩
        case f4 =>
          rw [List.mem_singleton.mp hb, big]
          exact Nat.le_succ _
        case f5 =>
          have at1 := Heap.get?_push_of_some (⟨.type "tuple_iterator", none, .fields #[.ref l, .int 0 0], #[]⟩ : Obj) atS
          refine ⟨[], #[], 0, _, ⟨⟨_, at1, ⟨rfl, rfl, rfl⟩, rfl⟩, rfl, ⟨List.Pairwise.nil, rfl, rfl, .inl rfl, fun x hx => (by cases hx), fun i h j hi => (by simp at hi)⟩, List.nodup_nil, fun p hp => (by cases hp), ?_, ?_, ?_⟩, ⟨fun p h => (by cases h), fun p h => (by simp at h), Nat.le_refl _⟩⟩
          · show _ ∨ (!w.params.followText "set-order") = true
            cases w.params.followText "set-order"
            · exact .inr rfl
            · exact .inl rfl
          · show 0 * 5 < 7 * 3
            decide
          · show 0 < 64
            decide
        case f3 =>
          rintro ⟨h, g, d, tk, os⟩ L es ep t moved hS hG hk
          obtain rfl : g = s.gens := moved.gens
          obtain rfl : d = s.drawn := moved.drawn
          obtain rfl : os = s.os := moved.os
          apply wpAny_pure
          show wpAny _ _ (ret Value.none) _ _ _
          apply wpAny_pure
          exact ⟨rfl, h, tk, L, es, ep, t, rfl, hS, by rw [← size]; exact hG, hk⟩
      rintro (e | f) z hz
      · exact hz
      · cases f
        case ret v =>
          obtain ⟨rfl, h, tk, L, es, ep, t, rfl, hS, hG, hk⟩ := hz
          repeat any_goals first | wp_step | assumption
          exact q h tk L es ep t hS hG hk
        all_goals exact hz.elim
    all_goals exact hz.elim
theorem lf_is {x : V} {u : Value} (f : flatV x = true) (r : RelV x u) : Leaf.isOf (lfV x) u = true := by
  cases x with
  | non =>
    obtain rfl : u = Value.none := r
    rfl
  | bl b =>
    obtain rfl : u = Value.bool b := r
    exact decide_eq_true rfl
  | int i =>
    obtain ⟨t, rfl⟩ := r
    exact decide_eq_true rfl
  | str z =>
    obtain ⟨t, rfl⟩ := r
    simp [lfV, Leaf.isOf, Value.isStrOf]
  | _ => cases f
theorem lf_all {P : Program} {w : World} : ∀ {xs : List V} {us : List Value}, xs.all flatV = true → Vals xs us → ItemsAre (leafKind P w) (xs.map lfV) us
  | [], _, _, .nil => .nil
  | x :: xs, _, f, .cons r t => by
    rw [List.all_cons, Bool.and_eq_true] at f
    exact .cons (lf_is f.1 r) (lf_all f.2 t)
theorem ref_vals : ∀ {ks : List (Addr × List V)} {us : List Value}, Vals (ks.map fun p => V.ref p.1) us → us = ks.map fun p => Value.ref p.1
  | [], _, .nil => rfl
  | p :: ks, _, .cons r t => by
    cases r
    rw [ref_vals t]
    rfl
end
section
variable {X : Cx}
/-- set(xs), xs a tuple of tuples of flat things -/
def rSetTT (K : PySem.W.Frag) : List V → Hp → VK → Prop := fun vs H Q => ∃ (l : Addr) (ks : List (Addr × List V)), vs = [.ref l] ∧ SqT K H l (ks.map fun p => V.ref p.1) ∧ (∀ p ∈ ks, SqT K H p.1 p.2 ∧ p.2.all flatV = true) ∧ ks.length < 64 ∧
  ∀ p, H p = none → Q (.ref p) (upd H p (SetC p (dd (ks.map fun p => p.2.map lfV)).length))
theorem cg_setTT {k : Nat} (hr : Room k X.A) (hc : X.calm = true) : CallR X (.type "set") (rSetTT X.K) := by
  rintro pins s σ H vs us Q I r ⟨l, ks, rfl, hS, hk, few, q⟩
  obtain ⟨its, rv, pl, hz⟩ := I.tuple hS
  have e1 := Vals.ref1 r
  subst e1
  have hu := hr.un
  let ks2 : List (Addr × List Leaf) := ks.map fun p => (p.1, p.2.map lfV)
  have hv : its.toArray.toList = ks2.map fun p => Value.ref p.1 := by
    rw [List.map_map]
    show its = _
    rw [ref_vals rv]
    rfl
  refine tset_made (kn := leafKind X.prog X.w) (ks := ks2) (I.ok.hd hc) (by omega) pl hv (fun p hp => ?_) (by rw [List.length_map]; exact few) ?_
  · obtain ⟨z, hz, rfl⟩ := List.mem_map.mp hp
    obtain ⟨its', rv', ⟨o, ho, hc', n, hd⟩, _⟩ := I.tuple (hk z hz).1
    exact ⟨o, its'.toArray, n, ho, hc', hd, by simpa using lf_all (hk z hz).2 rv'⟩
  · intro h tk L es ep t hT hG keep
    have free : H s.heap.objs.size = none := I.hok.fresh (Nat.le_refl _)
    have cnt : es.size = (dd (ks.map fun p => p.2.map lfV)).length := by
      rw [hT.size, ← List.length_map (f := fun p : Addr × List Leaf => p.2)]
      refine same_len hT.nd (dd_nodup _) fun k => ?_
      rw [dd_mem]
      have tk2 : ks2.take ks2.length = ks2 := List.take_length
      constructor
      · intro h
        obtain ⟨p, hp, rfl⟩ := List.mem_map.mp h
        have hp2 := hG.sub p hp
        rw [tk2] at hp2
        obtain ⟨z, hz, rfl⟩ := List.mem_map.mp hp2
        exact List.mem_map.mpr ⟨z, hz, rfl⟩
      · intro h
        obtain ⟨z, hz, rfl⟩ := List.mem_map.mp h
        exact hG.all (z.1, z.2.map lfV) (by rw [tk2]; exact List.mem_map.mpr ⟨z, hz, rfl⟩)
    have few2 : es.size < 100000 := by
      have := hT.few
      have := hT.size
      omega
    obtain ⟨o, ho, hex, hd⟩ := hT.ob
    exact ⟨.ref _, _, I.laid (t' := tk) keep (Nat.le_refl _) (setC_new ⟨o, es, ep, t, ho, hex, hd, hT.fits, cnt, by rw [← cnt]; exact few2⟩), rfl, q _ free⟩
/-- how many a set of ints holds -/
theorem setR_count {w : World} {h : Heap} {a : Addr} {ns : List Int} {c : Nat} (R : SetR w h a (fun j => decide (j ∈ ns)) c) : ∃ o es ep t, h.get? a = some o ∧ o.ExactSet ∧ o.data = .set es ep t ∧ t.fits es.size = true ∧ es.size = (dd ns).length ∧ (dd ns).length < 100000 := by
  obtain ⟨o, es, ep, t, ho, hex, hd, _, nd, mem, lt, hf, hn, _⟩ := R
  have e : es.size = (dd ns).length := by
    have e1 : es.size = (es.toList.map keyOf).length := by simp
    rw [e1]
    refine same_len nd (dd_nodup _) fun k => ?_
    rw [dd_mem, ← mem k, decide_eq_true_eq]
  have lt2 : es.size < 4096 := lt
  exact ⟨o, es, ep, t, ho, hex, hd, hf, e, by omega⟩
/-- set(xs) of a list of ints, counted -/
def rSetLn (K : PySem.W.Frag) : List V → Hp → VK → Prop := fun vs H Q => ∃ (l : Addr) (ns : List Int), vs = [.ref l] ∧ SqL K H l (ns.map V.int) ∧ ns.length ≤ 4000 ∧ ∀ p, H p = none → Q (.ref p) (upd H p (SetC p (dd ns).length))
theorem cg_setLn (hc : X.calm = true) : CallR X (.type "set") (rSetLn X.K) := by
  rintro pins s σ H vs us Q I r ⟨l, ns, rfl, hS, hn, q⟩
  obtain ⟨its, rv, pl, hz⟩ := I.list hS
  have e1 := Vals.ref1 r
  subst e1
  have hv : PyProof.Rows.IntsAre its.toArray.toList ns := by simpa using rv.ints
  refine set_made (I.ok.hd hc) pl.isList hv hn ?_
  rintro h tk ⟨c, hR, hcn, keep⟩
  have free : H s.heap.objs.size = none := I.hok.fresh (Nat.le_refl _)
  exact ⟨.ref _, _, I.laid (t' := tk) keep (Nat.le_refl _) (setC_new (setR_count hR)), rfl, q _ free⟩
/-- set(xs) of a tuple of ints, counted -/
def rSetTn (K : PySem.W.Frag) : List V → Hp → VK → Prop := fun vs H Q => ∃ (l : Addr) (ns : List Int), vs = [.ref l] ∧ SqT K H l (ns.map V.int) ∧ ns.length ≤ 4000 ∧ ∀ p, H p = none → Q (.ref p) (upd H p (SetC p (dd ns).length))
theorem cg_setTn (hc : X.calm = true) : CallR X (.type "set") (rSetTn X.K) := by
  rintro pins s σ H vs us Q I r ⟨l, ns, rfl, hS, hn, q⟩
  obtain ⟨its, rv, pl, hz⟩ := I.tuple hS
  have e1 := Vals.ref1 r
  subst e1
  have hv : PyProof.Rows.IntsAre its.toArray.toList ns := by simpa using rv.ints
  refine call_set_tupI ns (I.ok.hd hc) pl hv (by unfold scanBound; omega) ?_
  intro h tk c hR hcn keep
  have free : H s.heap.objs.size = none := I.hok.fresh (Nat.le_refl _)
  exact ⟨.ref _, _, I.laid (t' := tk) keep (Nat.le_refl _) (setC_new (setR_count hR)), rfl, q _ free⟩
/-- len of such a set -/
def rLenN : List V → Hp → VK → Prop := fun vs H Q => ∃ (p : Addr) (n : Nat), vs = [.ref p] ∧ H p = some (SetC p n) ∧ Q (.int (n : Nat)) H
theorem cg_lenN : CallR X (.builtin "len") rLenN := by
  rintro pins s σ H vs us Q I r ⟨p, n, rfl, hp, q⟩
  have e1 := Vals.ref1 r
  subst e1
  obtain ⟨o, es, ep, t, ho, hex, hd, hf, hn, hl⟩ := (I.hok p _ hp).1
  exact call_len_set ho hex hd hf (by rw [hn]; omega) ⟨.int n, H, I.tok _, ⟨_, by rw [hn]⟩, q⟩
end
section
variable {K : PySem.W.Frag} {H : Hp} {Q : VK} {l p : Addr} {ns : List Int} {n : Nat}
theorem r_setLn (h : H l = some (.lst (ns.map V.int))) (hn : ns.length ≤ 4000) (q : ∀ p H2, H p = none → H2 p = some (SetC p (dd ns).length) → Kp [] H H2 → Q (.ref p) H2) : rSetLn K [.ref l] H Q :=
  ⟨l, ns, rfl, SqL.of h, hn, fun p hp => q p _ hp upd_same (Kp.new hp)⟩
theorem r_setTn (h : SqT K H l (ns.map V.int)) (hn : ns.length ≤ 4000) (q : ∀ p H2, H p = none → H2 p = some (SetC p (dd ns).length) → Kp [] H H2 → Q (.ref p) H2) : rSetTn K [.ref l] H Q :=
  ⟨l, ns, rfl, h, hn, fun p hp => q p _ hp upd_same (Kp.new hp)⟩
theorem r_setTT {ks : List (Addr × List V)} (h : SqT K H l (ks.map fun p => V.ref p.1)) (h2 : ∀ p ∈ ks, SqT K H p.1 p.2 ∧ p.2.all flatV = true) (hn : ks.length < 64)
    (q : ∀ p H2, H p = none → H2 p = some (SetC p (dd (ks.map fun p => p.2.map lfV)).length) → Kp [] H H2 → Q (.ref p) H2) : rSetTT K [.ref l] H Q :=
  ⟨l, ks, rfl, h, h2, hn, fun p hp => q p _ hp upd_same (Kp.new hp)⟩
theorem r_lenN (h : H p = some (SetC p n)) (q : Q (.int (n : Nat)) H) : rLenN [.ref p] H Q := ⟨p, n, rfl, h, q⟩
end

/-! ### the tape and the draw -/
/-- a tape at t over the numbers at c -/
structure Tp (t c : Addr) (H : Hp) : Prop where
  ex : ∃ (ns : List Int) (k z : Int), H t = some (.lst [.ref c, .int k, .int z]) ∧ H c = some (.lst (ns.map V.int)) ∧ 0 ≤ k ∧ 0 ≤ z
theorem Tp.ne {t c : Addr} {H : Hp} (h : Tp t c H) : t ≠ c := by
  obtain ⟨ns, k, z, h1, h2, _⟩ := h.ex
  refine ne_of h1 h2 fun e => ?_
  cases ns with
  | nil => simp at e
  | cons n ns => simp at e
theorem Tp.mut {t c : Addr} {H : Hp} (h : Tp t c H) : Mut (H t) := by
  obtain ⟨ns, k, z, h1, h2, _⟩ := h.ex
  rw [h1]
  trivial
theorem Tp.it {t c : Addr} {H : Hp} (h : Tp t c H) : ∃ o, H t = some o := by
  obtain ⟨ns, k, z, h1, h2, _⟩ := h.ex
  exact ⟨_, h1⟩
theorem Tp.itc {t c : Addr} {H : Hp} (h : Tp t c H) : ∃ o, H c = some o := by
  obtain ⟨ns, k, z, h1, h2, _⟩ := h.ex
  exact ⟨_, h2⟩
theorem Tp.kp {t c : Addr} {S : List Addr} {H H' : Hp} (k : Kp S H H') (h : Tp t c H) (n1 : ¬ t ∈ S) (n2 : ¬ c ∈ S) : Tp t c H' := by
  obtain ⟨ns, j, z, h1, h2, h3⟩ := h.ex
  exact ⟨ns, j, z, k.get n1 h1, k.get n2 h2, h3⟩
theorem Tp.kp0 {t c : Addr} {H H' : Hp} (k : Kp [] H H') (h : Tp t c H) : Tp t c H' := h.kp k (fun z => nomatch z) (fun z => nomatch z)
/-- no draw is asked for more -/
def bigB : Int := 2 ^ 240
theorem bigB_ok {z m : Int} (h1 : 1 ≤ m) (h2 : m < bigB) : CDivW z m := by
  unfold bigB at h2
  exact wide_div (b := 240) (by omega) (by omega) (by decide) (by decide)
def spDraw : Sp := fun vs H Q _ => ∃ (t c : Addr) (m : Int), vs = [.ref t, .int m] ∧ Tp t c H ∧ 1 ≤ m ∧ m < bigB ∧ ∀ (d : Int) (H' : Hp), 0 ≤ d → d < m → Tp t c H' → Kp [t] H H' → Q (.int d) H'
theorem spDraw_i {t c : Addr} {m : Int} {H : Hp} {Q : VK} {E : XK} (h : Tp t c H) (h1 : 1 ≤ m) (h2 : m < bigB) (k : ∀ (d : Int) (H' : Hp), 0 ≤ d → d < m → Tp t c H' → Kp [t] H H' → Q (.int d) H') : spDraw [.ref t, .int m] H Q E :=
  ⟨t, c, m, rfl, h, h1, h2, k⟩
def spTape (K : PySem.W.Frag) : Sp := fun vs H Q _ => ∃ (a : Addr) (ns : List Int), vs = [.ref a] ∧ SqL K H a (ns.map V.int) ∧ ∀ (t c : Addr) (H' : Hp), H t = none → H c = none → Tp t c H' → Kp [] H H' → Q (.ref t) H'
theorem Tp.kp1 {t c p : Addr} {H H' : Hp} (k : Kp [p] H H') (h : Tp t c H) (n1 : t ≠ p) (n2 : c ≠ p) : Tp t c H' := h.kp k (fun z => n1 (by simpa using z)) (fun z => n2 (by simpa using z))
local macro_rules | `(tactic| walk_at "cg h") => `(tactic| (first
  | ((with_reducible show Tp _ _ _); exact Tp.kp0 (by assumption) (by walk_at "cg h"))
  | fail))
local macro_rules | `(tactic| walk_at "cg h") => `(tactic| (first
  | ((with_reducible show Tp _ _ _); exact Tp.kp1 (by assumption) (by walk_at "cg h") (by walk_at "cg ne") (by walk_at "cg ne"))
  | fail))
local macro_rules | `(tactic| walk_at "cg h") => `(tactic| assumption)
theorem Tp.nef {t c p : Addr} {H : Hp} (hp : H p = none) (h : Tp t c H) : p ≠ t := by
  obtain ⟨o, e⟩ := h.it
  exact (ne_of_none e hp).symm
theorem Tp.nefc {t c p : Addr} {H : Hp} (hp : H p = none) (h : Tp t c H) : p ≠ c := by
  obtain ⟨o, e⟩ := h.itc
  exact (ne_of_none e hp).symm
local macro_rules | `(tactic| walk_at "cg ne") => `(tactic| (first
  | exact Tp.nef (by assumption) (by walk_at "cg h") | exact (Tp.nef (by assumption) (by walk_at "cg h")).symm | exact Tp.nefc (by assumption) (by walk_at "cg h") | exact (Tp.nefc (by assumption) (by walk_at "cg h")).symm
  | fail))
theorem Tp.base {t c : Addr} {H : Hp} (T : Tp t c H) : Kp [t] H H := .base fun b hb => by
  rw [List.mem_singleton] at hb
  subst hb
  exact T.mut
local macro_rules | `(tactic| walk_at "cg kp") => `(tactic| (first
  | ((with_reducible show Kp [_] _ _); exact Tp.base (by assumption))
  | fail))
theorem Tp.free {t c p : Addr} {H0 H1 : Hp} (hp : H1 p = none) (k : Kp [t] H0 H1) (T : Tp t c H1) : H0 p = none := k.free hp fun b hb => by
  rw [List.mem_singleton] at hb
  subst hb
  exact T.it
local macro_rules | `(tactic| walk_at "cg fr") => `(tactic| (first
  | assumption
  | exact Tp.free (by assumption) (by walk_at "cg kp") (by walk_at "cg h")
  | fail))
local macro_rules | `(tactic| walk_at "cg dr") => `(tactic| ((with_reducible refine spDraw_i (c := ?c) ?h ?h1 ?h2 ?_); (case h => walk_at "cg h"); (case h1 => first | omega | decide); (case h2 => first | (with_reducible assumption) | decide)))
local macro_rules | `(tactic| walk_at "cg s") => `(tactic| (walk_at "cg dr"; intro _ _ _ _ _ _))

/-! ### relations and literals -/
inductive Rel where
  | le | ge | eq | ne
  deriving DecidableEq
def Rel.s : Rel → Str
  | .le => "<="
  | .ge => ">="
  | .eq => "="
  | .ne => "!="
def Rel.h : Rel → Int → Int → Bool
  | .le, a, b => decide (a ≤ b)
  | .ge, a, b => decide (b ≤ a)
  | .eq, a, b => decide (a = b)
  | .ne, a, b => decide (a ≠ b)
def Rel.neg : Rel → Rel
  | .le => .ge
  | .ge => .le
  | .eq => .ne
  | .ne => .eq
def Rel.nnum : Rel → Int → Int
  | .le, a => a + 1
  | .ge, a => a - 1
  | _, a => a
theorem Rel.neg_neg (r : Rel) : r.neg.neg = r := by cases r <;> rfl
theorem Rel.nnum_nnum (r : Rel) (a : Int) : r.neg.nnum (r.nnum a) = a := by
  cases r <;> simp [Rel.neg, Rel.nnum] <;> omega
theorem Rel.neg_h (r : Rel) (x a : Int) : r.neg.h x (r.nnum a) = !r.h x a := by
  cases r
  · simp only [Rel.neg, Rel.nnum, Rel.h]
    rw [Bool.eq_iff_iff]; simp; omega
  · simp only [Rel.neg, Rel.nnum, Rel.h]
    rw [Bool.eq_iff_iff]; simp; omega
  · simp [Rel.neg, Rel.nnum, Rel.h]
  · simp [Rel.neg, Rel.nnum, Rel.h]
theorem ix_rel3 {K : PySem.W.Frag} {p : Addr} {H : Hp} {Q : VK} {d : Int} (h : H p = some (.lst [.str (Str.ofString "<="), .str (Str.ofString ">="), .str (Str.ofString "=")])) (h0 : 0 ≤ d) (h1 : d < 3) (q : ∀ r : Rel, r ≠ .ne → Q (.str r.s) H) : rIxL K (.ref p) (.int d) H Q := by
  have e : d = 0 ∨ d = 1 ∨ d = 2 := by omega
  rcases e with rfl | rfl | rfl
  · exact r_ixL h rfl (q .le (by decide))
  · exact r_ixL h rfl (q .ge (by decide))
  · exact r_ixL h rfl (q .eq (by decide))
def spRel : Sp := fun vs H Q _ => ∃ (r : Rel) (a b : Int), vs = [.str r.s, .int a, .int b] ∧ Q (.bl (r.h a b)) H
theorem spRel_i (r : Rel) {a b : Int} {H : Hp} {Q : VK} {E : XK} (q : Q (.bl (r.h a b)) H) : spRel [.str r.s, .int a, .int b] H Q E := ⟨r, a, b, rfl, q⟩
/-- a literal stands at p -/
abbrev LitAt (K : PySem.W.Frag) (H : Hp) (p : Addr) (v : Int) (r : Rel) (a : Int) : Prop := SqT K H p [.int v, .str r.s, .int a]
def spLit (K : PySem.W.Frag) : Sp := fun vs H Q _ => ∃ (p : Addr) (v : Int) (r : Rel) (a x : Int), vs = [.ref p, .int x] ∧ LitAt K H p v r a ∧ Q (.bl (r.h x a)) H
def spNeg (K : PySem.W.Frag) : Sp := fun vs H Q _ => ∃ (p : Addr) (v : Int) (r : Rel) (a : Int), vs = [.ref p] ∧ LitAt K H p v r a ∧ ∀ (p' : Addr) (H' : Hp), LitAt K H' p' v r.neg (r.nnum a) → Kp [] H H' → Q (.ref p') H'
def spSame : Sp := fun vs H Q _ => ∃ (a b : Bool), vs = [.bl a, .bl b] ∧ Q (.bl (decide (a = b))) H
theorem ix_rel4 {K : PySem.W.Frag} {p : Addr} {H : Hp} {Q : VK} {d : Int} (h : H p = some (.lst [.str (Str.ofString "<="), .str (Str.ofString ">="), .str (Str.ofString "="), .str (Str.ofString "!=")])) (h0 : 0 ≤ d) (h1 : d < 4) (q : ∀ r : Rel, Q (.str r.s) H) : rIxL K (.ref p) (.int d) H Q := by
  have e : d = 0 ∨ d = 1 ∨ d = 2 ∨ d = 3 := by omega
  rcases e with rfl | rfl | rfl | rfl
  · exact r_ixL h rfl (q .le)
  · exact r_ixL h rfl (q .ge)
  · exact r_ixL h rfl (q .eq)
  · exact r_ixL h rfl (q .ne)
def litD (v : Int) (r : Rel) (a : Int) : PyData := .tuple [.int v, .str r.s, .int a]
theorem Rel.ok (r : Rel) : PyData.strOk r.s = true := by cases r <;> decide +kernel
theorem litD_shaped (v : Int) (r : Rel) (a : Int) : SeqAt.shaped (litD v r a) = true := by
  simp [litD, Rel.ok, SeqAt.shaped, PyData.canLay0, PyData.canLayAll0, PyData.depth, PyData.depthAll]
theorem litD_self (v : Int) (r : Rel) (a : Int) : PyData.eqv (litD v r a) (litD v r a) = true := by
  simp [litD, PyData.eqv, PyData.eqvAll]
theorem LitAt.dp {K : PySem.W.Frag} {H : Hp} {p : Addr} {v : Int} {r : Rel} {a : Int} (h : LitAt K H p v r a) : Dp K H (.ref p) (litD v r a) :=
  .tup h (.cons (.int _) (.cons (.str _) (.cons (.int _) .nil)))
local macro_rules | `(tactic| walk_at "cg s") => `(tactic| (with_reducible refine spRel_i _ ?_))
theorem spSame_i {a b : Bool} {H : Hp} {Q : VK} {E : XK} (q : Q (.bl (decide (a = b))) H) : spSame [.bl a, .bl b] H Q E := ⟨a, b, rfl, q⟩
local macro_rules | `(tactic| walk_at "cg s") => `(tactic| (with_reducible refine spSame_i ?_))
theorem spLit_i {K : PySem.W.Frag} {H : Hp} {Q : VK} {E : XK} {p : Addr} {v : Int} {r : Rel} {a x : Int} (h : LitAt K H p v r a) (q : Q (.bl (r.h x a)) H) : spLit K [.ref p, .int x] H Q E := ⟨p, v, r, a, x, rfl, h, q⟩
local macro_rules | `(tactic| walk_at "cg s") => `(tactic| ((with_reducible show spLit _ _ _ _ _); refine spLit_i (by walk_at "cg h") ?_))

/-! ### comprehensions and loops over data -/
theorem piTup {X : Cx} (K : PySem.W.Frag) {tg l : Expr} {tl : TE} (hl : PE X l tl) (h : X.K = K := by rfl) : PI X tg l (iTup K tl) := h ▸ pi_tup hl
theorem piLst {X : Cx} (K : PySem.W.Frag) {tg l : Expr} {tl : TE} (hl : PE X l tl) (h : X.K = K := by rfl) : PI X tg l (iList K tl) := h ▸ pi_list hl
theorem flat_ints (us : List Int) : (us.map V.int).all flatV = true := by
  rw [List.all_map]
  exact List.all_eq_true.mpr fun x _ => rfl
theorem inV_ints (v : Int) (us : List Int) : inV (.int v) (us.map V.int) = decide (v ∈ us) := by
  unfold inV
  rw [List.any_map]
  induction us with
  | nil => rfl
  | cons u us ih =>
    have e : ((fun y => eqV y (.int v)) ∘ V.int) u = decide (v = u) := by
      show (u == v) = decide (v = u)
      rw [Bool.eq_iff_iff, beq_iff_eq, decide_eq_true_eq]
      exact eq_comm
    rw [List.any_cons, ih, e, Bool.eq_iff_iff]
    simp only [Bool.or_eq_true, decide_eq_true_eq, List.mem_cons]
theorem blkOk_nf {N : List Str} {sc scope : Scope} {own : List (Str × Nat)} (h : blkC N { kind := .function, names := [], isGenerator := false, isCoroutine := false } scope own = true) : BlkOk N sc scope own := by
  have q := blkOk_by h
  exact ⟨q.1, q.2, q.3, fun y hy e => (by rcases q.4 y hy e with k | k <;> exact nomatch k), q.5⟩
theorem small1e4 {n : Nat} (h : n ≤ 10000) : n < sizeLine := by
  rw [sizeLine_eq]
  omega
theorem atI_nat {α : Type} {xs : List α} {i : Int} (h0 : 0 ≤ i) (h1 : i < xs.length) : atI xs i = xs[i.toNat]? := by
  simp [atI, ixN, h0, h1]
theorem atI_ints {ns : List Int} {i : Int} (h0 : 0 ≤ i) (h1 : i < ns.length) : atI (ns.map V.int) i = some (.int (ns.getD i.toNat 0)) := by
  have e : i.toNat < ns.length := by omega
  rw [atI_nat h0 (by rw [List.length_map]; exact h1)]
  simp [e]
theorem mapGetP {K : PySem.W.Frag} {H : Hp} {x : V} {α : Type} {f : α → PyData} {xs : List V} {as : List α} {i : Nat} (h : ImAll K H xs (as.map f)) (e : xs[i]? = some x) : ∃ a, as[i]? = some a ∧ Im K H x (f a) := by
  obtain ⟨d, h1, h2⟩ := h.get e
  rw [List.getElem?_map] at h1
  cases q : as[i]? with
  | none =>
    rw [q] at h1
    cases h1
  | some a =>
    rw [q] at h1
    cases h1
    exact ⟨a, rfl, h2⟩
theorem mapLenP {K : PySem.W.Frag} {H : Hp} {α : Type} {f : α → PyData} {xs : List V} {as : List α} (h : ImAll K H xs (as.map f)) : xs.length = as.length := by
  rw [h.length, List.length_map]
theorem atI_0 {α : Type} {x : α} {xs : List α} : atI (x :: xs) 0 = some x := by
  rw [atI_nat (by decide) (by simp <;> omega)]
  rfl
theorem atI_1 {α : Type} {x y : α} {xs : List α} : atI (x :: y :: xs) 1 = some y := by
  rw [atI_nat (by decide) (by simp <;> omega)]
  rfl
theorem fm_take {α β : Type} {as : List α} {f : α → Option β} {i : Nat} {a : α} (h : as[i]? = some a) : (as.take (i + 1)).filterMap f = (as.take i).filterMap f ++ (f a).toList := by
  rw [List.take_add_one, h, List.filterMap_append]
  congr 1
  all_goals (cases q : f a <;> simp [q])
theorem fm_some {α β : Type} (as : List α) (h : α → β) : as.filterMap (fun a => some (h a)) = as.map h := by
  induction as with
  | nil => rfl
  | cons a as ih =>
    show h a :: as.filterMap (fun a => some (h a)) = _
    rw [ih, List.map_cons]
theorem ImAll.bls {K : PySem.W.Frag} {H : Hp} : ∀ {xs : List V} {bs : List Bool}, ImAll K H xs (bs.map PyData.bool) → xs = bs.map V.bl
  | _, [], .nil => rfl
  | _, b :: bs, .cons h a => by rw [ImAll.bls a, h.flat rfl]; rfl
theorem ImAll.ints {K : PySem.W.Frag} {H : Hp} : ∀ {xs : List V} {bs : List Int}, ImAll K H xs (bs.map PyData.int) → xs = bs.map V.int
  | _, [], .nil => rfl
  | _, b :: bs, .cons h a => by rw [ImAll.ints a, h.flat rfl]; rfl
theorem imInts {K : PySem.W.Frag} {H : Hp} : ∀ (ns : List Int), ImAll K H (ns.map V.int) (ns.map PyData.int)
  | [] => .nil
  | n :: ns => .cons (.int n) (imInts ns)
def intsD (ns : List Int) : PyData := .tuple (ns.map PyData.int)
theorem Im.intsT {K : PySem.W.Frag} {H : Hp} {p : Addr} {ns : List Int} (h : Im K H (.ref p) (intsD ns)) : SqT K H p (ns.map V.int) := h.sq (flatDs_ints ns)
theorem intsT_im {K : PySem.W.Frag} {H : Hp} {p : Addr} {ns : List Int} (h : SqT K H p (ns.map V.int)) : Im K H (.ref p) (intsD ns) := Im.ints h
section
variable {σ σ0 : St} {H : Hp} {K : PySem.W.Frag} {p : Addr} {xs : List V} {g : TG} {tt : TT} {te : TE} {vs : List Nat} {Q : VK} {n : Nat} {lo : Int} {α : Type} {as : List α} {d : α → PyData} {t c : Addr}
/-- a turn of a comprehension, its answer free -/
abbrev lcTurn (g : TG) (tt : TT) (te : TE) (vs : List Nat) (σ σ0 : St) (x : V) (H' : Hp) (R : V → Hp → Prop) (R' : Hp → Prop) : Prop :=
  g x σ0 H' fun σ2 H2 => wpS σ2 σ vs (tt σ2 H2 fun b H3 => iteP b (te σ2 H3 R) (R' H3))
/-- over a tuple of data, with a test -/
theorem lcT_f [hw : Wip σ vs σ0] (s : SqT K H p xs) (ia : ImAll K H xs (as.map d)) (f : α → Option PyData) (small : as.length ≤ 10000)
    (hs : ∀ (i : Nat) (a : α) (x : V) (H' : Hp) (R : V → Hp → Prop) (R' : Hp → Prop), as[i]? = some a → Kp [] H H' → Im K H' x (d a) → (∀ y H4 e, f a = some e → Im K H4 y e → Kp [] H' H4 → R y H4) → (∀ H4, f a = none → Kp [] H' H4 → R' H4) →
      lcTurn g tt te vs σ σ0 x H' R R')
    (hd : ∀ D H' acc, H D = none → H' D = some (.lst acc) → ImAll K H' acc (as.filterMap f) → Kp [] H H' → Q (.ref D) H') : lcS (Itt K p) g tt te vs σ H Q := by
  have hxl := mapLenP ia
  refine r_lcT xs (fun D i H' => Kp [] H H' ∧ H D = none ∧ ∃ acc, H' D = some (.lst acc) ∧ ImAll K H' acc ((as.take i).filterMap f)) (fun D H2 hD e2 k2 => ⟨k2, hD, [], e2, .nil⟩) (fun D i H' h => h.1.tup s) ?_ ?_
  · rintro D i x H' hx ⟨k2, hD, acc, eD, hA⟩
    obtain ⟨a, ha, hxd⟩ := mapGetP (k2.imAll ia) hx
    have hi : i < as.length := (List.getElem?_eq_some_iff.mp ha).1
    have hal : acc.length ≤ i := by
      rw [hA.length]
      refine Nat.le_trans (List.length_filterMap_le _ _) ?_
      rw [List.length_take]
      omega
    refine hs i a x H' _ _ ha k2 hxd (fun y H4 e hf hy k4 => ?_) (fun H4 hf k4 => ?_)
    · refine r_ap (k4.get0 eD) (small1e4 (by omega)) fun H5 e5 k5 => ⟨Kp.trN k5 (Kp.tr0 k4 k2) hD, hD, _, e5, ?_⟩
      rw [fm_take ha, hf]
      exact (k5.imAll (k4.imAll hA)).snoc (k5.im hy)
    · refine ⟨Kp.tr0 k4 k2, hD, acc, k4.get0 eD, ?_⟩
      rw [fm_take ha, hf]
      simpa using k4.imAll hA
  · rintro D H' ⟨k2, hD, acc, eD, hA⟩
    rw [hxl, List.take_length] at hA
    exact hd D H' acc hD eD hA k2
/-- over a list of data, with a test -/
theorem lcL_f [hw : Wip σ vs σ0] (s : H p = some (.lst xs)) (ia : ImAll K H xs (as.map d)) (f : α → Option PyData) (small : as.length ≤ 10000)
    (hs : ∀ (i : Nat) (a : α) (x : V) (H' : Hp) (R : V → Hp → Prop) (R' : Hp → Prop), as[i]? = some a → Kp [] H H' → Im K H' x (d a) → (∀ y H4 e, f a = some e → Im K H4 y e → Kp [] H' H4 → R y H4) → (∀ H4, f a = none → Kp [] H' H4 → R' H4) →
      lcTurn g tt te vs σ σ0 x H' R R')
    (hd : ∀ D H' acc, H D = none → H' D = some (.lst acc) → ImAll K H' acc (as.filterMap f) → Kp [] H H' → Q (.ref D) H') : lcS (Itl K p) g tt te vs σ H Q := by
  have hxl := mapLenP ia
  refine r_lcL xs (fun D i H' => Kp [] H H' ∧ H D = none ∧ ∃ acc, H' D = some (.lst acc) ∧ ImAll K H' acc ((as.take i).filterMap f)) (fun D H2 hD e2 k2 => ⟨k2, hD, [], e2, .nil⟩) (fun D i H' h => h.1.get0 s) ?_ ?_
  · rintro D i x H' hx ⟨k2, hD, acc, eD, hA⟩
    obtain ⟨a, ha, hxd⟩ := mapGetP (k2.imAll ia) hx
    have hi : i < as.length := (List.getElem?_eq_some_iff.mp ha).1
    have hal : acc.length ≤ i := by
      rw [hA.length]
      refine Nat.le_trans (List.length_filterMap_le _ _) ?_
      rw [List.length_take]
      omega
    refine hs i a x H' _ _ ha k2 hxd (fun y H4 e hf hy k4 => ?_) (fun H4 hf k4 => ?_)
    · refine r_ap (k4.get0 eD) (small1e4 (by omega)) fun H5 e5 k5 => ⟨Kp.trN k5 (Kp.tr0 k4 k2) hD, hD, _, e5, ?_⟩
      rw [fm_take ha, hf]
      exact (k5.imAll (k4.imAll hA)).snoc (k5.im hy)
    · refine ⟨Kp.tr0 k4 k2, hD, acc, k4.get0 eD, ?_⟩
      rw [fm_take ha, hf]
      simpa using k4.imAll hA
  · rintro D H' ⟨k2, hD, acc, eD, hA⟩
    rw [hxl, List.take_length] at hA
    exact hd D H' acc hD eD hA k2
/-- over a range, with a test -/
theorem lcR_f [hw : Wip σ vs σ0] (f : Nat → Option PyData) (small : n ≤ 10000)
    (hs : ∀ (i : Nat) (H' : Hp) (R : V → Hp → Prop) (R' : Hp → Prop), i < n → Kp [] H H' → (∀ y H4 e, f i = some e → Im K H4 y e → Kp [] H' H4 → R y H4) → (∀ H4, f i = none → Kp [] H' H4 → R' H4) →
      lcTurn g tt te vs σ σ0 (.int (lo + (i : Int))) H' R R')
    (hd : ∀ D H' acc, H D = none → H' D = some (.lst acc) → ImAll K H' acc ((List.range n).filterMap f) → Kp [] H H' → Q (.ref D) H') : lcS (Itr lo n) g tt te vs σ H Q := by
  refine r_lcR (fun D i H' => Kp [] H H' ∧ H D = none ∧ ∃ acc, H' D = some (.lst acc) ∧ ImAll K H' acc ((List.range i).filterMap f)) (fun D H2 hD e2 k2 => ⟨k2, hD, [], e2, .nil⟩) ?_ ?_
  · rintro D i H' hi ⟨k2, hD, acc, eD, hA⟩
    have hal : acc.length ≤ i := by
      rw [hA.length]
      refine Nat.le_trans (List.length_filterMap_le _ _) ?_
      rw [List.length_range]
      exact Nat.le_refl _
    have e0 : (List.range (i + 1)).filterMap f = (List.range i).filterMap f ++ (f i).toList := by
      rw [List.range_succ, List.filterMap_append]
      congr 1
      all_goals (cases q : f i <;> simp [q])
    refine hs i H' _ _ hi k2 (fun y H4 e hf hy k4 => ?_) (fun H4 hf k4 => ?_)
    · refine r_ap (k4.get0 eD) (small1e4 (by omega)) fun H5 e5 k5 => ⟨Kp.trN k5 (Kp.tr0 k4 k2) hD, hD, _, e5, ?_⟩
      rw [e0, hf]
      exact (k5.imAll (k4.imAll hA)).snoc (k5.im hy)
    · refine ⟨Kp.tr0 k4 k2, hD, acc, k4.get0 eD, ?_⟩
      rw [e0, hf]
      simpa using k4.imAll hA
  · rintro D H' ⟨k2, hD, acc, eD, hA⟩
    exact hd D H' acc hD eD hA k2
/-- over a tuple of data: each item's answer -/
theorem lcT_m [hw : Wip σ vs σ0] (s : SqT K H p xs) (ia : ImAll K H xs (as.map d)) (f : α → PyData) (small : as.length ≤ 10000)
    (hs : ∀ (i : Nat) (a : α) (x : V) (H' : Hp) (R : V → Hp → Prop) (R' : Hp → Prop), as[i]? = some a → Kp [] H H' → Im K H' x (d a) → (∀ y H4, Im K H4 y (f a) → Kp [] H' H4 → R y H4) → lcTurn g tt te vs σ σ0 x H' R R')
    (hd : ∀ D H' acc, H D = none → H' D = some (.lst acc) → ImAll K H' acc (as.map f) → Kp [] H H' → Q (.ref D) H') : lcS (Itt K p) g tt te vs σ H Q :=
  lcT_f s ia (fun a => some (f a)) small (fun i a x H' R R' ha k hx h1 _ => hs i a x H' R R' ha k hx fun y H4 hy k4 => h1 y H4 _ rfl hy k4) fun D H' acc hD eD hA k => hd D H' acc hD eD (by rw [fm_some] at hA; exact hA) k
theorem lcL_m [hw : Wip σ vs σ0] (s : H p = some (.lst xs)) (ia : ImAll K H xs (as.map d)) (f : α → PyData) (small : as.length ≤ 10000)
    (hs : ∀ (i : Nat) (a : α) (x : V) (H' : Hp) (R : V → Hp → Prop) (R' : Hp → Prop), as[i]? = some a → Kp [] H H' → Im K H' x (d a) → (∀ y H4, Im K H4 y (f a) → Kp [] H' H4 → R y H4) → lcTurn g tt te vs σ σ0 x H' R R')
    (hd : ∀ D H' acc, H D = none → H' D = some (.lst acc) → ImAll K H' acc (as.map f) → Kp [] H H' → Q (.ref D) H') : lcS (Itl K p) g tt te vs σ H Q :=
  lcL_f s ia (fun a => some (f a)) small (fun i a x H' R R' ha k hx h1 _ => hs i a x H' R R' ha k hx fun y H4 hy k4 => h1 y H4 _ rfl hy k4) fun D H' acc hD eD hA k => hd D H' acc hD eD (by rw [fm_some] at hA; exact hA) k
theorem lcR_m [hw : Wip σ vs σ0] (f : Nat → PyData) (small : n ≤ 10000)
    (hs : ∀ (i : Nat) (H' : Hp) (R : V → Hp → Prop) (R' : Hp → Prop), i < n → Kp [] H H' → (∀ y H4, Im K H4 y (f i) → Kp [] H' H4 → R y H4) → lcTurn g tt te vs σ σ0 (.int (lo + (i : Int))) H' R R')
    (hd : ∀ D H' acc, H D = none → H' D = some (.lst acc) → ImAll K H' acc ((List.range n).map f) → Kp [] H H' → Q (.ref D) H') : lcS (Itr lo n) g tt te vs σ H Q :=
  lcR_f (fun i => some (f i)) small (fun i H' R R' hi k h1 _ => hs i H' R R' hi k fun y H4 hy k4 => h1 y H4 _ rfl hy k4) fun D H' acc hD eD hA k => hd D H' acc hD eD (by rw [fm_some] at hA; exact hA) k
/-- .. a truth value for each -/
theorem lcT_b [hw : Wip σ vs σ0] (s : SqT K H p xs) (ia : ImAll K H xs (as.map d)) (f : α → Bool) (small : as.length ≤ 10000)
    (hs : ∀ (i : Nat) (a : α) (x : V) (H' : Hp) (R : V → Hp → Prop) (R' : Hp → Prop), as[i]? = some a → Kp [] H H' → Im K H' x (d a) → (∀ H4, Kp [] H' H4 → R (.bl (f a)) H4) → lcTurn g tt te vs σ σ0 x H' R R')
    (hd : ∀ D H', H D = none → H' D = some (.lst ((as.map f).map V.bl)) → Kp [] H H' → Q (.ref D) H') : lcS (Itt K p) g tt te vs σ H Q :=
  lcT_m s ia (fun a => .bool (f a)) small (fun i a x H' R R' ha k hx h1 => hs i a x H' R R' ha k hx fun H4 k4 => h1 _ H4 (.bl _) k4) fun D H' acc hD eD hA k => hd D H' hD (by
    rw [eD]
    have q : as.map (fun a => PyData.bool (f a)) = (as.map f).map PyData.bool := by simp
    rw [q] at hA
    rw [hA.bls]) k
theorem lcL_b [hw : Wip σ vs σ0] (s : H p = some (.lst xs)) (ia : ImAll K H xs (as.map d)) (f : α → Bool) (small : as.length ≤ 10000)
    (hs : ∀ (i : Nat) (a : α) (x : V) (H' : Hp) (R : V → Hp → Prop) (R' : Hp → Prop), as[i]? = some a → Kp [] H H' → Im K H' x (d a) → (∀ H4, Kp [] H' H4 → R (.bl (f a)) H4) → lcTurn g tt te vs σ σ0 x H' R R')
    (hd : ∀ D H', H D = none → H' D = some (.lst ((as.map f).map V.bl)) → Kp [] H H' → Q (.ref D) H') : lcS (Itl K p) g tt te vs σ H Q :=
  lcL_m s ia (fun a => .bool (f a)) small (fun i a x H' R R' ha k hx h1 => hs i a x H' R R' ha k hx fun H4 k4 => h1 _ H4 (.bl _) k4) fun D H' acc hD eD hA k => hd D H' hD (by
    rw [eD]
    have q : as.map (fun a => PyData.bool (f a)) = (as.map f).map PyData.bool := by simp
    rw [q] at hA
    rw [hA.bls]) k
/-- .. an int for each -/
theorem lcT_i [hw : Wip σ vs σ0] (s : SqT K H p xs) (ia : ImAll K H xs (as.map d)) (f : α → Int) (small : as.length ≤ 10000)
    (hs : ∀ (i : Nat) (a : α) (x : V) (H' : Hp) (R : V → Hp → Prop) (R' : Hp → Prop), as[i]? = some a → Kp [] H H' → Im K H' x (d a) → (∀ H4, Kp [] H' H4 → R (.int (f a)) H4) → lcTurn g tt te vs σ σ0 x H' R R')
    (hd : ∀ D H', H D = none → H' D = some (.lst ((as.map f).map V.int)) → Kp [] H H' → Q (.ref D) H') : lcS (Itt K p) g tt te vs σ H Q :=
  lcT_m s ia (fun a => .int (f a)) small (fun i a x H' R R' ha k hx h1 => hs i a x H' R R' ha k hx fun H4 k4 => h1 _ H4 (.int _) k4) fun D H' acc hD eD hA k => hd D H' hD (by
    rw [eD]
    have q : as.map (fun a => PyData.int (f a)) = (as.map f).map PyData.int := by simp
    rw [q] at hA
    rw [hA.ints]) k
theorem lcL_i [hw : Wip σ vs σ0] (s : H p = some (.lst xs)) (ia : ImAll K H xs (as.map d)) (f : α → Int) (small : as.length ≤ 10000)
    (hs : ∀ (i : Nat) (a : α) (x : V) (H' : Hp) (R : V → Hp → Prop) (R' : Hp → Prop), as[i]? = some a → Kp [] H H' → Im K H' x (d a) → (∀ H4, Kp [] H' H4 → R (.int (f a)) H4) → lcTurn g tt te vs σ σ0 x H' R R')
    (hd : ∀ D H', H D = none → H' D = some (.lst ((as.map f).map V.int)) → Kp [] H H' → Q (.ref D) H') : lcS (Itl K p) g tt te vs σ H Q :=
  lcL_m s ia (fun a => .int (f a)) small (fun i a x H' R R' ha k hx h1 => hs i a x H' R R' ha k hx fun H4 k4 => h1 _ H4 (.int _) k4) fun D H' acc hD eD hA k => hd D H' hD (by
    rw [eD]
    have q : as.map (fun a => PyData.int (f a)) = (as.map f).map PyData.int := by simp
    rw [q] at hA
    rw [hA.ints]) k
/-- draws, one for each number of a range: what they have in common -/
theorem lcR_d [hw : Wip σ vs σ0] (d : α → PyData) (Pr : Nat → α → Prop) (T : Tp t c H) (small : n ≤ 10000)
    (hs : ∀ (i : Nat) (H' : Hp) (R : V → Hp → Prop) (R' : Hp → Prop), i < n → Tp t c H' → Kp [t] H H' → (∀ y H4 a, Pr i a → Im K H4 y (d a) → Tp t c H4 → Kp [t] H' H4 → R y H4) → lcTurn g tt te vs σ σ0 (.int (lo + (i : Int))) H' R R')
    (hd : ∀ D H' acc (as : List α), H D = none → H' D = some (.lst acc) → as.length = n → (∀ (i : Nat) a, as[i]? = some a → Pr i a) → ImAll K H' acc (as.map d) → Tp t c H' → Kp [t] H H' → Q (.ref D) H') : lcS (Itr lo n) g tt te vs σ H Q := by
  refine r_lcR (fun D i H' => Kp [t] H H' ∧ H D = none ∧ Tp t c H' ∧ ∃ (acc : List V) (as : List α), H' D = some (.lst acc) ∧ as.length = i ∧ (∀ (i : Nat) a, as[i]? = some a → Pr i a) ∧ ImAll K H' acc (as.map d))
    (fun D H2 hD e2 k2 => ⟨Kp.tr0 k2 (Tp.base T), hD, Tp.kp0 k2 T, [], [], e2, rfl, (fun i a h => by simp at h), .nil⟩) ?_ ?_
  · rintro D i H' hi ⟨k2, hD, T2, acc, as, eD, hl, hP, hA⟩
    have nt : D ≠ t := Tp.nef hD T
    have nc : D ≠ c := Tp.nefc hD T
    have hal : acc.length = i := by rw [hA.length, List.length_map, hl]
    refine hs i H' _ _ hi T2 k2 fun y H4 a ha hy T4 k4 => ?_
    refine r_ap (k4.get1 nt eD) (small1e4 (by omega)) fun H5 e5 k5 => ⟨Kp.trN k5 (Kp.tr1 k4 k2) hD, hD, Tp.kp1 k5 T4 nt.symm nc.symm, _, as ++ [a], e5, by simp [hl], fun j b hb => ?_, ?_⟩
    · rcases Nat.lt_or_ge j as.length with h | h
      · rw [List.getElem?_append_left h] at hb
        exact hP j b hb
      · rw [List.getElem?_append_right h] at hb
        have e0 : j - as.length = 0 := by
          have := (List.getElem?_eq_some_iff.mp hb).1
          simp at this
          omega
        rw [e0] at hb
        simp at hb
        subst hb
        rw [show j = i by omega]
        exact ha
    · rw [List.map_append]
      exact (k5.imAll (k4.imAll hA)).snoc (k5.im hy)
  · rintro D H' ⟨k2, hD, T2, acc, as, eD, hl, hP, hA⟩
    exact hd D H' acc as hD eD hl hP hA T2 k2
/-- .. one for each item of a tuple -/
theorem lcT_d {β : Type} {bs : List β} {e : β → PyData} [hw : Wip σ vs σ0] (s : SqT K H p xs) (ib : ImAll K H xs (bs.map e)) (d : α → PyData) (Pr : β → α → Prop) (T : Tp t c H) (small : bs.length ≤ 10000)
    (hs : ∀ (i : Nat) (b : β) (x : V) (H' : Hp) (R : V → Hp → Prop) (R' : Hp → Prop), bs[i]? = some b → Im K H' x (e b) → Tp t c H' → Kp [t] H H' → (∀ y H4 a, Pr b a → Im K H4 y (d a) → Tp t c H4 → Kp [t] H' H4 → R y H4) → lcTurn g tt te vs σ σ0 x H' R R')
    (hd : ∀ D H' acc (as : List α), H D = none → H' D = some (.lst acc) → as.length = bs.length → (∀ (i : Nat) a, as[i]? = some a → ∃ b, bs[i]? = some b ∧ Pr b a) → ImAll K H' acc (as.map d) → Tp t c H' → Kp [t] H H' → Q (.ref D) H') : lcS (Itt K p) g tt te vs σ H Q := by
  have hxl := mapLenP ib
  refine r_lcT xs (fun D i H' => Kp [t] H H' ∧ H D = none ∧ Tp t c H' ∧ ∃ (acc : List V) (as : List α), H' D = some (.lst acc) ∧ as.length = i ∧ (∀ (i : Nat) a, as[i]? = some a → ∃ b, bs[i]? = some b ∧ Pr b a) ∧ ImAll K H' acc (as.map d))
    (fun D H2 hD e2 k2 => ⟨Kp.tr0 k2 (Tp.base T), hD, Tp.kp0 k2 T, [], [], e2, rfl, (fun i a h => by simp at h), .nil⟩) (fun D i H' h => h.1.tup s) ?_ ?_
  · rintro D i x H' hx ⟨k2, hD, T2, acc, as, eD, hl, hP, hA⟩
    obtain ⟨b, hb, hxd⟩ := mapGetP (k2.imAll ib) hx
    have hi : i < bs.length := (List.getElem?_eq_some_iff.mp hb).1
    have nt : D ≠ t := Tp.nef hD T
    have nc : D ≠ c := Tp.nefc hD T
    have hal : acc.length = i := by rw [hA.length, List.length_map, hl]
    refine hs i b x H' _ _ hb hxd T2 k2 fun y H4 a ha hy T4 k4 => ?_
    refine r_ap (k4.get1 nt eD) (small1e4 (by omega)) fun H5 e5 k5 => ⟨Kp.trN k5 (Kp.tr1 k4 k2) hD, hD, Tp.kp1 k5 T4 nt.symm nc.symm, _, as ++ [a], e5, by simp [hl], fun j b' hb' => ?_, ?_⟩
    · rcases Nat.lt_or_ge j as.length with h | h
      · rw [List.getElem?_append_left h] at hb'
        exact hP j b' hb'
      · rw [List.getElem?_append_right h] at hb'
        have e0 : j - as.length = 0 := by
          have := (List.getElem?_eq_some_iff.mp hb').1
          simp at this
          omega
        rw [e0] at hb'
        simp at hb'
        subst hb'
        rw [show j = i by omega]
        exact ⟨b, hb, ha⟩
    · rw [List.map_append]
      exact (k5.imAll (k4.imAll hA)).snoc (k5.im hy)
  · rintro D H' ⟨k2, hD, T2, acc, as, eD, hl, hP, hA⟩
    exact hd D H' acc as hD eD (by rw [hl, hxl]) hP hA T2 k2
end
section
variable {σ : St} {H : Hp} {K : PySem.W.Frag} {p : Addr} {xs : List V} {g : TG} {tb : TS} {nx bk ct : St → Hp → Prop} {rt : VK} {α : Type} {as : List α} {d : α → PyData}
/-- a for over a tuple of data -/
theorem r_forTI (S : List Addr) (s : SqT K H p xs) (ia : ImAll K H xs (as.map d)) (Pv : Nat → St → Hp → Prop) (h0 : Pv 0 σ H) (hk : ∀ i σ' H', Pv i σ' H' → Kp S H H')
    (hs : ∀ (i : Nat) (a : α) (x : V) σ' H', as[i]? = some a → Im K H' x (d a) → Kp S H H' → Pv i σ' H' → g x σ' H' fun σ2 H2 => tb ⟨Pv (i + 1), rt, nx, Pv (i + 1)⟩ σ2 H2) (hd : ∀ σ' H', Kp S H H' → Pv as.length σ' H' → nx σ' H') : forS (Itt K p) g tb ⟨nx, rt, bk, ct⟩ σ H := by
  refine r_forT xs Pv h0 (fun i σ' H' h => (hk i σ' H' h).tup s) (fun i x σ' H' hx h => ?_) (fun σ' H' h => ?_)
  · obtain ⟨a, ha, hxd⟩ := mapGetP ((hk i σ' H' h).imAll ia) hx
    exact hs i a x σ' H' ha hxd (hk i σ' H' h) h
  · rw [mapLenP ia] at h
    exact hd σ' H' (hk _ σ' H' h) h
/-- a for over a list of data that stands -/
theorem r_forLD (S : List Addr) (s : H p = some (.lst xs)) (np : ¬ p ∈ S) (ia : ImAll K H xs (as.map d)) (Pv : Nat → St → Hp → Prop) (h0 : Pv 0 σ H) (hk : ∀ i σ' H', Pv i σ' H' → Kp S H H')
    (hs : ∀ (i : Nat) (a : α) (x : V) σ' H', as[i]? = some a → Im K H' x (d a) → Kp S H H' → Pv i σ' H' → g x σ' H' fun σ2 H2 => tb ⟨Pv (i + 1), rt, nx, Pv (i + 1)⟩ σ2 H2) (hd : ∀ σ' H', Kp S H H' → Pv as.length σ' H' → nx σ' H') : forS (Itl K p) g tb ⟨nx, rt, bk, ct⟩ σ H := by
  refine r_forL xs Pv h0 (fun i σ' H' h => (hk i σ' H' h).get np s) (fun i x σ' H' hx h => ?_) (fun σ' H' h => ?_)
  · obtain ⟨a, ha, hxd⟩ := mapGetP ((hk i σ' H' h).imAll ia) hx
    exact hs i a x σ' H' ha hxd (hk i σ' H' h) h
  · rw [mapLenP ia] at h
    exact hd σ' H' (hk _ σ' H' h) h
end
/-! ### sets of ints, sorted -/
section
variable {K : PySem.W.Frag} {w : World} {H : Hp} {Q : VK} {l S : Addr} {ns : List Int} {f : Int → Bool} {c : Nat}
theorem r_setS (h : H l = some (.lst (ns.map V.int))) (hn : ns.length ≤ 4000) (q : ∀ S H2 c, H S = none → H2 S = some (SetO w S (fun j => decide (j ∈ ns)) c) → c ≤ ns.length → Kp [] H H2 → Q (.ref S) H2) : rSetL K w [.ref l] H Q :=
  ⟨l, ns, rfl, SqL.of h, hn, fun p c hp hc _ => q p _ c hp upd_same hc (Kp.new hp)⟩
theorem r_setS2 (h : H l = some (.lst (ns.map V.int))) (hn : ns.length ≤ 4000) (q : ∀ S H2 c, H S = none → H2 S = some (SetO w S (fun j => decide (j ∈ ns)) c) → (∀ us : List Int, (∀ j ∈ ns, j ∈ us) → c ≤ us.length) → Kp [] H H2 → Q (.ref S) H2) : rSetL K w [.ref l] H Q :=
  ⟨l, ns, rfl, SqL.of h, hn, fun p c hp _ hc => q p _ c hp upd_same hc (Kp.new hp)⟩
theorem r_sortS (h : H S = some (SetO w S f c)) (hc : c < 64) (q : ∀ l (ns : List Int) H2, H l = none → H2 l = some (.lst (ns.map V.int)) → ns.Pairwise (· < ·) → (∀ j, j ∈ ns ↔ f j = true) → Kp [] H H2 → Q (.ref l) H2) : rSortedSet w [.ref S] H Q :=
  ⟨S, f, c, rfl, h, hc, fun ns l hp hm hn hl => q l ns _ hl upd_same hp (fun j => by rw [hm j]) (Kp.new hl)⟩
end
/-! ### more rows of tactics -/
theorem Kp.free1 {H0 H1 : Hp} {p : Addr} (h : H1 p = none) (f : Kp [] H0 H1) : H0 p = none := f.free0 h
local macro_rules | `(tactic| walk_at "cg fr") => `(tactic| (first
  | assumption
  | exact Kp.free1 (by assumption) (by walk_at "cg kp")
  | fail))
section
variable {K : PySem.W.Frag} {H : Hp} {Q : VK} {p : Addr} {xs : List V} {x : V} {neg : Bool}
theorem r_inTt (h : SqT K H p xs) (fx : flatV x = true) (fs : xs.all flatV = true) (e : (if neg then !inV x xs else inV x xs) = true) (q : Q (.bl true) H) : rIn K neg x (.ref p) H Q := r_inT h fx fs e q
theorem r_inTf (h : SqT K H p xs) (fx : flatV x = true) (fs : xs.all flatV = true) (e : (if neg then !inV x xs else inV x xs) = false) (q : Q (.bl false) H) : rIn K neg x (.ref p) H Q := r_inT h fx fs e q
theorem r_inLt (h : H p = some (.lst xs)) (fx : flatV x = true) (fs : xs.all flatV = true) (e : (if neg then !inV x xs else inV x xs) = true) (q : Q (.bl true) H) : rIn K neg x (.ref p) H Q := r_inL h fx fs e q
theorem r_inLf (h : H p = some (.lst xs)) (fx : flatV x = true) (fs : xs.all flatV = true) (e : (if neg then !inV x xs else inV x xs) = false) (q : Q (.bl false) H) : rIn K neg x (.ref p) H Q := r_inL h fx fs e q
end
local macro_rules | `(tactic| walk_at "cg s") => `(tactic| (first
  | ((with_reducible apply r_inTt); (focus (walk_at "cg h")); exact rfl; exact rfl; (focus (decide +kernel)))
  | ((with_reducible apply r_inTf); (focus (walk_at "cg h")); exact rfl; exact rfl; (focus (decide +kernel)))
  | ((with_reducible apply r_inLt); (focus (walk_at "cg h")); exact rfl; exact rfl; (focus (decide +kernel)))
  | ((with_reducible apply r_inLf); (focus (walk_at "cg h")); exact rfl; exact rfl; (focus (decide +kernel)))
  | fail))

/-! ### terms and rows -/
structure Shp (n : Nat) (d : PyData) : Prop where
  lay : d.canLay0 = true
  dep : d.depth ≤ n
theorem Shp.int {n : Nat} (i : Int) : Shp n (.int i) := ⟨rfl, Nat.zero_le _⟩
theorem Shp.bool {n : Nat} (b : Bool) : Shp n (.bool b) := ⟨rfl, Nat.zero_le _⟩
theorem Shp.none {n : Nat} : Shp n .none := ⟨rfl, Nat.zero_le _⟩
theorem Shp.str {n : Nat} {x : Str} (h : PyData.strOk x = true) : Shp n (.str x) := ⟨by simp only [PyData.canLay0]; exact h, Nat.zero_le _⟩
theorem shpAll {n : Nat} : ∀ {ds : List PyData}, (∀ d ∈ ds, Shp n d) → PyData.canLayAll0 ds = true ∧ PyData.depthAll ds ≤ n
  | [], _ => ⟨rfl, Nat.zero_le _⟩
  | d :: ds, h => by
    have h1 := h d List.mem_cons_self
    have h2 := shpAll (ds := ds) fun e he => h e (List.mem_cons_of_mem _ he)
    refine ⟨?_, ?_⟩
    · simp only [PyData.canLayAll0, h1.lay, h2.1, Bool.and_self]
    · simp only [PyData.depthAll]
      exact Nat.max_le.mpr ⟨h1.dep, h2.2⟩
theorem Shp.tup {n : Nat} {ds : List PyData} (h : ∀ d ∈ ds, Shp n d) : Shp (n + 1) (.tuple ds) := by
  have q := shpAll h
  exact ⟨by simp only [PyData.canLay0]; exact q.1, by simp only [PyData.depth]; omega⟩
theorem Shp.list {n : Nat} {ds : List PyData} (h : ∀ d ∈ ds, Shp n d) : Shp (n + 1) (.list ds) := by
  have q := shpAll h
  exact ⟨by simp only [PyData.canLay0]; exact q.1, by simp only [PyData.depth]; omega⟩
theorem Shp.mono {n m : Nat} {d : PyData} (h : Shp n d) (l : n ≤ m) : Shp m d := ⟨h.lay, Nat.le_trans h.dep l⟩
theorem Shp.ok {n : Nat} {d : PyData} (h : Shp n d) (l : n ≤ 64 := by decide) : SeqAt.shaped d = true := by
  unfold SeqAt.shaped
  rw [h.lay, decide_eq_true (Nat.le_trans h.dep l)]
  rfl
theorem Shp.self {n : Nat} {d : PyData} (h : Shp n d) : PyData.eqv d d = true := PySem.SeqAt.eqv_refl d h.lay
theorem shp_nil {n : Nat} : ∀ d ∈ ([] : List PyData), Shp n d := fun _ h => by cases h
theorem shp_cons {n : Nat} {d : PyData} {ds : List PyData} (h : Shp n d) (h' : ∀ e ∈ ds, Shp n e) : ∀ e ∈ d :: ds, Shp n e := fun e he => by
  rcases List.mem_cons.mp he with rfl | he
  · exact h
  · exact h' e he
abbrev Tms := List (Int × Int)
def tD (z : Int × Int) : PyData := .tuple [.int z.1, .int z.2]
def tmD (ts : Tms) : PyData := .tuple (ts.map tD)
def negT (ts : Tms) : Tms := ts.map fun z => (z.1, -z.2)
/-- a point: what each unknown is worth -/
abbrev Pt := Int → Int
def sumF (ts : Tms) (f : Pt) : Int := (ts.map fun z => z.2 * f z.1).sum
theorem tD_shp (z : Int × Int) : Shp 1 (tD z) := .tup (shp_cons (.int _) (shp_cons (.int _) shp_nil))
theorem tmD_shp (ts : Tms) : Shp 2 (tmD ts) := .tup fun d hd => by
  obtain ⟨z, _, rfl⟩ := List.mem_map.mp hd
  exact tD_shp z
theorem sumF_neg (ts : Tms) (f : Pt) : sumF (negT ts) f = -sumF ts f := by
  induction ts with
  | nil => rfl
  | cons z ts ih =>
    have e1 : sumF (negT (z :: ts)) f = (-z.2) * f z.1 + sumF (negT ts) f := by simp [sumF, negT]
    have e2 : sumF (z :: ts) f = z.2 * f z.1 + sumF ts f := by simp [sumF]
    rw [e1, e2, ih, Int.neg_mul]
    omega
theorem sumF_snoc (ts : Tms) (z : Int × Int) (f : Pt) : sumF (ts ++ [z]) f = sumF ts f + z.2 * f z.1 := by
  simp [sumF]
theorem sumF_take {ts : Tms} {z : Int × Int} {i : Nat} (f : Pt) (h : ts[i]? = some z) : sumF (ts.take (i + 1)) f = sumF (ts.take i) f + z.2 * f z.1 := by
  rw [List.take_add_one, h]
  exact sumF_snoc _ _ _
theorem sumF_congr {ts : Tms} {f g : Pt} (h : ∀ z ∈ ts, f z.1 = g z.1) : sumF ts f = sumF ts g := by
  unfold sumF
  congr 1
  exact List.map_congr_left fun z hz => by rw [h z hz]
theorem map_take_snoc {α β : Type} {l : List α} {f : α → β} {i : Nat} {x : α} (h : l[i]? = some x) : (l.take (i + 1)).map f = (l.take i).map f ++ [f x] := by
  rw [List.take_add_one, h]
  simp
theorem term_at {K : PySem.W.Frag} {H : Hp} {x : V} {z : Int × Int} (h : Im K H x (tD z)) : ∃ q, x = .ref q ∧ SqT K H q [.int z.1, .int z.2] := by
  obtain ⟨q, rfl⟩ := Im.isRef h
  exact ⟨q, rfl, Im.sq h rfl⟩
/-! ### points -/
/-- at q a point is to be read: f v at each v of dom -/
def PtAt (K : PySem.W.Frag) (H : Hp) (q : Addr) (f : Pt) (dom : Int → Prop) : Prop := ∀ v, dom v → (∃ xs, SqT K H q xs ∧ atI xs v = some (.int (f v))) ∨ (∃ xs, H q = some (.lst xs) ∧ atI xs v = some (.int (f v))) ∨ ∃ kvs, H q = some (.dK kvs) ∧ valV kvs (Sum.inl v) = some (.int (f v))
/-- a dict with numbers as keys, read by [..] -/
def rIxDK : R2 := fun x y H Q => ∃ a kvs k v, x = .ref a ∧ y = .int k ∧ H a = some (.dK kvs) ∧ valV kvs (Sum.inl k) = some v ∧ Q v H
open PySem.Spec PyProof.Rows in
theorem ix_dK {X : Cx} : IxR X rIxDK := by
  intro value slice pins s σ H x y v u Q I rx ry h hs
  obtain ⟨a, kvs, k, z, rfl, rfl, hq, he, q⟩ := h
  obtain rfl : v = Value.ref a := rx
  obtain ⟨z1, hd, vs, rel, dd⟩ := dk_of I.hok hq
  obtain ⟨w', hw, rw'⟩ := RelO.some_of (v := z) (o := valueAt vs (Sum.inl k)) (by rw [← he]; exact rel.val _)
  exact tail_any dd.typeIs PySem.F.slot_dict_getitem.lookup (wpAny_getItem_of (kV_is (k := Sum.inl k) ry) dd.mapOf hw ⟨z, H, I.tok _, rw', q⟩) hs
def rPt (K : PySem.W.Frag) : R2 := fun x y H Q => rIxT K x y H Q ∨ (rIxL K x y H Q ∨ rIxDK x y H Q)
theorem ixP {X : Cx} (K : PySem.W.Frag) (h : X.K = K := by rfl) : IxR X (rPt K) := h ▸ ix_tup.or (ix_list.or ix_dK)
def at_ (pt : List Int) : Pt := fun v => pt.getD v.toNat 0
section
variable {K : PySem.W.Frag} {H H' : Hp} {q : Addr} {f : Pt} {dom dom' : Int → Prop} {v : Int} {Q : VK} {pt : List Int} {S : List Addr}
theorem r_pt (h : PtAt K H q f dom) (hv : dom v) (k : Q (.int (f v)) H) : rPt K (.ref q) (.int v) H Q := by
  rcases h v hv with ⟨xs, h1, h2⟩ | ⟨xs, h1, h2⟩ | ⟨kvs, h1, h2⟩
  · exact .inl ⟨q, xs, v, _, rfl, rfl, h1, h2, k⟩
  · exact .inr (.inl ⟨q, xs, v, _, rfl, rfl, SqL.of h1, h2, k⟩)
  · exact .inr (.inr ⟨q, kvs, v, _, rfl, rfl, h1, h2, k⟩)
theorem PtAt.kp (k : Kp S H H') (h : PtAt K H q f dom) (n : ¬ q ∈ S) : PtAt K H' q f dom := fun v hv => by
  rcases h v hv with ⟨xs, h1, h2⟩ | ⟨xs, h1, h2⟩ | ⟨kvs, h1, h2⟩
  · exact .inl ⟨xs, k.tup h1, h2⟩
  · exact .inr (.inl ⟨xs, k.get n h1, h2⟩)
  · exact .inr (.inr ⟨kvs, k.get n h1, h2⟩)
theorem PtAt.kp0 (k : Kp [] H H') (h : PtAt K H q f dom) : PtAt K H' q f dom := h.kp k fun z => nomatch z
theorem PtAt.ofT (h : SqT K H q (pt.map V.int)) : PtAt K H q (at_ pt) fun v => 0 ≤ v ∧ v < pt.length := fun v hv => .inl ⟨_, h, atI_ints hv.1 hv.2⟩
theorem PtAt.ofL (h : H q = some (.lst (pt.map V.int))) : PtAt K H q (at_ pt) fun v => 0 ≤ v ∧ v < pt.length := fun v hv => .inr (.inl ⟨_, h, atI_ints hv.1 hv.2⟩)
theorem PtAt.mono (h : PtAt K H q f dom) (l : ∀ v, dom' v → dom v) : PtAt K H q f dom' := fun v hv => h v (l v hv)
end
def tmBd (ts : Tms) : Prop := ∀ z ∈ ts, -2000000000000000000 < z.2 ∧ z.2 < 2000000000000000000
def spSumF (K : PySem.W.Frag) : Sp := fun vs H Q _ => ∃ (p q : Addr) (ts : Tms) (f : Pt) (dom : Int → Prop), vs = [.ref p, .ref q] ∧ Im K H (.ref p) (tmD ts) ∧ PtAt K H q f dom ∧ (∀ z ∈ ts, dom z.1) ∧ tmBd ts ∧ Q (.int (sumF ts f)) H
theorem spSumF_i {K : PySem.W.Frag} {H : Hp} {Q : VK} {E : XK} {p q : Addr} {ts : Tms} {f : Pt} {dom : Int → Prop} (h1 : Im K H (.ref p) (tmD ts)) (h2 : PtAt K H q f dom) (h3 : ∀ z ∈ ts, dom z.1) (h4 : tmBd ts) (k : Q (.int (sumF ts f)) H) : spSumF K [.ref p, .ref q] H Q E :=
  ⟨p, q, ts, f, dom, rfl, h1, h2, h3, h4, k⟩
def spNegT (K : PySem.W.Frag) : Sp := fun vs H Q _ => ∃ (p : Addr) (ts : Tms), vs = [.ref p] ∧ Im K H (.ref p) (tmD ts) ∧ ts.length ≤ 1000 ∧ ∀ (p' : Addr) (H' : Hp), Im K H' (.ref p') (tmD (negT ts)) → Kp [] H H' → Q (.ref p') H'
local macro_rules | `(tactic| walk_at "cg h") => `(tactic| (first
  | ((with_reducible show PtAt _ _ _ _ _); exact PtAt.kp0 (by assumption) (by walk_at "cg h"))
  | fail))
local macro_rules | `(tactic| walk_at "cg h") => `(tactic| assumption)

/-! ### data: when equal -/
mutual
/-- no bool, no dict, no list within -/
def nb : PyData → Bool
  | .none => true
  | .int _ => true
  | .str _ => true
  | .tuple xs => nbAll xs
  | _ => false
def nbAll : List PyData → Bool
  | [] => true
  | x :: xs => nb x && nbAll xs
end
mutual
theorem eqv_nb : ∀ (d e : PyData), nb d = true → nb e = true → PyData.eqv d e = true → d = e
  | .none, .none, _, _, _ => rfl
  | .int i, .int j, _, _, h => by
    have h' : (i == j) = true := by simpa only [PyData.eqv] using h
    rw [beq_iff_eq.mp h']
  | .str i, .str j, _, _, h => by
    have h' : (i == j) = true := by simpa only [PyData.eqv] using h
    rw [beq_iff_eq.mp h']
  | .tuple xs, .tuple ys, h1, h2, h => by
    rw [eqvAll_nb xs ys (by simpa only [nb] using h1) (by simpa only [nb] using h2) (by simpa only [PyData.eqv] using h)]
  | .none, .int _, _, _, h => by simp [PyData.eqv] at h
  | .none, .str _, _, _, h => by simp [PyData.eqv] at h
  | .none, .tuple _, _, _, h => by simp [PyData.eqv] at h
  | .int _, .none, _, _, h => by simp [PyData.eqv] at h
  | .int _, .str _, _, _, h => by simp [PyData.eqv] at h
  | .int _, .tuple _, _, _, h => by simp [PyData.eqv] at h
  | .str _, .none, _, _, h => by simp [PyData.eqv] at h
  | .str _, .int _, _, _, h => by simp [PyData.eqv] at h
  | .str _, .tuple _, _, _, h => by simp [PyData.eqv] at h
  | .tuple _, .none, _, _, h => by simp [PyData.eqv] at h
  | .tuple _, .int _, _, _, h => by simp [PyData.eqv] at h
  | .tuple _, .str _, _, _, h => by simp [PyData.eqv] at h
  | .bool _, _, h, _, _ => by simp [nb] at h
  | .list _, _, h, _, _ => by simp [nb] at h
  | .dict _, _, h, _, _ => by simp [nb] at h
  | _, .bool _, _, h, _ => by simp [nb] at h
  | _, .list _, _, h, _ => by simp [nb] at h
  | _, .dict _, _, h, _ => by simp [nb] at h
theorem eqvAll_nb : ∀ (ds es : List PyData), nbAll ds = true → nbAll es = true → PyData.eqvAll ds es = true → ds = es
  | [], [], _, _, _ => rfl
  | [], _ :: _, _, _, h => by simp [PyData.eqvAll] at h
  | _ :: _, [], _, _, h => by simp [PyData.eqvAll] at h
  | d :: ds, e :: es, h1, h2, h => by
    simp only [nbAll, Bool.and_eq_true] at h1 h2
    simp only [PyData.eqvAll, Bool.and_eq_true] at h
    rw [eqv_nb d e h1.1 h2.1 h.1, eqvAll_nb ds es h1.2 h2.2 h.2]
end
theorem nbAll_of {ds : List PyData} (h : ∀ d ∈ ds, nb d = true) : nbAll ds = true := by
  induction ds with
  | nil => rfl
  | cons d ds ih => simp only [nbAll, h d List.mem_cons_self, ih fun e he => h e (List.mem_cons_of_mem _ he), Bool.and_self]
/-- an encoding whose values are equal exactly if the data are -/
theorem eqv_dec {α : Type} [DecidableEq α] {f : α → PyData} (hf : ∀ a b, f a = f b → a = b) (hn : ∀ a, nb (f a) = true) (hs : ∀ a, (f a).canLay0 = true) (a b : α) : PyData.eqv (f a) (f b) = decide (a = b) := by
  by_cases h : a = b
  · subst h
    rw [PySem.SeqAt.eqv_refl _ (hs a), decide_eq_true rfl]
  · rw [decide_eq_false h]
    cases q : PyData.eqv (f a) (f b) with
    | false => rfl
    | true => exact absurd (hf a b (eqv_nb _ _ (hn a) (hn b) q)) h
theorem map_inj {α β : Type} {f : α → β} (hf : ∀ a b, f a = f b → a = b) : ∀ {xs ys : List α}, xs.map f = ys.map f → xs = ys
  | [], [], _ => rfl
  | [], _ :: _, h => by simp at h
  | _ :: _, [], h => by simp at h
  | x :: xs, y :: ys, h => by
    simp only [List.map_cons, List.cons.injEq] at h
    rw [hf x y h.1, map_inj hf h.2]
theorem tD_inj (a b : Int × Int) (h : tD a = tD b) : a = b := by
  simp only [tD, PyData.tuple.injEq, List.cons.injEq, PyData.int.injEq, and_true] at h
  exact Prod.ext h.1 h.2
theorem tmD_inj (a b : Tms) (h : tmD a = tmD b) : a = b := by
  simp only [tmD, PyData.tuple.injEq] at h
  exact map_inj tD_inj h
theorem tmD_nb (a : Tms) : nb (tmD a) = true := by
  simp only [tmD, nb]
  exact nbAll_of fun d hd => by
    obtain ⟨z, _, rfl⟩ := List.mem_map.mp hd
    rfl
theorem tmD_eqv (a b : Tms) : PyData.eqv (tmD a) (tmD b) = decide (a = b) := eqv_dec tmD_inj tmD_nb (fun a => (tmD_shp a).lay) a b
/-! ### literals and facts -/
structure Lit where
  v : Int
  r : Rel
  a : Int
  deriving DecidableEq
def Lit.d (l : Lit) : PyData := litD l.v l.r l.a
theorem Rel.s_inj (a b : Rel) (h : a.s = b.s) : a = b := by
  have e : (decide (a = b) || !decide (a.s = b.s)) = true := by
    cases a <;> cases b <;> decide +kernel
  rw [h, decide_eq_true rfl, Bool.not_true, Bool.or_false] at e
  exact of_decide_eq_true e
theorem Lit.d_inj (a b : Lit) (h : a.d = b.d) : a = b := by
  simp only [Lit.d, litD, PyData.tuple.injEq, List.cons.injEq, PyData.int.injEq, PyData.str.injEq, and_true] at h
  obtain ⟨h1, h2, h3⟩ := h
  cases a
  cases b
  simp only at h1 h2 h3
  rw [h1, Rel.s_inj _ _ h2, h3]
theorem Lit.shp (l : Lit) : Shp 1 l.d := .tup (shp_cons (.int _) (shp_cons (.str (Rel.ok _)) (shp_cons (.int _) shp_nil)))
theorem Lit.d_nb (l : Lit) : nb l.d = true := rfl
theorem Lit.eqv (a b : Lit) : PyData.eqv a.d b.d = decide (a = b) := eqv_dec Lit.d_inj Lit.d_nb (fun a => (Lit.shp a).lay) a b
def litsD (ls : List Lit) : PyData := .tuple (ls.map Lit.d)
theorem litsD_shp (ls : List Lit) : Shp 2 (litsD ls) := .tup fun d hd => by
  obtain ⟨z, _, rfl⟩ := List.mem_map.mp hd
  exact Lit.shp z
def Lit.h (l : Lit) (f : Pt) : Bool := l.r.h (f l.v) l.a
theorem lit_mk {K : PySem.W.Frag} {H : Hp} {p : Addr} {v a : Int} {r : Rel} (h : LitAt K H p v r a) : Im K H (.ref p) (Lit.d ⟨v, r, a⟩) := .tup h (.cons (.int _) (.cons (.str _) (.cons (.int _) .nil)))
theorem lit_at {K : PySem.W.Frag} {H : Hp} {x : V} {l : Lit} (h : Im K H x l.d) : ∃ q, x = .ref q ∧ LitAt K H q l.v l.r l.a := by
  obtain ⟨q, rfl⟩ := Im.isRef h
  exact ⟨q, rfl, Im.sq h rfl⟩
theorem room65 {k : Nat} {A : Around} (r : Room k A) : A.units + 65 < cLine := by have := r.un; omega
/-! ### x in a tuple of data -/
section
variable {X : Cx}
def rInDT (K : PySem.W.Frag) : R2 := fun x y H Q => ∃ d ds, Dp K H x d ∧ Dp K H y (.tuple ds) ∧ SeqAt.shaped d = true ∧ SeqAt.shaped (.tuple ds) = true ∧ Q (.bl (ds.any fun z => PyData.eqv z d)) H
theorem cg_inDT (hu : X.A.units + 65 < cLine) : OpR X (compareOp .In) (rInDT X.K) := by
  intro pins s σ H x y v u Q I rx ry h
  obtain ⟨d, ds, hd, he, sd, se, q⟩ := h
  obtain ⟨as, r1⟩ := Dp.reads I d x v hd rx
  obtain ⟨bs, r2⟩ := Dp.reads I (.tuple ds) y u he ry
  exact SeqAt.in_tuple_reads r2 r1 (by have q := SeqAt.canLay_of_shaped se; simpa only [PyData.canLay0] using q) (SeqAt.canLay_of_shaped sd) (PyProof.Rows.room_in_shaped sd hu) ⟨.bl _, H, I, rfl, q⟩
theorem inDT (K : PySem.W.Frag) {k : Nat} {A : Around} (r : Room k A) (h : X.K = K := by rfl) (ha : X.A = A := by rfl) : OpR X (compareOp .In) (rInDT K) := h ▸ cg_inDT (by rw [ha]; exact room65 r)
end
theorem intsD_inj (a b : List Int) (h : intsD a = intsD b) : a = b := by
  simp only [intsD, PyData.tuple.injEq] at h
  exact map_inj (fun x y e => by simpa using e) h
theorem intsD_nb (a : List Int) : nb (intsD a) = true := by
  simp only [intsD, nb]
  exact nbAll_of fun d hd => by
    obtain ⟨z, _, rfl⟩ := List.mem_map.mp hd
    rfl
theorem intsD_shp (a : List Int) : Shp 1 (intsD a) := .tup fun d hd => by
  obtain ⟨z, _, rfl⟩ := List.mem_map.mp hd
  exact .int z
theorem intsD_eqv (a b : List Int) : PyData.eqv (intsD a) (intsD b) = decide (a = b) := eqv_dec intsD_inj intsD_nb (fun a => (intsD_shp a).lay) a b
theorem any_in {α : Type} [DecidableEq α] {d : α → PyData} (hd : ∀ a b, PyData.eqv (d a) (d b) = decide (a = b)) (as : List α) (a : α) : ((as.map d).any fun z => PyData.eqv z (d a)) = decide (a ∈ as) := by
  rw [List.any_map]
  have e : ((fun z => PyData.eqv z (d a)) ∘ d) = fun b => decide (b = a) := by
    funext b
    exact hd b a
  rw [e, Bool.eq_iff_iff]
  simp


/-! ### bodies -/
inductive Body where
  | row (ts : Tms) (r : Rel) (n : Int)
  | any (ls : List Lit)
  | when (l : Lit) (ts : Tms) (r : Rel) (n : Int)
  | diff (us : List Int)
  | table (us : List Int) (rows : List (List Int))
  | elem (x : Int) (es : List Int) (y : Int)
  | times (x y z : Int)
  deriving DecidableEq
def rowsD (rows : List (List Int)) : PyData := .tuple (rows.map intsD)
def Body.d : Body → PyData
  | .row ts r n => .tuple [.str (Str.ofString "row"), tmD ts, .str r.s, .int n]
  | .any ls => .tuple [.str (Str.ofString "any"), litsD ls]
  | .when l ts r n => .tuple [.str (Str.ofString "when"), l.d, tmD ts, .str r.s, .int n]
  | .diff us => .tuple [.str (Str.ofString "different"), intsD us]
  | .table us rows => .tuple [.str (Str.ofString "table"), intsD us, rowsD rows]
  | .elem x es y => .tuple [.str (Str.ofString "element"), .int x, intsD es, .int y]
  | .times x y z => .tuple [.str (Str.ofString "times"), .int x, .int y, .int z]
def Body.vars : Body → List Int
  | .row ts _ _ => ts.map (·.1)
  | .any ls => ls.map (·.v)
  | .when l ts _ _ => l.v :: ts.map (·.1)
  | .diff us => us
  | .table us _ => us
  | .elem x _ y => [x, y]
  | .times x y z => [x, y, z]
def Body.h (f : Pt) : Body → Bool
  | .row ts r n => r.h (sumF ts f) n
  | .any ls => ls.any fun l => l.h f
  | .when l ts r n => !l.h f || r.h (sumF ts f) n
  | .diff us => decide (us.map f).Nodup
  | .table us rows => decide (us.map f ∈ rows)
  | .elem x es y => decide (0 ≤ f x) && (decide (f x < es.length) && decide (es.getD (f x).toNat 0 = f y))
  | .times x y z => decide (f x * f y = f z)
/-- sizes for the walk -/
def Body.bd : Body → Prop
  | .row ts _ _ => tmBd ts ∧ ts.length ≤ 62
  | .any ls => ls.length ≤ 62
  | .when _ ts _ _ => tmBd ts ∧ ts.length ≤ 62
  | .diff us => us.length ≤ 62
  | .table us rows => us.length ≤ 62 ∧ rows.length ≤ 1000
  | .elem _ es _ => es.length ≤ 1000
  | .times _ _ _ => True
theorem any_congr' {α : Type} {as : List α} {f g : α → Bool} (h : ∀ a ∈ as, f a = g a) : as.any f = as.any g := by
  induction as with
  | nil => rfl
  | cons a as ih => rw [List.any_cons, List.any_cons, h a List.mem_cons_self, ih fun b hb => h b (List.mem_cons_of_mem _ hb)]
theorem Body.bd_vars {b : Body} (h : b.bd) : b.vars.length ≤ 63 := by
  cases b <;> simp only [Body.bd, Body.vars, List.length_map, List.length_cons, List.length_nil] at h ⊢ <;> omega
theorem Body.h_congr {b : Body} {f g : Pt} (h : ∀ v ∈ b.vars, f v = g v) : b.h f = b.h g := by
  have m : ∀ us : List Int, (∀ v ∈ us, f v = g v) → us.map f = us.map g := fun us h => List.map_congr_left h
  have s : ∀ ts : Tms, (∀ v ∈ ts.map (·.1), f v = g v) → sumF ts f = sumF ts g := fun ts h => sumF_congr fun z hz => h _ (List.mem_map.mpr ⟨z, hz, rfl⟩)
  cases b with
  | row ts r n => simp only [Body.h, s ts h]
  | any ls =>
    simp only [Body.h]
    refine any_congr' fun l hl => ?_
    simp only [Lit.h, h l.v (List.mem_map.mpr ⟨l, hl, rfl⟩)]
  | when l ts r n =>
    simp only [Body.h, Lit.h, h l.v List.mem_cons_self, s ts fun v hv => h v (List.mem_cons_of_mem _ hv)]
  | diff us => simp only [Body.h, m us h]
  | table us rows => simp only [Body.h, m us h]
  | elem x es y => simp only [Body.h, h x (by simp [Body.vars]), h y (by simp [Body.vars])]
  | times x y z => simp only [Body.h, h x (by simp [Body.vars]), h y (by simp [Body.vars]), h z (by simp [Body.vars])]
theorem rowsD_shp (rows : List (List Int)) : Shp 2 (rowsD rows) := .tup fun d hd => by
  obtain ⟨z, _, rfl⟩ := List.mem_map.mp hd
  exact intsD_shp z
theorem Body.shp (b : Body) : Shp 3 b.d := by
  have t1 : ∀ ts, Shp 2 (tmD ts) := tmD_shp
  cases b with
  | row ts r n => exact .tup (shp_cons (.str (by decide +kernel)) (shp_cons (tmD_shp ts) (shp_cons (.str (Rel.ok r)) (shp_cons (.int _) shp_nil))))
  | any ls => exact .tup (shp_cons (.str (by decide +kernel)) (shp_cons (litsD_shp ls) shp_nil))
  | when l ts r n => exact .tup (shp_cons (.str (by decide +kernel)) (shp_cons ((Lit.shp l).mono (by decide)) (shp_cons (tmD_shp ts) (shp_cons (.str (Rel.ok r)) (shp_cons (.int _) shp_nil)))))
  | diff us => exact .tup (shp_cons (.str (by decide +kernel)) (shp_cons ((intsD_shp us).mono (by decide)) shp_nil))
  | table us rows => exact .tup (shp_cons (.str (by decide +kernel)) (shp_cons ((intsD_shp us).mono (by decide)) (shp_cons (rowsD_shp rows) shp_nil)))
  | elem x es y => exact .tup (shp_cons (.str (by decide +kernel)) (shp_cons (.int _) (shp_cons ((intsD_shp es).mono (by decide)) (shp_cons (.int _) shp_nil))))
  | times x y z => exact .tup (shp_cons (.str (by decide +kernel)) (shp_cons (.int _) (shp_cons (.int _) (shp_cons (.int _) shp_nil))))
abbrev BodyAt (K : PySem.W.Frag) (H : Hp) (p : Addr) (b : Body) : Prop := Im K H (.ref p) b.d
theorem ImAll.c {K : PySem.W.Frag} {H : Hp} {xs : List V} {d : PyData} {ds : List PyData} (h : ImAll K H xs (d :: ds)) : ∃ x ys, xs = x :: ys ∧ Im K H x d ∧ ImAll K H ys ds := by
  cases h with
  | cons h a => exact ⟨_, _, rfl, h, a⟩
theorem ImAll.n {K : PySem.W.Frag} {H : Hp} {xs : List V} (h : ImAll K H xs []) : xs = [] := by
  cases h
  rfl
section
variable {K : PySem.W.Frag} {H : Hp} {p : Addr} {ts : Tms} {n x y z : Int} {ls : List Lit} {l : Lit} {r : Rel} {us es : List Int} {rows : List (List Int)}
theorem b_row (h : BodyAt K H p (.row ts r n)) : ∃ q, SqT K H p [.str (Str.ofString "row"), .ref q, .str r.s, .int n] ∧ Im K H (.ref q) (tmD ts) := by
  obtain ⟨_, h1, h2⟩ := Im.open h
  obtain ⟨_, _, rfl, a1, h2⟩ := h2.c
  obtain ⟨_, _, rfl, a2, h2⟩ := h2.c
  obtain ⟨_, _, rfl, a3, h2⟩ := h2.c
  obtain ⟨_, _, rfl, a4, h2⟩ := h2.c
  obtain rfl := h2.n
  obtain ⟨q, rfl⟩ := a2.isRef
  cases a1; cases a3; cases a4
  exact ⟨q, h1, a2⟩
theorem b_any (h : BodyAt K H p (.any ls)) : ∃ q, SqT K H p [.str (Str.ofString "any"), .ref q] ∧ Im K H (.ref q) (litsD ls) := by
  obtain ⟨_, h1, h2⟩ := Im.open h
  obtain ⟨_, _, rfl, a1, h2⟩ := h2.c
  obtain ⟨_, _, rfl, a2, h2⟩ := h2.c
  obtain rfl := h2.n
  obtain ⟨q, rfl⟩ := a2.isRef
  cases a1
  exact ⟨q, h1, a2⟩
theorem b_when (h : BodyAt K H p (.when l ts r n)) : ∃ q1 q, SqT K H p [.str (Str.ofString "when"), .ref q1, .ref q, .str r.s, .int n] ∧ LitAt K H q1 l.v l.r l.a ∧ Im K H (.ref q) (tmD ts) := by
  obtain ⟨_, h1, h2⟩ := Im.open h
  obtain ⟨_, _, rfl, a1, h2⟩ := h2.c
  obtain ⟨_, _, rfl, a0, h2⟩ := h2.c
  obtain ⟨_, _, rfl, a2, h2⟩ := h2.c
  obtain ⟨_, _, rfl, a3, h2⟩ := h2.c
  obtain ⟨_, _, rfl, a4, h2⟩ := h2.c
  obtain rfl := h2.n
  obtain ⟨q, rfl⟩ := a2.isRef
  obtain ⟨q1, rfl, L⟩ := lit_at a0
  cases a1; cases a3; cases a4
  exact ⟨q1, q, h1, L, a2⟩
theorem b_diff (h : BodyAt K H p (.diff us)) : ∃ q, SqT K H p [.str (Str.ofString "different"), .ref q] ∧ SqT K H q (us.map V.int) := by
  obtain ⟨_, h1, h2⟩ := Im.open h
  obtain ⟨_, _, rfl, a1, h2⟩ := h2.c
  obtain ⟨_, _, rfl, a2, h2⟩ := h2.c
  obtain rfl := h2.n
  obtain ⟨q, rfl⟩ := a2.isRef
  cases a1
  exact ⟨q, h1, a2.intsT⟩
theorem b_table (h : BodyAt K H p (.table us rows)) : ∃ q q2, SqT K H p [.str (Str.ofString "table"), .ref q, .ref q2] ∧ SqT K H q (us.map V.int) ∧ Im K H (.ref q2) (rowsD rows) := by
  obtain ⟨_, h1, h2⟩ := Im.open h
  obtain ⟨_, _, rfl, a1, h2⟩ := h2.c
  obtain ⟨_, _, rfl, a2, h2⟩ := h2.c
  obtain ⟨_, _, rfl, a3, h2⟩ := h2.c
  obtain rfl := h2.n
  obtain ⟨q, rfl⟩ := a2.isRef
  obtain ⟨q2, rfl⟩ := a3.isRef
  cases a1
  exact ⟨q, q2, h1, a2.intsT, a3⟩
theorem b_elem (h : BodyAt K H p (.elem x es y)) : ∃ q, SqT K H p [.str (Str.ofString "element"), .int x, .ref q, .int y] ∧ SqT K H q (es.map V.int) := by
  obtain ⟨_, h1, h2⟩ := Im.open h
  obtain ⟨_, _, rfl, a1, h2⟩ := h2.c
  obtain ⟨_, _, rfl, a3, h2⟩ := h2.c
  obtain ⟨_, _, rfl, a2, h2⟩ := h2.c
  obtain ⟨_, _, rfl, a4, h2⟩ := h2.c
  obtain rfl := h2.n
  obtain ⟨q, rfl⟩ := a2.isRef
  cases a1; cases a3; cases a4
  exact ⟨q, h1, a2.intsT⟩
theorem b_times (h : BodyAt K H p (.times x y z)) : SqT K H p [.str (Str.ofString "times"), .int x, .int y, .int z] := Im.sq h rfl
end
/-- a list of ints built by hand at l -/
def spUnkn (K : PySem.W.Frag) : Sp := fun vs H Q _ => ∃ (p : Addr) (b : Body), vs = [.ref p] ∧ BodyAt K H p b ∧ b.bd ∧ ∀ (l : Addr) (ns : List Int) (H' : Hp), H l = none → H' l = some (.lst (ns.map V.int)) → ns.Pairwise (· < ·) → (∀ k, k ∈ ns ↔ k ∈ b.vars) → Kp [] H H' → Q (.ref l) H'
def ptBd (f : Pt) (dom : Int → Prop) : Prop := ∀ v, dom v → -1000000000000 < f v ∧ f v < 1000000000000
def spHolds (K : PySem.W.Frag) : Sp := fun vs H Q _ => ∃ (p q : Addr) (b : Body) (f : Pt) (dom : Int → Prop), vs = [.ref p, .ref q] ∧ BodyAt K H p b ∧ b.bd ∧ PtAt K H q f dom ∧ ptBd f dom ∧ (∀ v ∈ b.vars, dom v) ∧ ∀ H', Kp [] H H' → Q (.bl (b.h f)) H'
def rCatL (K : PySem.W.Frag) : R2 := fun x y H Q => ∃ l b xs zs, x = .ref l ∧ y = .ref b ∧ H l = some (.lst xs) ∧ H b = some (.lst zs) ∧ xs.length + zs.length ≤ 10000 ∧ ∀ p H2, H p = none → H2 p = some (.lst (xs ++ zs)) → Kp [] H H2 → Q (.ref p) H2
theorem op_catL {X : Cx} (K : PySem.W.Frag) : OpR X (binaryOp .Add) (rCatL K) := fun pins s σ H x y v u Q I rx ry ⟨l, b, xs, zs, e1, e2, h1, h2, hz, q⟩ =>
  op_cat pins s σ H x y v u Q I rx ry ⟨l, b, xs, zs, e1, e2, h1, h2, by rw [sizeLine_eq]; omega, fun p hp => q p _ hp upd_same (Kp.new hp)⟩
theorem r_cat {K : PySem.W.Frag} {H : Hp} {Q : VK} {l b : Addr} {xs zs : List V} (h1 : H l = some (.lst xs)) (h2 : H b = some (.lst zs)) (hz : xs.length + zs.length ≤ 10000) (q : ∀ p H2, H p = none → H2 p = some (.lst (xs ++ zs)) → Kp [] H H2 → Q (.ref p) H2) : rCatL K (.ref l) (.ref b) H Q :=
  ⟨l, b, xs, zs, rfl, rfl, h1, h2, hz, q⟩

/-! ### the numbers of a range that are in a list -/
theorem sorted_ext : ∀ {xs ys : List Int}, xs.Pairwise (· < ·) → ys.Pairwise (· < ·) → (∀ k, k ∈ xs ↔ k ∈ ys) → xs = ys
  | [], [], _, _, _ => rfl
  | [], y :: ys, _, _, h => by simpa using (h y).2 List.mem_cons_self
  | x :: xs, [], _, _, h => by simpa using (h x).1 List.mem_cons_self
  | x :: xs, y :: ys, h1, h2, h => by
    rw [List.pairwise_cons] at h1 h2
    have e : x = y := by
      rcases List.mem_cons.mp ((h x).1 List.mem_cons_self) with q | q
      · exact q
      · rcases List.mem_cons.mp ((h y).2 List.mem_cons_self) with q2 | q2
        · exact q2.symm
        · have a := h1.1 _ q2
          have b := h2.1 _ q
          omega
    subst e
    rw [sorted_ext h1.2 h2.2 fun k => ?_]
    constructor
    · intro hk
      rcases List.mem_cons.mp ((h k).1 (List.mem_cons_of_mem _ hk)) with q | q
      · subst q
        exact absurd (h1.1 _ hk) (Int.lt_irrefl _)
      · exact q
    · intro hk
      rcases List.mem_cons.mp ((h k).2 (List.mem_cons_of_mem _ hk)) with q | q
      · subst q
        exact absurd (h2.1 _ hk) (Int.lt_irrefl _)
      · exact q
def numsOf (us : List Int) (i : Nat) : List Int := ((List.range i).map Int.ofNat).filter fun v => decide (v ∈ us)
theorem numsOf_succ (us : List Int) (i : Nat) : numsOf us (i + 1) = numsOf us i ++ (if decide (((i : Nat) : Int) ∈ us) = true then [((i : Nat) : Int)] else []) := by
  unfold numsOf
  rw [List.range_succ, List.map_append, List.filter_append]
  congr 1
  simp only [List.map_cons, List.map_nil, List.filter_cons, List.filter_nil]
  rfl
theorem numsOf_le (us : List Int) (i : Nat) : (numsOf us i).length ≤ i := by
  have q := List.length_filter_le (fun v => decide (v ∈ us)) ((List.range i).map Int.ofNat)
  rw [List.length_map, List.length_range] at q
  exact q
theorem numsOf_mem {us : List Int} {i : Nat} {k : Int} : k ∈ numsOf us i ↔ (0 ≤ k ∧ k < i) ∧ k ∈ us := by
  unfold numsOf
  rw [List.mem_filter, List.mem_map]
  simp only [decide_eq_true_eq, List.mem_range]
  constructor
  · rintro ⟨⟨j, hj, rfl⟩, h⟩
    exact ⟨⟨Int.natCast_nonneg j, by show (j : Int) < i; omega⟩, h⟩
  · rintro ⟨⟨h0, h1⟩, h⟩
    exact ⟨⟨k.toNat, by omega, by show ((k.toNat : Nat) : Int) = k; omega⟩, h⟩
theorem numsOf_asc (us : List Int) (i : Nat) : (numsOf us i).Pairwise (· < ·) := by
  refine List.Pairwise.filter _ ?_
  rw [List.pairwise_map]
  exact List.pairwise_lt_range.imp fun {a b} h => by show (a : Int) < b; omega
theorem intsL_dp {K : PySem.W.Frag} {H : Hp} {l : Addr} {ns : List Int} (h : H l = some (.lst (ns.map V.int))) : Dp K H (.ref l) (.list (ns.map PyData.int)) := .lst (SqL.of h) (imInts ns).dp
theorem intsL_shp (ns : List Int) : Shp 1 (.list (ns.map PyData.int)) := .list fun d hd => by
  obtain ⟨z, _, rfl⟩ := List.mem_map.mp hd
  exact .int z

/-! ### bodies that fit; the law's own -/
def litFit (m : Int) (l : Lit) : Prop := 0 ≤ l.v ∧ l.v < m ∧ -1001 ≤ l.a ∧ l.a ≤ 1001
def tmFit (m : Int) (ts : Tms) : Prop := ts.length ≤ 60 ∧ (ts.map (·.1)).Pairwise (· < ·) ∧ ∀ z ∈ ts, 0 ≤ z.1 ∧ z.1 < m ∧ z.2 ≠ 0 ∧ -1000000 ≤ z.2 ∧ z.2 ≤ 1000000
def numFit (m : Int) (us : List Int) : Prop := us.Nodup ∧ ∀ u ∈ us, 0 ≤ u ∧ u < m
def entFit (es : List Int) : Prop := ∀ e ∈ es, -1000 ≤ e ∧ e ≤ 1000
def linFit (m : Int) (ts : Tms) (r : Rel) (n : Int) : Prop := tmFit m ts ∧ r ≠ .ne ∧ -1000000000 ≤ n ∧ n ≤ 1000000000
def Body.fit (m : Int) : Body → Prop
  | .row ts r n => linFit m ts r n
  | .any ls => (1 ≤ ls.length ∧ ls.length ≤ 40) ∧ ls.Nodup ∧ ∀ l ∈ ls, litFit m l
  | .when l ts r n => litFit m l ∧ linFit m ts r n
  | .diff us => (2 ≤ us.length ∧ us.length ≤ 20) ∧ numFit m us
  | .table us rows => ((1 ≤ us.length ∧ us.length ≤ 6) ∧ numFit m us) ∧ (1 ≤ rows.length ∧ rows.length ≤ 200) ∧ ∀ r ∈ rows, r.length = us.length ∧ entFit r
  | .elem x es y => ((0 ≤ x ∧ x < m) ∧ (0 ≤ y ∧ y < m)) ∧ (1 ≤ es.length ∧ es.length ≤ 60) ∧ entFit es
  | .times x y z => (0 ≤ x ∧ x < m) ∧ (0 ≤ y ∧ y < m) ∧ (0 ≤ z ∧ z < m)
theorem tmFit.bd {m : Int} {ts : Tms} (h : tmFit m ts) : tmBd ts := fun z hz => by
  have q := h.2.2 z hz
  omega
theorem Body.fit_bd {m : Int} {b : Body} (h : b.fit m) : b.bd := by
  cases b with
  | row ts r n => exact ⟨h.1.bd, by have := h.1.1; omega⟩
  | any ls => exact (show ls.length ≤ 62 by have := h.1.2; omega)
  | when l ts r n => exact ⟨h.2.1.bd, by have := h.2.1.1; omega⟩
  | diff us => exact (show us.length ≤ 62 by have := h.1.2; omega)
  | table us rows => exact ⟨by have := h.1.1.2; omega, by have := h.2.1.2; omega⟩
  | elem x es y => exact (show es.length ≤ 1000 by have := h.2.1.2; omega)
  | times x y z => trivial
theorem Body.fit_vars {m : Int} {b : Body} (h : b.fit m) : ∀ v ∈ b.vars, 0 ≤ v ∧ v < m := by
  have t : ∀ ts, tmFit m ts → ∀ v ∈ ts.map (fun z : Int × Int => z.1), 0 ≤ v ∧ v < m := fun ts h v hv => by
    obtain ⟨z, hz, rfl⟩ := List.mem_map.mp hv
    have q := h.2.2 z hz
    exact ⟨q.1, q.2.1⟩
  cases b with
  | row ts r n => exact t ts h.1
  | any ls =>
    intro v hv
    obtain ⟨l, hl, rfl⟩ := List.mem_map.mp hv
    have q := h.2.2 l hl
    exact ⟨q.1, q.2.1⟩
  | when l ts r n =>
    intro v hv
    rcases List.mem_cons.mp hv with rfl | hv
    · exact ⟨h.1.1, h.1.2.1⟩
    · exact t ts h.2.1 v hv
  | diff us => exact h.2.2
  | table us rows => exact h.1.2.2
  | elem x es y =>
    intro v hv
    simp only [Body.vars, List.mem_cons, List.not_mem_nil, or_false] at hv
    rcases hv with rfl | rfl
    · exact h.1.1
    · exact h.1.2
  | times x y z =>
    intro v hv
    simp only [Body.vars, List.mem_cons, List.not_mem_nil, or_false] at hv
    rcases hv with rfl | rfl | rfl
    · exact h.1
    · exact h.2.1
    · exact h.2.2
/-- the law's terms: small -/
def tmLaw (m : Int) (ts : Tms) : Prop := (∀ z ∈ ts, 0 ≤ z.1 ∧ z.1 < m ∧ z.2 ≠ 0 ∧ -3 ≤ z.2 ∧ z.2 ≤ 3) ∧ (ts.map (·.1)).Pairwise (· < ·) ∧ (ts.length : Int) ≤ m
theorem tmLaw.fit {m : Int} {ts : Tms} (h : tmLaw m ts) (hm : m ≤ 60) : tmFit m ts := ⟨by have := h.2.2; omega, h.2.1, fun z hz => by have q := h.1 z hz; omega⟩
def spLawTerms (K : PySem.W.Frag) : Sp := fun vs H Q _ => ∃ (t c : Addr) (m : Int), vs = [.ref t, .int m] ∧ Tp t c H ∧ 0 ≤ m ∧ m ≤ 60 ∧ ∀ (p : Addr) (ts : Tms) (H' : Hp), Im K H' (.ref p) (tmD ts) → tmLaw m ts → Tp t c H' → Kp [t] H H' → Q (.ref p) H'
def spLawLiteral (K : PySem.W.Frag) : Sp := fun vs H Q _ => ∃ (t c : Addr) (m : Int), vs = [.ref t, .int m] ∧ Tp t c H ∧ 1 ≤ m ∧ m ≤ 60 ∧ ∀ (p : Addr) (l : Lit) (H' : Hp), LitAt K H' p l.v l.r l.a → litFit m l → Tp t c H' → Kp [t] H H' → Q (.ref p) H'
def spLawSome (K : PySem.W.Frag) : Sp := fun vs H Q _ => ∃ (t c : Addr) (m k : Int), vs = [.ref t, .int m, .int k] ∧ Tp t c H ∧ 0 ≤ k ∧ k ≤ m ∧ m ≤ 60 ∧ ∀ (p : Addr) (us : List Int) (H' : Hp), SqT K H' p (us.map V.int) → numFit m us → k ≤ us.length → (us.length : Int) ≤ m → Tp t c H' → Kp [t] H H' → Q (.ref p) H'
def spLawBody (K : PySem.W.Frag) : Sp := fun vs H Q _ => ∃ (t c : Addr) (m : Int), vs = [.ref t, .int m] ∧ Tp t c H ∧ 1 ≤ m ∧ m ≤ 20 ∧ ∀ (p : Addr) (b : Body) (H' : Hp), BodyAt K H' p b → b.fit m → Tp t c H' → Kp [t] H H' → Q (.ref p) H'
theorem notInDL {X : Cx} (K : PySem.W.Frag) {k : Nat} {A : Around} (r : Room k A) (h : X.K = K := by rfl) (ha : X.A = A := by rfl) : OpR X (compareOp .NotIn) (rNotInD K) := h ▸ op_notInD (by rw [ha]; exact room65 r)
theorem inDL {X : Cx} (K : PySem.W.Frag) {k : Nat} {A : Around} (r : Room k A) (h : X.K = K := by rfl) (ha : X.A = A := by rfl) : OpR X (compareOp .In) (rInD K) := h ▸ op_inD (by rw [ha]; exact room65 r)
theorem slA {X : Cx} (K : PySem.W.Frag) (h : X.K = K := by rfl) : SlR X (rSlA K) := h ▸ sl_tupA
theorem cut_to {xs : List V} {n : Nat} : cutV xs none (some (n : Int)) = xs.take n := by
  unfold cutV
  rw [HT.sIx_nat, HT.sIx_none, List.drop_zero, Nat.sub_zero]
  by_cases h : n ≤ xs.length
  · rw [Nat.min_eq_left h]
  · rw [Nat.min_eq_right (by omega), List.take_of_length_le (Nat.le_refl _), List.take_of_length_le (by omega)]
/-- t[:n] -/
theorem r_slA {K : PySem.W.Frag} {H : Hp} {Q : VK} {p : Addr} {xs : List V} {n : Nat} (h : SqT K H p xs) (q : ∀ l H2, SqT K H2 l (xs.take n) → Kp [] H H2 → Q (.ref l) H2) : rSlA K (.ref p) none (some (n : Int)) H Q := by
  refine ⟨p, xs, rfl, h, fun e => ?_, fun _ l hl => ?_⟩
  · have e2 := e.2
    rw [HT.sIx_nat] at e2
    refine q p H ?_ .refl
    rw [List.take_of_length_le (by omega)]
    exact h
  · rw [cut_to]
    exact q l _ (SqT.of upd_same) (Kp.new hl)
/-- the ints of a range -/
def rgI (a b : Int) : List Int := (List.range (b - a).toNat).map fun i => a + ((i : Nat) : Int)
theorem rgV_eq (a b : Int) : rgV a b = (rgI a b).map V.int := by
  unfold rgV rgI
  rw [List.map_map]
  rfl
theorem rgI_mem {a b k : Int} : k ∈ rgI a b ↔ a ≤ k ∧ k < b := by
  unfold rgI
  rw [List.mem_map]
  constructor
  · rintro ⟨i, hi, rfl⟩
    rw [List.mem_range] at hi
    omega
  · intro h
    exact ⟨(k - a).toNat, by rw [List.mem_range]; omega, by omega⟩
theorem rgI_asc (a b : Int) : (rgI a b).Pairwise (· < ·) := by
  unfold rgI
  rw [List.pairwise_map]
  exact List.pairwise_lt_range.imp fun {a b} h => by omega
theorem rgI_len (a b : Int) : (rgI a b).length = (b - a).toNat := by
  unfold rgI
  rw [List.length_map, List.length_range]
def lstRg (a b : Int) (H : Hp) (Q : VK) : Prop := RgOk a b ∧ ∀ q, H q = none → Q (.ref q) (upd H q (.lst (rgV a b)))
instance s_lstRg {te : St → Hp → (Int → Int → Hp → Prop) → Prop} {σ : St} {H : Hp} {Q : VK} : Stp (tLstRg te σ H Q) (te σ H fun a b H1 => lstRg a b H1 Q) := ⟨id⟩
instance s_rg1 {ta : TE} {σ : St} {H : Hp} {R : Int → Int → Hp → Prop} : Stp (tRg1 ta σ H R) (ta σ H fun x H1 => asI x fun n => R 0 n H1) := ⟨id⟩
def asI2 (x y : V) (R : Int → Int → Prop) : Prop := ∃ i j, x = .int i ∧ y = .int j ∧ R i j
instance s_asI2 {i j : Int} {R : Int → Int → Prop} : Stp (asI2 (.int i) (.int j) R) (R i j) := ⟨fun h => ⟨i, j, rfl, rfl, h⟩⟩
instance s_rg2 {ta tb : TE} {σ : St} {H : Hp} {R : Int → Int → Hp → Prop} : Stp (tRg2 ta tb σ H R) (ta σ H fun x H1 => tb σ H1 fun y H2 => asI2 x y fun i j => R i j H2) := ⟨id⟩
theorem r_lstRg {a b : Int} {H : Hp} {Q : VK} (h0 : -1000000 ≤ a ∧ a ≤ 1000000) (h1 : -1000000 ≤ b ∧ b ≤ 1000000) (q : ∀ l H2, H l = none → H2 l = some (.lst ((rgI a b).map V.int)) → Kp [] H H2 → Q (.ref l) H2) : lstRg a b H Q :=
  ⟨⟨by omega, by omega, by omega, by omega, by omega⟩, fun l hl => q l _ hl (by rw [← rgV_eq]; exact upd_same) (Kp.new hl)⟩
theorem erase_map {α β : Type} (f : α → β) : ∀ (xs : List α) (k : Nat), (xs.map f).eraseIdx k = (xs.eraseIdx k).map f
  | [], _ => rfl
  | _ :: _, 0 => rfl
  | x :: xs, k + 1 => by
    show f x :: (xs.map f).eraseIdx k = f x :: (xs.eraseIdx k).map f
    rw [erase_map f xs k]
theorem erase_perm {α : Type} : ∀ (xs : List α) (k : Nat) (y : α), xs[k]? = some y → (y :: xs.eraseIdx k).Perm xs
  | [], _, _, h => by simp at h
  | x :: xs, 0, y, h => by
    simp at h
    subst h
    exact .refl _
  | x :: xs, k + 1, y, h => by
    rw [List.getElem?_cons_succ] at h
    exact (List.Perm.swap x y (xs.eraseIdx k)).trans ((erase_perm xs k y h).cons x)
theorem some_step {base fs rs : List Int} {k : Nat} {y : Int} (h : (fs ++ rs).Perm base) (e : rs[k]? = some y) : ((fs ++ [y]) ++ rs.eraseIdx k).Perm base := by
  refine List.Perm.trans ?_ h
  rw [List.append_assoc]
  exact (erase_perm rs k y e).append_left fs

/-! ### a <= b <= c <= d -/
def tChain3 (r r' r2 : R2) (ta tb tc td : TE) : TE := fun σ H Q => ta σ H fun x H1 => tb σ H1 fun y H2 => r x y H2 fun z H3 => asB z fun k => iteP k (tc σ H3 fun u H4 => r' y u H4 fun z2 H5 => asB z2 fun k2 => iteP k2 (td σ H5 fun v H6 => r2 u v H6 Q) (Q (.bl false) H5)) (Q (.bl false) H3)
open PySem.Spec PyProof.Rows in
theorem pe_chain3 {X : Cx} {a b c d : Expr} {ta tb tc td : TE} {pos : Pos} {op op' op2 : CmpOp} {r r' r2 : R2} (ho : OpR X (compareOp op) r) (ho' : OpR X (compareOp op') r') (ho2 : OpR X (compareOp op2) r2) (ha : PE X a ta) (hb : PE X b tb) (hc : PE X c tc) (hd : PE X d td)
    (hm : lastMarks [op, op', op2] [b, c, d] = false := by with_unfolding_all rfl) : PE X (.Compare a [op, op', op2] [b, c, d] pos) (tChain3 r r' r2 ta tb tc td) := by
  refine ⟨fun pins s σ H Q I h => ?_⟩
  refine Compare_chain (thn (ha.run pins s σ H _ I h) fun v s1 ⟨x, H1, I1, r1, q1⟩ => chain_link (thn (hb.run pins s1 σ H1 _ I1 q1) fun u s2 ⟨y, H2, I2, w2, q2⟩ =>
    thn (ho pins s2 σ H2 x y v u _ I2 r1 w2 q2) fun z0 s3 ⟨z, H3, I3, r3, k, e, q3⟩ => ?_)) hm
  subst e
  cases r3
  refine wpAny_truthy_bool ?_
  cases k with
  | false => exact ite_ff ⟨.bl false, H3, I3, rfl, q3⟩
  | true =>
    refine ite_tt (chain_link (thn (hc.run pins s3 σ H3 _ I3 q3) fun v4 s4 ⟨y4, H4, I4, r4, q4⟩ => thn (ho' pins s4 σ H4 y y4 u v4 _ I4 w2 r4 q4) fun z5 s5 ⟨z6, H5, I5, r5, k2, e2, q5⟩ => ?_))
    subst e2
    cases r5
    refine wpAny_truthy_bool ?_
    cases k2 with
    | false => exact ite_ff ⟨.bl false, H5, I5, rfl, q5⟩
    | true => exact ite_tt (chain_last (thn (hd.run pins s5 σ H5 _ I5 q5) fun v7 s7 ⟨y7, H7, I7, r7, q7⟩ => ho2 pins s7 σ H7 y4 y7 v4 v7 Q I7 r4 r7 q7))
instance s_chain3 {r r' r2 : R2} {ta tb tc td : TE} {σ : St} {H : Hp} {Q : VK} : Stp (tChain3 r r' r2 ta tb tc td σ H Q) (ta σ H fun x H1 => tb σ H1 fun y H2 => r x y H2 fun z H3 => asB z fun k => iteP k (tc σ H3 fun u H4 => r' y u H4 fun z2 H5 => asB z2 fun k2 => iteP k2 (td σ H5 fun v H6 => r2 u v H6 Q) (Q (.bl false) H5)) (Q (.bl false) H3)) := ⟨id⟩
/-! ### own classes -/
structure IsM (P : Program) (w : World) (K : PySem.W.Frag) (mg : Str → Option Value) (base : Heap) (CX : CXT) (k : Nat) (C : Addr) (m : Str) (ps : List Str) (sp : Sp) : Prop where
  ex : ∃ (f : Addr) (fd : FuncData), FnOk P w K mg base CX k f fd ps sp ∧ Meth K C m f ∧ Binds K fd ps []
  cl : Cls K C
structure IsI (P : Program) (w : World) (K : PySem.W.Frag) (mg : Str → Option Value) (base : Heap) (CX : CXT) (k : Nat) (C : Addr) (x : Str) (ps : List Str) (sp : Sp) : Prop where
  ex : ∃ (f : Addr) (fd : FuncData), FnOk P w K mg base CX k f fd ps sp ∧ Mk K C f ∧ Binds K fd ps [] ∧ mg x = some (.ref C)
def mtS (C : Addr) (m : Str) (x : V) (H : Hp) (R : Prop) : Prop := ∃ a dx fs, x = .ref a ∧ H a = some (.ins C dx fs) ∧ fs.lookup m = none ∧ R
def mkS (C : Addr) (sp : Sp) (E : XK) (vs : List V) (H1 : Hp) (Q : VK) : Prop := ∀ x dx, H1 x = none → H1 dx = none → dx ≠ x → sp (.ref x :: (vs ++ [])) (upd (upd H1 dx (.own x)) x (.ins C dx [])) (fun v H2 => v = .non ∧ Q (.ref x) H2) E
def fldS (K : PySem.W.Frag) (f : Str) (x : V) (H : Hp) (Q : VK) : Prop := ∃ a C dx fs v, x = .ref a ∧ H a = some (.ins C dx fs) ∧ Cls K C ∧ NoAttr K C f ∧ fs.lookup f = some v ∧ Q v H
def setF (K : PySem.W.Frag) (f : Str) (x y : V) (H2 : Hp) (R : Hp → Prop) : Prop := ∃ a C dx fs, x = .ref a ∧ H2 a = some (.ins C dx fs) ∧ Cls K C ∧ NoAttr K C f ∧ fs.length < 1000 ∧ R (upd H2 a (.ins C dx (putF f y fs)))
def newD (H : Hp) (Q : VK) : Prop := ∀ p, H p = none → Q (.ref p) (upd H p (.dK []))
def inDk (x y : V) (H : Hp) (Q : VK) : Prop := ∃ a o, x = .ref a ∧ DGet H a y o ∧ Q (.bl o.isSome) H
def putD (x y v : V) (H3 : Hp) (R : Hp → Prop) : Prop := ∃ a H4, x = .ref a ∧ DPut H3 a y v H4 ∧ R H4
section
variable {K : PySem.W.Frag} {C : Addr} {m f : Str} {sp : Sp} {E : XK} {ta tv td ty : TE} {t : TA} {σ : St} {H : Hp} {Q : VK} {a dx : Addr} {fs : List (Str × V)} {v x y : V} {nx bk ct : St → Hp → Prop} {rt : VK} {R : Hp → Prop}
instance s_meth : Stp (tMeth C m sp [] E ta t σ H Q) (ta σ H fun x H1 => mtS C m x H1 (t σ H1 fun vs H2 => sp (x :: vs) H2 Q E)) := ⟨fun h => by
  unfold tMeth
  simp only [List.append_nil]
  exact h⟩
theorem r_mt {R : Prop} (h : H a = some (.ins C dx fs)) (l : fs.lookup m = none) (q : R) : mtS C m (.ref a) H R := ⟨a, dx, fs, rfl, h, l, q⟩
instance s_make : Stp (tMake C sp [] E t σ H Q) (t σ H fun vs H1 => mkS C sp E vs H1 Q) := ⟨id⟩
theorem r_make {vs : List V} (q : ∀ x dx H2, H x = none → H2 x = some (.ins C dx []) → Kp [] H H2 → sp (.ref x :: vs) H2 (fun v H3 => v = .non ∧ Q (.ref x) H3) E) : mkS C sp E vs H Q := fun x dx nx ndx ne => by
  rw [List.append_nil]
  exact q x dx _ nx upd_same ⟨fun b o _ h => by rw [upd_ne (ne_of_none h nx), upd_ne (ne_of_none h ndx)]; exact h, fun _ h => nomatch h⟩
instance s_fld : Stp (tFld K ta f σ H Q) (ta σ H fun x H1 => fldS K f x H1 Q) := ⟨id⟩
theorem r_fld (h : H a = some (.ins C dx fs)) (c : Cls K C) (n : NoAttr K C f) (l : fs.lookup f = some v) (q : Q v H) : fldS K f (.ref a) H Q := ⟨a, C, dx, fs, v, rfl, h, c, n, l, q⟩
instance s_sfld : Stp (sFld K ta tv f ⟨nx, rt, bk, ct⟩ σ H) (tv σ H fun y H1 => ta σ H1 fun x H2 => setF K f x y H2 fun H3 => nx σ H3) := ⟨id⟩
theorem r_setF (h : H a = some (.ins C dx fs)) (c : Cls K C) (n : NoAttr K C f) (few : fs.length < 1000) (q : ∀ H2, H2 a = some (.ins C dx (putF f y fs)) → Kp [a] H H2 → R H2) : setF K f (.ref a) y H R :=
  ⟨a, C, dx, fs, rfl, h, c, n, few, q _ upd_same (Kp.put h trivial)⟩
instance s_dnew : Stp (tDNewK σ H Q) (newD H Q) := ⟨id⟩
theorem r_newD (q : ∀ p H2, H p = none → H2 p = some (.dK []) → Kp [] H H2 → Q (.ref p) H2) : newD H Q := fun p hp => q p _ hp upd_same (Kp.new hp)
instance s_dIn : Stp (tDIn ty td σ H Q) (ty σ H fun y H1 => td σ H1 fun x H2 => inDk x y H2 Q) := ⟨id⟩
theorem r_inDk {kvs : List (Key × V)} {k : Key} {o : Option V} (h : H a = some (.dK kvs)) (e : valV kvs k = o) (q : Q (.bl o.isSome) H) : inDk (.ref a) (kV k) H Q := ⟨a, o, rfl, e ▸ DGet.k h, q⟩
theorem r_inDk0 {kvs : List (Key × V)} {k : Key} (h : H a = some (.dK kvs)) (e : valV kvs k = none) (q : Q (.bl false) H) : inDk (.ref a) (kV k) H Q := r_inDk h e q
theorem r_inDk1 {kvs : List (Key × V)} {k : Key} {w : V} (h : H a = some (.dK kvs)) (e : valV kvs k = some w) (q : Q (.bl true) H) : inDk (.ref a) (kV k) H Q := r_inDk h e q
instance s_dPut : Stp (sDPut td ty tv ⟨nx, rt, bk, ct⟩ σ H) (tv σ H fun v H1 => td σ H1 fun x H2 => ty σ H2 fun y H3 => putD x y v H3 fun H4 => nx σ H4) := ⟨id⟩
theorem r_putD {kvs : List (Key × V)} {k : Key} (h : H a = some (.dK kvs)) (few : kvs.length ≤ 10000) (q : ∀ H2, H2 a = some (.dK (putK kvs k v)) → Kp [a] H H2 → R H2) : putD (.ref a) (kV k) v H R :=
  ⟨a, _, rfl, DPut.k h (small1e4 few), q _ upd_same (Kp.put h trivial)⟩
theorem not_valV {κ : Type} [DecidableEq κ] {kvs : List (κ × V)} {k : κ} (h : ¬ k ∈ kvs.map (·.1)) : valV kvs k = none := by
  cases e : valV kvs k with
  | none => rfl
  | some v => exact absurd (valV_in e) h
end
/-! ### texts -/
section
variable {s : Str} {σ : St} {H : Hp} {g : TG} {tb : TS} {nx bk ct : St → Hp → Prop} {rt : VK} {te : TE} {R : It → Hp → Prop} {Q : VK}
def isS (x : V) (H : Hp) (R : It → Hp → Prop) : Prop := ∃ z, x = .str z ∧ R (Its z) H
instance s_iStr : Stp (iStr te σ H R) (te σ H fun x H1 => isS x H1 R) := ⟨id⟩
instance s_isS : Stp (isS (.str s) H R) (R (Its s) H) := ⟨fun h => ⟨s, rfl, h⟩⟩
theorem r_forS (Pv : Nat → St → Hp → Prop) (h0 : Pv 0 σ H) (hs : ∀ (i c : Nat) σ' H', s.cps[i]? = some c → Pv i σ' H' → g (.str ⟨#[c]⟩) σ' H' fun σ2 H2 => tb ⟨Pv (i + 1), rt, nx, Pv (i + 1)⟩ σ2 H2)
    (hd : ∀ σ' H', Pv s.cps.size σ' H' → nx σ' H') : forS (Its s) g tb ⟨nx, rt, bk, ct⟩ σ H :=
  for_it walk_str Pv h0 (fun _ _ _ _ _ => trivial) (fun i x σ' H1 H2 hi h y => by obtain ⟨rfl, c, hc, rfl⟩ := y; exact hs i c σ' _ hc h) hd
def rLenS : List V → Hp → VK → Prop := fun xs H Q => ∃ z, xs = [.str z] ∧ z.length ≤ sizeLine ∧ Q (.int z.length) H
theorem cg_lenS {X : Cx} : CallR X (.builtin "len") rLenS := call_len_str
theorem r_lenS (h : s.length ≤ 10000) (q : Q (.int s.length) H) : rLenS [.str s] H Q := ⟨s, rfl, by rw [sizeLine_eq]; omega, q⟩
def rSgnNot : R2 := fun x y H Q => ∃ (c : Nat) (z : Str), x = .str ⟨#[c]⟩ ∧ y = .str z ∧ Q (.bl (!decide (c ∈ z.cps.toList))) H
theorem op_sgnNot {X : Cx} : OpR X (compareOp .NotIn) rSgnNot := op_notIn_sign
instance s_sgnNot {c : Nat} {z : Str} : Stp (rSgnNot (.str ⟨#[c]⟩) (.str z) H Q) (Q (.bl (!decide (c ∈ z.cps.toList))) H) := ⟨fun h => ⟨c, z, rfl, rfl, h⟩⟩
theorem r_ixS {i : Int} {c : Nat} (h : s.length ≤ 10000) (e : atI s.cps.toList i = some c) (q : Q (.str ⟨#[c]⟩) H) : rIxS (.str s) (.int i) H Q := ⟨s, i, c, rfl, rfl, by rw [sizeLine_eq]; omega, e, q⟩
end
/-! ### labels -/
def lettersS : Str := Str.ofString "abcdefghijklmnopqrstuvwxyz"
def digitsS : Str := Str.ofString "0123456789"
def sgnOk (c : Nat) : Bool := decide (c ∈ lettersS.cps.toList) || decide (c ∈ digitsS.cps.toList)
def labelB (s : Str) : Bool := decide (1 ≤ s.length) && decide (s.length ≤ 20) && (match s.cps.toList with | [] => false | c :: _ => decide (c ∈ lettersS.cps.toList)) && s.cps.toList.all sgnOk
def spLabel : Sp := fun vs H Q _ => ∃ s : Str, vs = [.str s] ∧ s.length ≤ 10000 ∧ Q (.bl (labelB s)) H

/-! ### models -/
structure Goal where
  mx : Bool
  ts : Tms
  c : Int
def senseS (b : Bool) : Str := if b then Str.ofString "max" else Str.ofString "min"
def Goal.d (g : Goal) : PyData := .tuple [.str (senseS g.mx), tmD g.ts, .int g.c]
structure Mdl where
  us : List (Str × Int × Int)
  bs : List (Str × Body)
  g : Goal
def unD (u : Str × Int × Int) : PyData := .tuple [.str u.1, .int u.2.1, .int u.2.2]
structure MA where
  p : Addr
  n : Addr
  l : Addr
  h : Addr
  b : Addr
def MA.all (a : MA) : List Addr := [a.p, a.n, a.l, a.h, a.b]
structure MFs (fs : List (Str × V)) (a : MA) (g : V) : Prop where
  nm : fs.lookup (Str.ofString "_names") = some (.ref a.n)
  lo : fs.lookup (Str.ofString "_lows") = some (.ref a.l)
  hi : fs.lookup (Str.ofString "_highs") = some (.ref a.h)
  bo : fs.lookup (Str.ofString "_bodies") = some (.ref a.b)
  go : fs.lookup (Str.ofString "_goal") = some g
  le : fs.length ≤ 10
  no : ∀ m : Str, ¬ m = "_names" → ¬ m = "_lows" → ¬ m = "_highs" → ¬ m = "_bodies" → ¬ m = "_goal" → fs.lookup m = none
theorem putF_len (f : Str) (v w : V) : ∀ fs : List (Str × V), fs.lookup f = some w → (putF f v fs).length = fs.length
  | [], h => by simp at h
  | (x, y) :: fs, h => by
    show (if x = f then (x, v) :: fs else (x, y) :: putF f v fs).length = _
    by_cases e : x = f
    · rw [if_pos e]
      rfl
    · rw [if_neg e, List.length_cons, List.length_cons, putF_len f v w fs (by
        rw [List.lookup_cons] at h
        have : (f == x) = false := beq_false_of_ne (fun z => e z.symm)
        rw [this] at h
        exact h)]
theorem putF_le (f : Str) (v : V) : ∀ fs : List (Str × V), (putF f v fs).length ≤ fs.length + 1
  | [] => Nat.le_refl _
  | (x, y) :: fs => by
    show (if x = f then (x, v) :: fs else (x, y) :: putF f v fs).length ≤ _
    by_cases e : x = f
    · rw [if_pos e]
      simp
    · rw [if_neg e, List.length_cons, List.length_cons]
      have := putF_le f v fs
      omega
theorem MFs.goal {fs : List (Str × V)} {a : MA} {g g' : V} (h : MFs fs a g) : MFs (putF (Str.ofString "_goal") g' fs) a g' := by
  have l : ∀ m : Str, ¬ m = Str.ofString "_goal" → (putF (Str.ofString "_goal") g' fs).lookup m = fs.lookup m := fun m hm => by rw [lookup_putF, if_neg hm]
  exact ⟨(l _ (by decide +kernel)).trans h.nm, (l _ (by decide +kernel)).trans h.lo, (l _ (by decide +kernel)).trans h.hi, (l _ (by decide +kernel)).trans h.bo, by rw [lookup_putF, if_pos rfl], by rw [putF_len _ _ _ _ h.go]; exact h.le,
    fun m h1 h2 h3 h4 h5 => (l m h5).trans (h.no m h1 h2 h3 h4 h5)⟩
def fs3 (n l h : Addr) : List (Str × V) := putF (Str.ofString "_highs") (.ref h) (putF (Str.ofString "_lows") (.ref l) (putF (Str.ofString "_names") (.ref n) []))
theorem fs3_nm (n l h : Addr) : (fs3 n l h).lookup (Str.ofString "_names") = some (.ref n) := by
  unfold fs3
  rw [lookup_putF, if_neg (by decide +kernel), lookup_putF, if_neg (by decide +kernel), lookup_putF, if_pos rfl]
theorem fs3_lo (n l h : Addr) : (fs3 n l h).lookup (Str.ofString "_lows") = some (.ref l) := by
  unfold fs3
  rw [lookup_putF, if_neg (by decide +kernel), lookup_putF, if_pos rfl]
theorem fs3_hi (n l h : Addr) : (fs3 n l h).lookup (Str.ofString "_highs") = some (.ref h) := by
  unfold fs3
  rw [lookup_putF, if_pos rfl]
theorem fs3_len (n l h : Addr) : (fs3 n l h).length ≤ 3 := by
  unfold fs3
  refine Nat.le_trans (putF_le _ _ _) (Nat.succ_le_succ (Nat.le_trans (putF_le _ _ _) (Nat.succ_le_succ (putF_le _ _ _))))
theorem MFs.new {p n l h b : Addr} {g : V} : MFs (putF (Str.ofString "_goal") g (putF (Str.ofString "_bodies") (.ref b) (fs3 n l h))) ⟨p, n, l, h, b⟩ g := by
  have k : ∀ m : Str, ¬ m = Str.ofString "_goal" → ¬ m = Str.ofString "_bodies" → (putF (Str.ofString "_goal") g (putF (Str.ofString "_bodies") (.ref b) (fs3 n l h))).lookup m = (fs3 n l h).lookup m := fun m h1 h2 => by rw [lookup_putF, if_neg h1, lookup_putF, if_neg h2]
  refine ⟨(k _ (by decide +kernel) (by decide +kernel)).trans (fs3_nm n l h), (k _ (by decide +kernel) (by decide +kernel)).trans (fs3_lo n l h), (k _ (by decide +kernel) (by decide +kernel)).trans (fs3_hi n l h), by rw [lookup_putF, if_neg (by decide +kernel), lookup_putF, if_pos rfl], by rw [lookup_putF, if_pos rfl], ?_, fun m h1 h2 h3 h4 h5 => ?_⟩
  · have a1 := putF_le (Str.ofString "_goal") g (putF (Str.ofString "_bodies") (.ref b) (fs3 n l h))
    have a2 := putF_le (Str.ofString "_bodies") (.ref b) (fs3 n l h)
    have a3 := fs3_len n l h
    omega
  · rw [k m h5 h4]
    unfold fs3
    rw [lookup_putF, if_neg h3, lookup_putF, if_neg h2, lookup_putF, if_neg h1]
    rfl
/-- a model stands at a -/
structure MdlAt (K : PySem.W.Frag) (C : Addr) (H : Hp) (a : MA) (M : Mdl) : Prop where
  ob : ∃ dx fs g, H a.p = some (.ins C dx fs) ∧ MFs fs a g ∧ Im K H g M.g.d
  nm : H a.n = some (.lst (M.us.map fun u => V.str u.1))
  lo : H a.l = some (.lst (M.us.map fun u => V.int u.2.1))
  hi : H a.h = some (.lst (M.us.map fun u => V.int u.2.2))
  bo : ∃ kvs : List (Key × V), H a.b = some (.dK kvs) ∧ kvs.map (fun z => z.1) = M.bs.map (fun b => Sum.inr b.1) ∧ ImAll K H (kvs.map (fun z => z.2)) (M.bs.map fun b => b.2.d)
  ne : a.n ≠ a.l ∧ a.n ≠ a.h ∧ a.l ≠ a.h
section
variable {K : PySem.W.Frag} {C : Addr} {H H' : Hp} {a : MA} {M : Mdl} {S : List Addr}
theorem MdlAt.kp (k : Kp S H H') (h : MdlAt K C H a M) (d : ∀ x ∈ a.all, ¬ x ∈ S) : MdlAt K C H' a M := by
  obtain ⟨dx, fs, g, h1, h2, h3⟩ := h.ob
  obtain ⟨kvs, h4, h5, h6⟩ := h.bo
  exact ⟨⟨dx, fs, g, k.get (d _ (by simp [MA.all])) h1, h2, k.im h3⟩, k.get (d _ (by simp [MA.all])) h.nm, k.get (d _ (by simp [MA.all])) h.lo, k.get (d _ (by simp [MA.all])) h.hi, ⟨kvs, k.get (d _ (by simp [MA.all])) h4, h5, k.imAll h6⟩, h.ne⟩
theorem MdlAt.kp0 (k : Kp [] H H') (h : MdlAt K C H a M) : MdlAt K C H' a M := h.kp k fun _ _ z => nomatch z
/-- none of its places is one of these -/
def offA (a : MA) (t : Addr) : Prop := ∀ x ∈ a.all, x ≠ t
theorem MdlAt.kp1 {t : Addr} (k : Kp [t] H H') (h : MdlAt K C H a M) (n : offA a t) : MdlAt K C H' a M := h.kp k fun x hx z => n x hx (by simpa using z)
end
/-- what a model takes -/
def unOk (u : Str × Int × Int) : Prop := labelB u.1 = true ∧ u.1.length ≤ 10000 ∧ -1000 ≤ u.2.1 ∧ u.2.1 ≤ u.2.2 ∧ u.2.2 ≤ 1000
def Goal.fit (m : Int) (g : Goal) : Prop := tmFit m g.ts ∧ -1000000000 ≤ g.c ∧ g.c ≤ 1000000000
def goal0 : Goal := ⟨true, [], 0⟩
def spBounds : Sp := fun vs H Q _ => ∃ lo hi : Int, vs = [.int lo, .int hi] ∧ Q (.bl (decide (-1000 ≤ lo) && (decide (lo ≤ hi) && decide (hi ≤ 1000)))) H
def spInit (K : PySem.W.Frag) (C : Addr) : Sp := fun vs H Q _ => ∃ (p l dx : Addr) (refs : List V) (us : List (Str × Int × Int)), vs = [.ref p, .ref l] ∧ H p = some (.ins C dx []) ∧ H l = some (.lst refs) ∧ ImAll K H refs (us.map unD) ∧ 1 ≤ us.length ∧ us.length ≤ 60 ∧
  (∀ u ∈ us, unOk u) ∧ (us.map (·.1)).Nodup ∧ ∀ (a : MA) (H' : Hp), a.p = p → MdlAt K C H' a ⟨us, [], goal0⟩ → (∀ x ∈ a.all, x = p ∨ H x = none) → Kp [p] H H' → Q .non H'
def spPut (K : PySem.W.Frag) (C : Addr) : Sp := fun vs H Q _ => ∃ (a : MA) (s : Str) (pb : Addr) (b : Body) (M : Mdl), vs = [.ref a.p, .str s, .ref pb] ∧ MdlAt K C H a M ∧ labelB s = true ∧ s.length ≤ 10000 ∧ ¬ s ∈ M.bs.map (·.1) ∧ BodyAt K H pb b ∧ b.fit M.us.length ∧ M.bs.length < 200 ∧
  ∀ H', MdlAt K C H' a ⟨M.us, M.bs ++ [(s, b)], M.g⟩ → Kp [a.b] H H' → Q .non H'
def spAim (K : PySem.W.Frag) (C : Addr) : Sp := fun vs H Q _ => ∃ (a : MA) (pg : Addr) (g : Goal) (M : Mdl), vs = [.ref a.p, .ref pg] ∧ MdlAt K C H a M ∧ Im K H (.ref pg) g.d ∧ g.fit M.us.length ∧ ∀ H', MdlAt K C H' a ⟨M.us, M.bs, g⟩ → Kp [a.p] H H' → Q .non H'
theorem goal_at {K : PySem.W.Frag} {H : Hp} {x : V} {g : Goal} (h : Im K H x g.d) : ∃ p q, x = .ref p ∧ SqT K H p [.str (senseS g.mx), .ref q, .int g.c] ∧ Im K H (.ref q) (tmD g.ts) := by
  obtain ⟨p, rfl⟩ := Im.isRef h
  obtain ⟨_, h1, h2⟩ := Im.open h
  obtain ⟨_, _, rfl, a1, h2⟩ := h2.c
  obtain ⟨_, _, rfl, a2, h2⟩ := h2.c
  obtain ⟨_, _, rfl, a3, h2⟩ := h2.c
  obtain rfl := h2.n
  obtain ⟨q, rfl⟩ := a2.isRef
  cases a1; cases a3
  exact ⟨p, q, rfl, h1, a2⟩
theorem un_at {K : PySem.W.Frag} {H : Hp} {x : V} {u : Str × Int × Int} (h : Im K H x (unD u)) : ∃ p, x = .ref p ∧ SqT K H p [.str u.1, .int u.2.1, .int u.2.2] := by
  obtain ⟨p, rfl⟩ := Im.isRef h
  exact ⟨p, rfl, Im.sq h rfl⟩
theorem flat_strs (us : List Str) : (us.map V.str).all flatV = true := by
  rw [List.all_map]
  exact List.all_eq_true.mpr fun x _ => rfl
theorem inV_strs (v : Str) (us : List Str) : inV (.str v) (us.map V.str) = decide (v ∈ us) := by
  unfold inV
  rw [List.any_map]
  induction us with
  | nil => rfl
  | cons u us ih =>
    have e : ((fun y => eqV y (.str v)) ∘ V.str) u = decide (v = u) := by
      show (u == v) = decide (v = u)
      rw [Bool.eq_iff_iff, beq_iff_eq, decide_eq_true_eq]
      exact eq_comm
    rw [List.any_cons, ih, e, Bool.eq_iff_iff]
    simp only [Bool.or_eq_true, decide_eq_true_eq, List.mem_cons]
def mOk (m : Str) : Bool := decide (¬ m = Str.ofString "_names") && decide (¬ m = Str.ofString "_lows") && decide (¬ m = Str.ofString "_highs") && decide (¬ m = Str.ofString "_bodies") && decide (¬ m = Str.ofString "_goal")
/-- a method of a model is called -/
theorem r_mtM {K : PySem.W.Frag} {C : Addr} {H : Hp} {a : MA} {M : Mdl} {m : Str} {R : Prop} (h : MdlAt K C H a M) (n : mOk m = true) (q : R) : mtS C m (.ref a.p) H R := by
  obtain ⟨dx, fs, g, h1, h2, _⟩ := h.ob
  unfold mOk at n
  simp only [Bool.and_eq_true, decide_eq_true_eq] at n
  exact r_mt h1 (h2.no m n.1.1.1.1 n.1.1.1.2 n.1.1.2 n.1.2 n.2) q
local macro_rules | `(tactic| walk_at "cg h") => `(tactic| (first
  | ((with_reducible show MdlAt _ _ _ _ _); exact MdlAt.kp0 (by assumption) (by walk_at "cg h"))
  | ((with_reducible show MdlAt _ _ _ _ _); exact MdlAt.kp1 (by assumption) (by walk_at "cg h") (by assumption))
  | fail))
local macro_rules | `(tactic| walk_at "cg h") => `(tactic| assumption)
local macro_rules | `(tactic| walk_at "cg s") => `(tactic| (first
  | ((with_reducible apply r_fld); (focus (walk_at "cg h")); (focus assumption); (focus assumption); (focus assumption))
  | ((with_reducible apply r_mt); (focus (walk_at "cg h")); (focus assumption))
  | ((with_reducible apply r_newD); intro _ _ _ _ _)
  | ((with_reducible apply r_setF); (focus (walk_at "cg h")); (focus assumption); (focus assumption); (focus (first | assumption | exact Nat.lt_of_sub_pos (by decide) | omega)); intro _ _ _)
  | fail))
local macro_rules | `(tactic| walk_at "cg s") => `(tactic| ((with_reducible apply r_mtM); (focus (walk_at "cg h")); (focus (decide +kernel))))

/-! ### the law's own world -/
section
variable {σ σ0 : St} {H : Hp} {K : PySem.W.Frag} {p : Addr} {xs : List V} {g : TG} {tt : TT} {te : TE} {vs : List Nat} {Q : VK} {n : Nat} {lo : Int} {α : Type} {as : List α} {d : α → PyData} {t c : Addr}
/-- .. one for each item of a list -/
theorem lcL_d {β : Type} {bs : List β} {e : β → PyData} [hw : Wip σ vs σ0] (s : H p = some (.lst xs)) (np : p ≠ t) (ib : ImAll K H xs (bs.map e)) (d : α → PyData) (Pr : β → α → Prop) (T : Tp t c H) (small : bs.length ≤ 10000)
    (hs : ∀ (i : Nat) (b : β) (x : V) (H' : Hp) (R : V → Hp → Prop) (R' : Hp → Prop), bs[i]? = some b → Im K H' x (e b) → Tp t c H' → Kp [t] H H' → (∀ y H4 a, Pr b a → Im K H4 y (d a) → Tp t c H4 → Kp [t] H' H4 → R y H4) → lcTurn g tt te vs σ σ0 x H' R R')
    (hd : ∀ D H' acc (as : List α), H D = none → H' D = some (.lst acc) → as.length = bs.length → (∀ (i : Nat) a, as[i]? = some a → ∃ b, bs[i]? = some b ∧ Pr b a) → ImAll K H' acc (as.map d) → Tp t c H' → Kp [t] H H' → Q (.ref D) H') : lcS (Itl K p) g tt te vs σ H Q := by
  have hxl := mapLenP ib
  refine r_lcL xs (fun D i H' => Kp [t] H H' ∧ H D = none ∧ Tp t c H' ∧ ∃ (acc : List V) (as : List α), H' D = some (.lst acc) ∧ as.length = i ∧ (∀ (i : Nat) a, as[i]? = some a → ∃ b, bs[i]? = some b ∧ Pr b a) ∧ ImAll K H' acc (as.map d))
    (fun D H2 hD e2 k2 => ⟨Kp.tr0 k2 (Tp.base T), hD, Tp.kp0 k2 T, [], [], e2, rfl, (fun i a h => by simp at h), .nil⟩) (fun D i H' h => h.1.get1 np s) ?_ ?_
  · rintro D i x H' hx ⟨k2, hD, T2, acc, as, eD, hl, hP, hA⟩
    obtain ⟨b, hb, hxd⟩ := mapGetP (k2.imAll ib) hx
    have hi : i < bs.length := (List.getElem?_eq_some_iff.mp hb).1
    have nt : D ≠ t := Tp.nef hD T
    have nc : D ≠ c := Tp.nefc hD T
    have hal : acc.length = i := by rw [hA.length, List.length_map, hl]
    refine hs i b x H' _ _ hb hxd T2 k2 fun y H4 a ha hy T4 k4 => ?_
    refine r_ap (k4.get1 nt eD) (small1e4 (by omega)) fun H5 e5 k5 => ⟨Kp.trN k5 (Kp.tr1 k4 k2) hD, hD, Tp.kp1 k5 T4 nt.symm nc.symm, _, as ++ [a], e5, by simp [hl], fun j b' hb' => ?_, ?_⟩
    · rcases Nat.lt_or_ge j as.length with h | h
      · rw [List.getElem?_append_left h] at hb'
        exact hP j b' hb'
      · rw [List.getElem?_append_right h] at hb'
        have e0 : j - as.length = 0 := by
          have := (List.getElem?_eq_some_iff.mp hb').1
          simp at this
          omega
        rw [e0] at hb'
        simp at hb'
        subst hb'
        rw [show j = i by omega]
        exact ⟨b, hb, ha⟩
    · rw [List.map_append]
      exact (k5.imAll (k4.imAll hA)).snoc (k5.im hy)
  · rintro D H' ⟨k2, hD, T2, acc, as, eD, hl, hP, hA⟩
    exact hd D H' acc as hD eD (by rw [hl, hxl]) hP hA T2 k2
end
def labD (b : Str × Body) : PyData := .tuple [.str b.1, b.2.d]
structure Mdl.ok (M : Mdl) : Prop where
  n0 : 1 ≤ M.us.length
  n1 : M.us.length ≤ 60
  un : ∀ u ∈ M.us, unOk u
  nd : (M.us.map (·.1)).Nodup
  lb : ∀ b ∈ M.bs, labelB b.1 = true ∧ b.1.length ≤ 10000
  ln : (M.bs.map (·.1)).Nodup
  bf : ∀ b ∈ M.bs, b.2.fit M.us.length
  nb : M.bs.length ≤ 200
  gf : M.g.fit M.us.length
def nmS : Nat → Str
  | 0 => Str.ofString "x"
  | 1 => Str.ofString "y"
  | 2 => Str.ofString "z"
  | 3 => Str.ofString "u"
  | _ => Str.ofString "w"
def labC (k : Int) : Str := Str.ofString "c" ++ ((toString k : String) : Str)
/-- the drawn ones are small -/
structure Mdl.sm (M : Mdl) (most width bodies : Int) : Prop where
  n : (M.us.length : Int) ≤ most
  u : ∀ u ∈ M.us, -2 ≤ u.2.1 ∧ u.2.1 ≤ 2 ∧ u.2.2 < u.2.1 + width
  b : (M.bs.length : Int) ≤ bodies
  g : tmLaw M.us.length M.g.ts ∧ -2 ≤ M.g.c ∧ M.g.c ≤ 2
  l : ∀ b ∈ M.bs, ∃ k : Int, 0 ≤ k ∧ k < 10 ∧ b.1 = labC k
  nm : ∀ u ∈ M.us, ∃ i : Nat, i < 5 ∧ u.1 = nmS i
structure WA where
  w : Addr
  u : Addr
  f : Addr
def WA.all (a : WA) : List Addr := [a.w, a.u, a.f]
structure WorldAt (K : PySem.W.Frag) (H : Hp) (a : WA) (M : Mdl) : Prop where
  w : ∃ pg, H a.w = some (.lst [.ref a.u, .ref a.f, .ref pg]) ∧ Im K H (.ref pg) M.g.d
  u : ∃ refs, H a.u = some (.lst refs) ∧ ImAll K H refs (M.us.map unD)
  f : ∃ refs, H a.f = some (.lst refs) ∧ ImAll K H refs (M.bs.map labD)
  d : a.w ≠ a.u ∧ a.w ≠ a.f
section
variable {K : PySem.W.Frag} {C : Addr} {H H' : Hp} {a : WA} {M : Mdl} {S : List Addr}
theorem WorldAt.kp (k : Kp S H H') (h : WorldAt K H a M) (d : ∀ x ∈ a.all, ¬ x ∈ S) : WorldAt K H' a M := by
  obtain ⟨pg, h1, h2⟩ := h.w
  obtain ⟨r1, h3, h4⟩ := h.u
  obtain ⟨r2, h5, h6⟩ := h.f
  exact ⟨⟨pg, k.get (d _ (by simp [WA.all])) h1, k.im h2⟩, ⟨r1, k.get (d _ (by simp [WA.all])) h3, k.imAll h4⟩, ⟨r2, k.get (d _ (by simp [WA.all])) h5, k.imAll h6⟩, h.d⟩
theorem WorldAt.kp0 (k : Kp [] H H') (h : WorldAt K H a M) : WorldAt K H' a M := h.kp k fun _ _ z => nomatch z
def offW (a : WA) (t : Addr) : Prop := ∀ x ∈ a.all, x ≠ t
theorem WorldAt.kp1 {t : Addr} (k : Kp [t] H H') (h : WorldAt K H a M) (n : offW a t) : WorldAt K H' a M := h.kp k fun x hx z => n x hx (by simpa using z)
end
def spWorld (K : PySem.W.Frag) : Sp := fun vs H Q _ => ∃ (t c : Addr) (most width bodies : Int), vs = [.ref t, .int most, .int width, .int bodies] ∧ Tp t c H ∧ 1 ≤ most ∧ most ≤ 5 ∧ 1 ≤ width ∧ width ≤ 900 ∧ 0 ≤ bodies ∧ bodies ≤ 9 ∧
  ∀ (a : WA) (M : Mdl) (H' : Hp), WorldAt K H' a M → M.ok → M.sm most width bodies → (∀ x ∈ a.all, H x = none) → Tp t c H' → Kp [t] H H' → Q (.ref a.w) H'
def spLawModel (K : PySem.W.Frag) (C : Addr) : Sp := fun vs H Q _ => ∃ (a : WA) (M : Mdl), vs = [.ref a.w] ∧ WorldAt K H a M ∧ M.ok ∧ ∀ (m : MA) (H' : Hp), MdlAt K C H' m M → (∀ x ∈ m.all, H x = none) → Kp [] H H' → Q (.ref m.p) H'
def ptIn (us : List (Str × Int × Int)) (pt : List Int) : Prop := pt.length = us.length ∧ ∀ (i : Nat) z, pt[i]? = some z → ∃ u, us[i]? = some u ∧ u.2.1 ≤ z ∧ z ≤ u.2.2
def spLawPoint (K : PySem.W.Frag) : Sp := fun vs H Q _ => ∃ (t c l : Addr) (refs : List V) (us : List (Str × Int × Int)), vs = [.ref t, .ref l] ∧ Tp t c H ∧ H l = some (.lst refs) ∧ l ≠ t ∧ ImAll K H refs (us.map unD) ∧ us.length ≤ 60 ∧ (∀ u ∈ us, -1000 ≤ u.2.1 ∧ u.2.1 ≤ u.2.2 ∧ u.2.2 ≤ 1000) ∧
  ∀ (p : Addr) (pt : List Int) (H' : Hp), SqT K H' p (pt.map V.int) → ptIn us pt → Tp t c H' → Kp [t] H H' → Q (.ref p) H'
def rStrI : List V → Hp → VK → Prop := fun xs H Q => ∃ i, xs = [.int i] ∧ i.natAbs.log2 < 1920 ∧ Q (.str (toString i)) H
theorem cg_strI {X : Cx} : CallR X (.type "str") rStrI := call_str_int
theorem r_strI {i : Int} {H : Hp} {Q : VK} (h0 : 0 ≤ i) (h1 : i ≤ 1000) (q : Q (.str (toString i)) H) : rStrI [.int i] H Q := ⟨i, rfl, Nat.lt_of_le_of_lt (Nat.log2_le_self _) (by omega), q⟩
def rAddS : R2 := fun x y H Q => ∃ i j, x = .str i ∧ y = .str j ∧ i.length + j.length ≤ sizeLine ∧ Q (.str (i ++ j)) H
theorem cg_addS {X : Cx} : OpR X (binaryOp .Add) rAddS := op_add_str
theorem r_addS {i j : Str} {H : Hp} {Q : VK} (h : i.length + j.length ≤ 10000) (q : Q (.str (i ++ j)) H) : rAddS (.str i) (.str j) H Q := ⟨i, j, rfl, rfl, by rw [sizeLine_eq]; omega, q⟩
theorem ten (P : Int → Prop) (h : P 0 ∧ P 1 ∧ P 2 ∧ P 3 ∧ P 4 ∧ P 5 ∧ P 6 ∧ P 7 ∧ P 8 ∧ P 9) {k : Int} (h0 : 0 ≤ k) (h1 : k < 10) : P k := by
  have e : k = 0 ∨ k = 1 ∨ k = 2 ∨ k = 3 ∨ k = 4 ∨ k = 5 ∨ k = 6 ∨ k = 7 ∨ k = 8 ∨ k = 9 := by omega
  obtain ⟨p0, p1, p2, p3, p4, p5, p6, p7, p8, p9⟩ := h
  rcases e with rfl | rfl | rfl | rfl | rfl | rfl | rfl | rfl | rfl | rfl <;> assumption
theorem labC_ok {k : Int} (h0 : 0 ≤ k) (h1 : k < 10) : labelB (labC k) = true ∧ (Str.ofString "c").length + (((toString k : String) : Str)).length ≤ 10 ∧ (labC k).length ≤ 10 :=
  ten (fun k => labelB (labC k) = true ∧ (Str.ofString "c").length + (((toString k : String) : Str)).length ≤ 10 ∧ (labC k).length ≤ 10) (by decide +kernel) h0 h1
theorem labC_inj {j k : Int} (h0 : 0 ≤ j) (h1 : j < 10) (h2 : 0 ≤ k) (h3 : k < 10) (e : labC j = labC k) : j = k := by
  have q : ((List.range 10).all fun a => (List.range 10).all fun b => decide (labC (a : Nat) = labC (b : Nat) → a = b)) = true := by decide +kernel
  have q1 := List.all_eq_true.mp q j.toNat (List.mem_range.mpr (by omega))
  have q2 := List.all_eq_true.mp q1 k.toNat (List.mem_range.mpr (by omega))
  have q3 := of_decide_eq_true q2
  rw [Int.toNat_of_nonneg h0, Int.toNat_of_nonneg h2] at q3
  have := q3 e
  omega
theorem nmS_ok : ∀ i < 5, labelB (nmS i) = true ∧ (nmS i).length ≤ 10 := by decide +kernel
theorem nmS_inj : ∀ i < 5, ∀ j < 5, nmS i = nmS j → i = j := by decide +kernel
theorem ix_nm {K : PySem.W.Frag} {p : Addr} {H : Hp} {Q : VK} {i : Nat} (h : H p = some (.lst [.str (Str.ofString "x"), .str (Str.ofString "y"), .str (Str.ofString "z"), .str (Str.ofString "u"), .str (Str.ofString "w")])) (h1 : i < 5) (q : Q (.str (nmS i)) H) : rIxL K (.ref p) (.int (0 + (i : Int))) H Q := by
  have e : i = 0 ∨ i = 1 ∨ i = 2 ∨ i = 3 ∨ i = 4 := by omega
  rcases e with rfl | rfl | rfl | rfl | rfl <;> exact r_ixL h rfl q
theorem ix_mm {K : PySem.W.Frag} {p : Addr} {H : Hp} {Q : VK} {d : Int} (h : H p = some (.lst [.str (Str.ofString "max"), .str (Str.ofString "min")])) (h0 : 0 ≤ d) (h1 : d < 2) (q : ∀ b, Q (.str (senseS b)) H) : rIxL K (.ref p) (.int d) H Q := by
  have e : d = 0 ∨ d = 1 := by omega
  rcases e with rfl | rfl
  · exact r_ixL h rfl (q true)
  · exact r_ixL h rfl (q false)
theorem nodup_map_range {α : Type} {f : Nat → α} {n : Nat} (h : ∀ i < n, ∀ j < n, f i = f j → i = j) : ((List.range n).map f).Nodup := by
  unfold List.Nodup
  rw [List.pairwise_map]
  refine List.Pairwise.imp_of_mem (fun {a b} ha hb hab e => ?_) (List.nodup_range (n := n))
  exact hab (h a (List.mem_range.mp ha) b (List.mem_range.mp hb) e)

/-! ### facts, points as functions -/
inductive Fact where
  | row (ts : Tms) (n : Int)
  | any (ls : List Lit)
  deriving DecidableEq
def Fact.d : Fact → PyData
  | .row ts n => .tuple [.str (Str.ofString "row"), tmD ts, .int n]
  | .any ls => .tuple [.str (Str.ofString "any"), litsD ls]
theorem Fact.shp (f : Fact) : Shp 3 f.d := by
  cases f with
  | row ts n => exact .tup (shp_cons (.str (by decide +kernel)) (shp_cons (tmD_shp ts) (shp_cons (.int _) shp_nil)))
  | any ls => exact .tup (shp_cons (.str (by decide +kernel)) (shp_cons (litsD_shp ls) shp_nil))
def Fact.h (f : Pt) : Fact → Bool
  | .row ts n => decide (sumF ts f ≤ n)
  | .any ls => ls.any fun l => l.h f
def Fact.vars : Fact → List Int
  | .row ts _ => ts.map (·.1)
  | .any ls => ls.map (·.v)
abbrev FactAt (K : PySem.W.Frag) (H : Hp) (p : Addr) (f : Fact) : Prop := Im K H (.ref p) f.d
section
variable {K : PySem.W.Frag} {H : Hp} {p : Addr} {ts : Tms} {n : Int} {ls : List Lit} {l : Lit} {x : V}
theorem row_open (h : FactAt K H p (.row ts n)) : ∃ q, SqT K H p [.str (Str.ofString "row"), .ref q, .int n] ∧ Im K H (.ref q) (tmD ts) := by
  obtain ⟨_, h1, h2⟩ := Im.open h
  obtain ⟨_, _, rfl, a1, h2⟩ := h2.c
  obtain ⟨_, _, rfl, a2, h2⟩ := h2.c
  obtain ⟨_, _, rfl, a3, h2⟩ := h2.c
  obtain rfl := h2.n
  obtain ⟨q, rfl⟩ := a2.isRef
  cases a1; cases a3
  exact ⟨q, h1, a2⟩
theorem any_open (h : FactAt K H p (.any ls)) : ∃ q, SqT K H p [.str (Str.ofString "any"), .ref q] ∧ Im K H (.ref q) (litsD ls) := by
  obtain ⟨_, h1, h2⟩ := Im.open h
  obtain ⟨_, _, rfl, a1, h2⟩ := h2.c
  obtain ⟨_, _, rfl, a2, h2⟩ := h2.c
  obtain rfl := h2.n
  obtain ⟨q, rfl⟩ := a2.isRef
  cases a1
  exact ⟨q, h1, a2⟩
theorem row_mk (h1 : SqT K H p [.str (Str.ofString "row"), x, .int n]) (h2 : Im K H x (tmD ts)) : FactAt K H p (.row ts n) := .tup h1 (.cons (.str _) (.cons h2 (.cons (.int _) .nil)))
theorem any_mk (h1 : SqT K H p [.str (Str.ofString "any"), x]) (h2 : Im K H x (litsD ls)) : FactAt K H p (.any ls) := .tup h1 (.cons (.str _) (.cons h2 .nil))
theorem fact_at {f : Fact} (h : Im K H x f.d) : ∃ q, x = .ref q ∧ FactAt K H q f := by
  cases f with
  | row ts n =>
    obtain ⟨q, rfl⟩ := Im.isRef h
    exact ⟨q, rfl, h⟩
  | any ls =>
    obtain ⟨q, rfl⟩ := Im.isRef h
    exact ⟨q, rfl, h⟩
end
def Fact.asLit : Fact → Option Lit
  | .row [(v, c)] n => if 0 < c then some ⟨v, .le, n / c⟩ else some ⟨v, .ge, -(n / -c)⟩
  | .any [l] => some l
  | _ => none
theorem asLit_two (l l' : Lit) (ls : List Lit) : (Fact.any (l :: l' :: ls)).asLit = none := by
  obtain ⟨v, r, a⟩ := l
  rfl
theorem asLit_row2 (z z' : Int × Int) (ts : Tms) (n : Int) : (Fact.row (z :: z' :: ts) n).asLit = none := by
  obtain ⟨v, c⟩ := z
  rfl
/-- coefficients that are not 0 and small -/
def Fact.ok (m : Int) : Fact → Prop
  | .row ts n => (∀ z ∈ ts, 0 ≤ z.1 ∧ z.1 < m ∧ z.2 ≠ 0 ∧ -1000000000000000000 ≤ z.2 ∧ z.2 ≤ 1000000000000000000) ∧ ts.length ≤ 60 ∧ n ≤ n ∧ n ≤ n
  | .any ls => (∀ l ∈ ls, 0 ≤ l.v ∧ l.v < m ∧ -1000000000000000000 ≤ l.a ∧ l.a ≤ 1000000000000000000) ∧ ls.length ≤ 60
theorem Fact.ok_vars {m : Int} {f : Fact} (h : f.ok m) : ∀ v ∈ f.vars, 0 ≤ v ∧ v < m := by
  cases f with
  | row ts n =>
    intro v hv
    obtain ⟨z, hz, rfl⟩ := List.mem_map.mp hv
    have q := h.1 z hz
    exact ⟨q.1, q.2.1⟩
  | any ls =>
    intro v hv
    obtain ⟨l, hl, rfl⟩ := List.mem_map.mp hv
    have q := h.1 l hl
    exact ⟨q.1, q.2.1⟩
theorem Fact.asLit_v {f : Fact} {m : Int} {l : Lit} (ok : f.ok m) (h : f.asLit = some l) : 0 ≤ l.v ∧ l.v < m := by
  cases f with
  | row ts n =>
    match ts, h, ok with
    | [], h, _ => cases h
    | z :: z' :: ts, h, _ => rw [asLit_row2] at h; cases h
    | [(v, c)], h, ok =>
      have q := ok.1 (v, c) List.mem_cons_self
      simp only [Fact.asLit] at h
      by_cases hc : 0 < c
      · rw [if_pos hc] at h
        cases h
        exact ⟨q.1, q.2.1⟩
      · rw [if_neg hc] at h
        cases h
        exact ⟨q.1, q.2.1⟩
  | any ls =>
    match ls, h, ok with
    | [], h, _ => cases h
    | l1 :: l2 :: ls, h, _ => rw [asLit_two] at h; cases h
    | [l1], h, ok =>
      have q := ok.1 l1 List.mem_cons_self
      cases h
      exact ⟨q.1, q.2.1⟩
inductive LitO (K : PySem.W.Frag) (H : Hp) : V → Option Lit → Prop
  | none : LitO K H .non Option.none
  | some {p : Addr} {l : Lit} (h : LitAt K H p l.v l.r l.a) : LitO K H (.ref p) (Option.some l)
def spAsLit (K : PySem.W.Frag) : Sp := fun vs H Q _ => ∃ (p : Addr) (f : Fact) (m : Int), vs = [.ref p] ∧ FactAt K H p f ∧ f.ok m ∧ ∀ (x : V) (H' : Hp), LitO K H' x f.asLit → Kp [] H H' → Q x H'
def spTrue (K : PySem.W.Frag) : Sp := fun vs H Q _ => ∃ (p q : Addr) (f : Fact) (g : Pt) (dom : Int → Prop) (m : Int), vs = [.ref p, .ref q] ∧ FactAt K H p f ∧ PtAt K H q g dom ∧ f.ok m ∧ (∀ v ∈ f.vars, dom v) ∧ ∀ H', Kp [] H H' → Q (.bl (f.h g)) H'
/-- a drawn fact -/
def Fact.le (B : Int) : Fact → Prop
  | .row ts _ => ∀ z ∈ ts, -B ≤ z.2 ∧ z.2 ≤ B
  | .any ls => ∀ l ∈ ls, -B ≤ l.a ∧ l.a ≤ B
def spLawFact (K : PySem.W.Frag) : Sp := fun vs H Q _ => ∃ (t c : Addr) (m : Int), vs = [.ref t, .int m] ∧ Tp t c H ∧ 1 ≤ m ∧ m ≤ 60 ∧ ∀ (p : Addr) (f : Fact) (H' : Hp), FactAt K H' p f → f.ok m → f.le 1001 → (f.vars.length : Int) ≤ m + 3 → Tp t c H' → Kp [t] H H' → Q (.ref p) H'
theorem wdiv {i j : Int} (h : 0 < j) (h1 : j ≤ 1000000000000000000) : CDivW i j := wide_div (b := 60) h (show j.natAbs < 1152921504606846976 by omega) (by decide) (by decide)

/-! ### the greater and the lesser of two -/
def rMax2 : List V → Hp → VK → Prop := fun xs H Q => ∃ i j, xs = [.int i, .int j] ∧ Q (.int (if j > i then j else i)) H
def rMin2 : List V → Hp → VK → Prop := fun xs H Q => ∃ i j, xs = [.int i, .int j] ∧ Q (.int (if j < i then j else i)) H
theorem cg_max2 {X : Cx} (hc : X.calm = true) : CallR X (.builtin "max") rMax2 := call_max2 hc
theorem cg_min2 {X : Cx} (hc : X.calm = true) : CallR X (.builtin "min") rMin2 := call_min2 hc
instance s_max2 {i j : Int} {H : Hp} {Q : VK} : Stp (rMax2 [.int i, .int j] H Q) (Q (.int (if j > i then j else i)) H) := ⟨fun h => ⟨i, j, rfl, h⟩⟩
instance s_min2 {i j : Int} {H : Hp} {Q : VK} : Stp (rMin2 [.int i, .int j] H Q) (Q (.int (if j < i then j else i)) H) := ⟨fun h => ⟨i, j, rfl, h⟩⟩

/-! ### boxes as pairs of two sequences; what narrows them -/
def SqA (K : PySem.W.Frag) (H : Hp) (q : Addr) (xs : List V) : Prop := H q = some (.lst xs) ∨ SqT K H q xs
/-- a box at p: the lower ends at q1, the upper ends at q2, two lists or two tuples -/
structure BoxP (K : PySem.W.Frag) (H : Hp) (p q1 q2 : Addr) (los his : List Int) : Prop where
  b : SqT K H p [.ref q1, .ref q2]
  l : SqA K H q1 (los.map V.int)
  h : SqA K H q2 (his.map V.int)
section
variable {K : PySem.W.Frag} {H H' : Hp} {S : List Addr} {p q q1 q2 t : Addr} {los his : List Int} {xs : List V} {i : Int} {v : V} {Q : VK}
theorem SqA.kp (k : Kp S H H') (h : SqA K H q xs) (n : ¬ q ∈ S) : SqA K H' q xs := h.imp (k.get n) k.tup
theorem BoxP.kp (k : Kp S H H') (h : BoxP K H p q1 q2 los his) (n1 : ¬ q1 ∈ S) (n2 : ¬ q2 ∈ S) : BoxP K H' p q1 q2 los his := ⟨k.tup h.b, h.l.kp k n1, h.h.kp k n2⟩
theorem BoxP.kp0 (k : Kp [] H H') (h : BoxP K H p q1 q2 los his) : BoxP K H' p q1 q2 los his := h.kp k (fun z => nomatch z) (fun z => nomatch z)
theorem BoxP.kp1 (k : Kp [t] H H') (h : BoxP K H p q1 q2 los his) (n1 : q1 ≠ t) (n2 : q2 ≠ t) : BoxP K H' p q1 q2 los his := h.kp k (fun z => n1 (by simpa using z)) (fun z => n2 (by simpa using z))
def rIxSq (K : PySem.W.Frag) : V → V → Hp → VK → Prop := fun o i H Q => rIxT K o i H Q ∨ rIxL K o i H Q
theorem ixSq {X : Cx} (K : PySem.W.Frag) (h : X.K = K := by rfl) : IxR X (rIxSq K) := by
  have a : IxR X (rIxT K) := ixT K h
  have b : IxR X (rIxL K) := ixL K h
  intro e1 e2 pins s σ H o i u w Q I ro ri q sl
  rcases q with q | q
  · exact a e1 e2 pins s σ H o i u w Q I ro ri q sl
  · exact b e1 e2 pins s σ H o i u w Q I ro ri q sl
theorem r_ixSq (h : SqA K H p xs) (e : atI xs i = some v) (q : Q v H) : rIxSq K (.ref p) (.int i) H Q := h.elim (fun h => .inr (r_ixL h e q)) fun h => .inl (r_ixT h e q)
theorem litI {l : Lit} (h : SqT K H p [.int l.v, .str l.r.s, .int l.a]) : Im K H (.ref p) l.d := .tup h (.cons (.int _) (.cons (.str _) (.cons (.int _) .nil)))
theorem r_ext {l : Addr} {zs : List V} (h : H l = some (.lst xs)) (hb : H q = some (.lst zs)) (few : xs.length + zs.length ≤ 100000) (k : ∀ H2, H2 l = some (.lst (xs ++ zs)) → Kp [l] H H2 → Q .non H2) : rExtend (.ref l) [.ref q] H Q :=
  ⟨l, q, xs, zs, rfl, rfl, h, hb, by rw [sizeLine_eq]; omega, k _ upd_same (Kp.put h trivial)⟩
end
/-- the box is whole: as many ends, lower ones below upper ones, not too far out -/
structure BxW (m : Nat) (los his : List Int) : Prop where
  a : los.length = m
  b : his.length = m
  bd : ∀ v : Int, 0 ≤ v → v < m → -100000 ≤ at_ los v ∧ at_ los v ≤ at_ his v ∧ at_ his v ≤ 100000
theorem imAll_ap {K : PySem.W.Frag} {H : Hp} : ∀ {xs ys : List V} {ds es : List PyData}, ImAll K H xs ds → ImAll K H ys es → ImAll K H (xs ++ ys) (ds ++ es)
  | _, _, _, _, .nil, h => h
  | _, _, _, _, .cons h a, z => .cons h (imAll_ap a z)
def possB (lo hi : Int) (l : Lit) : Bool := match l.r with
  | .le => decide (lo ≤ l.a)
  | .ge => decide (l.a ≤ hi)
  | .eq => decide (lo ≤ l.a) && decide (l.a ≤ hi)
  | .ne => decide (¬ lo = l.a) || decide (¬ hi = l.a)
def endsL (lo hi : Int) (l : Lit) : List Lit := match l.r with
  | .le => if l.a < hi then [⟨l.v, .le, l.a⟩] else []
  | .ge => if lo < l.a then [⟨l.v, .ge, l.a⟩] else []
  | .eq => (if l.a < hi then [⟨l.v, .le, l.a⟩] else []) ++ (if lo < l.a then [⟨l.v, .ge, l.a⟩] else [])
  | .ne => (if lo = l.a then [⟨l.v, .ge, l.a + 1⟩] else []) ++ (if hi = l.a then [⟨l.v, .le, l.a - 1⟩] else [])
theorem endsL_len (lo hi : Int) (l : Lit) : (endsL lo hi l).length ≤ 2 := by
  obtain ⟨v, r, a⟩ := l
  cases r <;> simp only [endsL, List.length_append] <;> (repeat' split) <;> simp
def lsB (los his : List Int) (ts : Tms) : Int := (ts.map fun z => if 0 < z.2 then z.2 * at_ los z.1 else z.2 * at_ his z.1).sum
def rowT (los his : List Int) (s : Int) (z : Int × Int) : List Lit := if 0 < z.2 then endsL (at_ los z.1) (at_ his z.1) ⟨z.1, .le, at_ los z.1 + s / z.2⟩ else endsL (at_ los z.1) (at_ his z.1) ⟨z.1, .ge, at_ his z.1 - s / -z.2⟩
def rowE (los his : List Int) (ts : Tms) (n : Int) : Option (List Lit) := if n - lsB los his ts < 0 then none else some (ts.flatMap (rowT los his (n - lsB los his ts)))
def clauseE (los his : List Int) (ls : List Lit) : Option (List Lit) := match ls.filter fun l => possB (at_ los l.v) (at_ his l.v) l with
  | [] => none
  | [l] => some (endsL (at_ los l.v) (at_ his l.v) l)
  | _ :: _ :: _ => some []
/-- the terms can be walked -/
def tmW (m : Nat) (ts : Tms) : Prop := ts.length ≤ 60 ∧ ∀ z ∈ ts, 0 ≤ z.1 ∧ z.1 < m ∧ z.2 ≠ 0 ∧ -1000000000000 ≤ z.2 ∧ z.2 ≤ 1000000000000
theorem atS {xs : List Int} {v : Int} (h0 : 0 ≤ v) (h1 : v < xs.length) : atI (xs.map V.int) v = some (.int (at_ xs v)) := atI_ints h0 h1
def spPoss (K : PySem.W.Frag) : Sp := fun vs H Q _ => ∃ (p q1 q2 q : Addr) (m : Nat) (los his : List Int) (l : Lit), vs = [.ref p, .ref q] ∧ BoxP K H p q1 q2 los his ∧ BxW m los his ∧ LitAt K H q l.v l.r l.a ∧ 0 ≤ l.v ∧ l.v < m ∧ ∀ H', Kp [] H H' → Q (.bl (possB (at_ los l.v) (at_ his l.v) l)) H'
def spSure (K : PySem.W.Frag) : Sp := fun vs H Q _ => ∃ (p q1 q2 q : Addr) (m : Nat) (los his : List Int) (l : Lit), vs = [.ref p, .ref q] ∧ BoxP K H p q1 q2 los his ∧ BxW m los his ∧ LitAt K H q l.v l.r l.a ∧ 0 ≤ l.v ∧ l.v < m ∧ ∀ H', Kp [] H H' → Q (.bl (!possB (at_ los l.v) (at_ his l.v) ⟨l.v, l.r.neg, l.r.nnum l.a⟩)) H'
def spLeastS (K : PySem.W.Frag) : Sp := fun vs H Q _ => ∃ (p q1 q2 q : Addr) (m : Nat) (los his : List Int) (ts : Tms), vs = [.ref p, .ref q] ∧ BoxP K H p q1 q2 los his ∧ BxW m los his ∧ Im K H (.ref q) (tmD ts) ∧ tmW m ts ∧ ∀ H', Kp [] H H' → Q (.int (lsB los his ts)) H'
def spEndsW (K : PySem.W.Frag) : Sp := fun vs H Q _ => ∃ (p q1 q2 q : Addr) (m : Nat) (los his : List Int) (l : Lit), vs = [.ref p, .ref q] ∧ BoxP K H p q1 q2 los his ∧ BxW m los his ∧ LitAt K H q l.v l.r l.a ∧ 0 ≤ l.v ∧ l.v < m ∧ ∀ (d : Addr) (refs : List V) H', H d = none → H' d = some (.lst refs) → ImAll K H' refs ((endsL (at_ los l.v) (at_ his l.v) l).map Lit.d) → Kp [] H H' → Q (.ref d) H'
def spKeeps (K : PySem.W.Frag) : Sp := fun vs H Q _ => ∃ (p q1 q2 q : Addr) (m : Nat) (los his : List Int) (l : Lit), vs = [.ref p, .ref q] ∧ BoxP K H p q1 q2 los his ∧ BxW m los his ∧ LitAt K H q l.v l.r l.a ∧ 0 ≤ l.v ∧ l.v < m ∧ ∀ H', Kp [] H H' → Q (.bl (decide (endsL (at_ los l.v) (at_ his l.v) l = []))) H'
def spRowE (K : PySem.W.Frag) : Sp := fun vs H Q _ => ∃ (p q1 q2 q : Addr) (m : Nat) (los his : List Int) (ts : Tms) (n : Int), vs = [.ref p, .ref q] ∧ BoxP K H p q1 q2 los his ∧ BxW m los his ∧ FactAt K H q (.row ts n) ∧ tmW m ts ∧ (∀ H', rowE los his ts n = none → Kp [] H H' → Q .non H') ∧
  ∀ (d : Addr) (refs : List V) (es : List Lit) H', rowE los his ts n = some es → H d = none → H' d = some (.lst refs) → ImAll K H' refs (es.map Lit.d) → Kp [] H H' → Q (.ref d) H'
def spClauseE (K : PySem.W.Frag) : Sp := fun vs H Q _ => ∃ (p q1 q2 q : Addr) (m : Nat) (los his : List Int) (ls : List Lit), vs = [.ref p, .ref q] ∧ BoxP K H p q1 q2 los his ∧ BxW m los his ∧ FactAt K H q (.any ls) ∧ ls.length ≤ 60 ∧ (∀ l ∈ ls, 0 ≤ l.v ∧ l.v < m) ∧ (∀ H', clauseE los his ls = none → Kp [] H H' → Q .non H') ∧
  ∀ (d : Addr) (refs : List V) (es : List Lit) H', clauseE los his ls = some es → H d = none → H' d = some (.lst refs) → ImAll K H' refs (es.map Lit.d) → Kp [] H H' → Q (.ref d) H'
def spRowC (K : PySem.W.Frag) : Sp := fun vs H Q _ => ∃ (p q1 q2 q : Addr) (m : Nat) (los his : List Int) (ts : Tms) (n : Int), vs = [.ref p, .ref q] ∧ BoxP K H p q1 q2 los his ∧ BxW m los his ∧ FactAt K H q (.row ts n) ∧ tmW m ts ∧ ∀ H', Kp [] H H' → Q (.bl (decide (rowE los his ts n = some []))) H'
def spClauseC (K : PySem.W.Frag) : Sp := fun vs H Q _ => ∃ (p q1 q2 q : Addr) (m : Nat) (los his : List Int) (ls : List Lit), vs = [.ref p, .ref q] ∧ BoxP K H p q1 q2 los his ∧ BxW m los his ∧ FactAt K H q (.any ls) ∧ ls.length ≤ 60 ∧ (∀ l ∈ ls, 0 ≤ l.v ∧ l.v < m) ∧ ∀ H', Kp [] H H' → Q (.bl (decide (clauseE los his ls = some []))) H'

def top (i : Nat) : Stmt := PySem.Challenge.pw_commonground_k66_consistent_with_facts.main.body.getD i (.Pass ⟨0, 0, 0, 0⟩)
abbrev s_negated : Stmt := top 1
theorem sc_negated : FnScope ["literal", "v", "relation", "a"] ["literal"] (defScope s_negated) := ⟨rfl, rfl, rfl, by decide +kernel, rfl, by decide +kernel, by decide +kernel⟩
theorem st_negated (v0 : V) : L2.start ["literal", "v", "relation", "a"] [v0] = [some v0, none, none, none] := rfl
abbrev s_is_possible : Stmt := top 3
theorem sc_is_possible : FnScope ["box", "literal", "v", "relation", "a", "low", "high"] ["box", "literal"] (defScope s_is_possible) := ⟨rfl, rfl, rfl, by decide +kernel, rfl, by decide +kernel, by decide +kernel⟩
theorem st_is_possible (v0 v1 : V) : L2.start ["box", "literal", "v", "relation", "a", "low", "high"] [v0, v1] = [some v0, some v1, none, none, none, none, none] := rfl
abbrev s_is_sure : Stmt := top 4
theorem sc_is_sure : FnScope ["box", "literal"] ["box", "literal"] (defScope s_is_sure) := ⟨rfl, rfl, rfl, by decide +kernel, rfl, by decide +kernel, by decide +kernel⟩
theorem st_is_sure (v0 v1 : V) : L2.start ["box", "literal"] [v0, v1] = [some v0, some v1] := rfl
abbrev s_least_sum : Stmt := top 5
theorem sc_least_sum : FnScope ["box", "terms", "total", "v", "c"] ["box", "terms"] (defScope s_least_sum) := ⟨rfl, rfl, rfl, by decide +kernel, rfl, by decide +kernel, by decide +kernel⟩
theorem st_least_sum (v0 v1 : V) : L2.start ["box", "terms", "total", "v", "c"] [v0, v1] = [some v0, some v1, none, none, none] := rfl
abbrev s_ends_wanted : Stmt := top 6
theorem sc_ends_wanted : FnScope ["box", "literal", "v", "relation", "a", "low", "high", "wanted"] ["box", "literal"] (defScope s_ends_wanted) := ⟨rfl, rfl, rfl, by decide +kernel, rfl, by decide +kernel, by decide +kernel⟩
theorem st_ends_wanted (v0 v1 : V) : L2.start ["box", "literal", "v", "relation", "a", "low", "high", "wanted"] [v0, v1] = [some v0, some v1, none, none, none, none, none, none] := rfl
abbrev s_keeps : Stmt := top 7
theorem sc_keeps : FnScope ["box", "literal"] ["box", "literal"] (defScope s_keeps) := ⟨rfl, rfl, rfl, by decide +kernel, rfl, by decide +kernel, by decide +kernel⟩
theorem st_keeps (v0 v1 : V) : L2.start ["box", "literal"] [v0, v1] = [some v0, some v1] := rfl
abbrev s_row_ends : Stmt := top 8
theorem sc_row_ends : FnScope ["box", "row", "slack", "wanted", "v", "c"] ["box", "row"] (defScope s_row_ends) := ⟨rfl, rfl, rfl, by decide +kernel, rfl, by decide +kernel, by decide +kernel⟩
theorem st_row_ends (v0 v1 : V) : L2.start ["box", "row", "slack", "wanted", "v", "c"] [v0, v1] = [some v0, some v1, none, none, none, none] := rfl
abbrev s_clause_ends : Stmt := top 9
theorem sc_clause_ends : FnScope ["box", "clause", "live", "literal"] ["box", "clause"] (defScope s_clause_ends) := ⟨rfl, rfl, rfl, by decide +kernel, rfl, by decide +kernel, by decide +kernel⟩
theorem st_clause_ends (v0 v1 : V) : L2.start ["box", "clause", "live", "literal"] [v0, v1] = [some v0, some v1, none, none] := rfl
abbrev s_row_consistent : Stmt := top 10
theorem sc_row_consistent : FnScope ["box", "row", "ends"] ["box", "row"] (defScope s_row_consistent) := ⟨rfl, rfl, rfl, by decide +kernel, rfl, by decide +kernel, by decide +kernel⟩
theorem st_row_consistent (v0 v1 : V) : L2.start ["box", "row", "ends"] [v0, v1] = [some v0, some v1, none] := rfl
abbrev s_clause_consistent : Stmt := top 11
theorem sc_clause_consistent : FnScope ["box", "clause", "ends"] ["box", "clause"] (defScope s_clause_consistent) := ⟨rfl, rfl, rfl, by decide +kernel, rfl, by decide +kernel, by decide +kernel⟩
theorem st_clause_consistent (v0 v1 : V) : L2.start ["box", "clause", "ends"] [v0, v1] = [some v0, some v1, none] := rfl
abbrev s_law_draw : Stmt := top 13
theorem sc_law_draw : FnScope ["_law_tape_here", "_law_many", "_law_cells", "_law_k", "_law_cell", "_law_digit"] ["_law_tape_here", "_law_many"] (defScope s_law_draw) := ⟨rfl, rfl, rfl, by decide +kernel, rfl, by decide +kernel, by decide +kernel⟩
theorem st_law_draw (v0 v1 : V) : L2.start ["_law_tape_here", "_law_many", "_law_cells", "_law_k", "_law_cell", "_law_digit"] [v0, v1] = [some v0, some v1, none, none, none, none] := rfl
abbrev s_law_tape : Stmt := top 14
theorem sc_law_tape : FnScope ["_law_script"] ["_law_script"] (defScope s_law_tape) := ⟨rfl, rfl, rfl, by decide +kernel, rfl, by decide +kernel, by decide +kernel⟩
theorem st_law_tape (v0 : V) : L2.start ["_law_script"] [v0] = [some v0] := rfl
abbrev s_law_terms : Stmt := top 15
theorem sc_law_terms : FnScope ["_law_tape_here", "_law_many", "_law_terms_here", "_law_v", "_law_c"] ["_law_tape_here", "_law_many"] (defScope s_law_terms) := ⟨rfl, rfl, rfl, by decide +kernel, rfl, by decide +kernel, by decide +kernel⟩
theorem st_law_terms (v0 v1 : V) : L2.start ["_law_tape_here", "_law_many", "_law_terms_here", "_law_v", "_law_c"] [v0, v1] = [some v0, some v1, none, none, none] := rfl
abbrev s_law_literal : Stmt := top 16
theorem sc_law_literal : FnScope ["_law_tape_here", "_law_many", "_law_relation"] ["_law_tape_here", "_law_many"] (defScope s_law_literal) := ⟨rfl, rfl, rfl, by decide +kernel, rfl, by decide +kernel, by decide +kernel⟩
theorem st_law_literal (v0 v1 : V) : L2.start ["_law_tape_here", "_law_many", "_law_relation"] [v0, v1] = [some v0, some v1, none] := rfl
abbrev s_law_some : Stmt := top 17
theorem sc_law_some : FnScope ["_law_tape_here", "_law_many", "_law_least_here", "_law_rest", "_law_found", "_law_k"] ["_law_tape_here", "_law_many", "_law_least_here"] (defScope s_law_some) := ⟨rfl, rfl, rfl, by decide +kernel, rfl, by decide +kernel, by decide +kernel⟩
theorem st_law_some (v0 v1 v2 : V) : L2.start ["_law_tape_here", "_law_many", "_law_least_here", "_law_rest", "_law_found", "_law_k"] [v0, v1, v2] = [some v0, some v1, some v2, none, none, none] := rfl
abbrev s_law_body : Stmt := top 18
theorem sc_law_body : FnScope ["_law_tape_here", "_law_many", "_law_kind", "_law_relation", "_law_literals", "_law_k", "_law_literal_here", "_law_numbers", "_law_rows", "_law_entries", "_law_v"] ["_law_tape_here", "_law_many"] (defScope s_law_body) := ⟨rfl, rfl, rfl, by decide +kernel, rfl, by decide +kernel, by decide +kernel⟩
theorem st_law_body (v0 v1 : V) : L2.start ["_law_tape_here", "_law_many", "_law_kind", "_law_relation", "_law_literals", "_law_k", "_law_literal_here", "_law_numbers", "_law_rows", "_law_entries", "_law_v"] [v0, v1] = [some v0, some v1, none, none, none, none, none, none, none, none, none] := rfl
abbrev s_law_world : Stmt := top 19
theorem sc_law_world : FnScope ["_law_tape_here", "_law_most", "_law_width", "_law_bodies", "_law_unknowns", "_law_v", "_law_low", "_law_many", "_law_found", "_law_goal", "_law_k"] ["_law_tape_here", "_law_most", "_law_width", "_law_bodies"] (defScope s_law_world) := ⟨rfl, rfl, rfl, by decide +kernel, rfl, by decide +kernel, by decide +kernel⟩
theorem st_law_world (v0 v1 v2 v3 : V) : L2.start ["_law_tape_here", "_law_most", "_law_width", "_law_bodies", "_law_unknowns", "_law_v", "_law_low", "_law_many", "_law_found", "_law_goal", "_law_k"] [v0, v1, v2, v3] = [some v0, some v1, some v2, some v3, none, none, none, none, none, none, none] := rfl
abbrev s_law_rel : Stmt := top 20
theorem sc_law_rel : FnScope ["_law_relation", "_law_left", "_law_right"] ["_law_relation", "_law_left", "_law_right"] (defScope s_law_rel) := ⟨rfl, rfl, rfl, by decide +kernel, rfl, by decide +kernel, by decide +kernel⟩
theorem st_law_rel (v0 v1 v2 : V) : L2.start ["_law_relation", "_law_left", "_law_right"] [v0, v1, v2] = [some v0, some v1, some v2] := rfl
abbrev s_law_same : Stmt := top 21
theorem sc_law_same : FnScope ["_law_answer", "_law_due"] ["_law_answer", "_law_due"] (defScope s_law_same) := ⟨rfl, rfl, rfl, by decide +kernel, rfl, by decide +kernel, by decide +kernel⟩
theorem st_law_same (v0 v1 : V) : L2.start ["_law_answer", "_law_due"] [v0, v1] = [some v0, some v1] := rfl
abbrev s_law_number : Stmt := top 22
theorem sc_law_number : FnScope ["_law_answer", "_law_due"] ["_law_answer", "_law_due"] (defScope s_law_number) := ⟨rfl, rfl, rfl, by decide +kernel, rfl, by decide +kernel, by decide +kernel⟩
theorem st_law_number (v0 v1 : V) : L2.start ["_law_answer", "_law_due"] [v0, v1] = [some v0, some v1] := rfl
abbrev s_law_box : Stmt := top 23
theorem sc_law_box : FnScope ["_law_tape_here", "_law_unknowns", "_law_lows", "_law_highs", "_law_name", "_law_low", "_law_high", "_law_a", "_law_b"] ["_law_tape_here", "_law_unknowns"] (defScope s_law_box) := ⟨rfl, rfl, rfl, by decide +kernel, rfl, by decide +kernel, by decide +kernel⟩
theorem st_law_box (v0 v1 : V) : L2.start ["_law_tape_here", "_law_unknowns", "_law_lows", "_law_highs", "_law_name", "_law_low", "_law_high", "_law_a", "_law_b"] [v0, v1] = [some v0, some v1, none, none, none, none, none, none, none] := rfl
abbrev s_law_values : Stmt := top 24
theorem sc_law_values : FnScope ["_law_box_here", "_law_v"] ["_law_box_here", "_law_v"] (defScope s_law_values) := ⟨rfl, rfl, rfl, by decide +kernel, rfl, by decide +kernel, by decide +kernel⟩
theorem st_law_values (v0 v1 : V) : L2.start ["_law_box_here", "_law_v"] [v0, v1] = [some v0, some v1] := rfl
abbrev s_law_least : Stmt := top 25
theorem sc_law_least : FnScope ["_law_box_here", "_law_terms_here", "_law_total", "_law_v", "_law_c", "_law_a"] ["_law_box_here", "_law_terms_here"] (defScope s_law_least) := ⟨rfl, rfl, rfl, by decide +kernel, rfl, by decide +kernel, by decide +kernel⟩
theorem st_law_least (v0 v1 : V) : L2.start ["_law_box_here", "_law_terms_here", "_law_total", "_law_v", "_law_c", "_law_a"] [v0, v1] = [some v0, some v1, none, none, none, none] := rfl
abbrev s_law_bad_row : Stmt := top 26
theorem sc_law_bad_row : FnScope ["_law_box_here", "_law_row", "_law_least_here", "_law_found", "_law_v", "_law_c", "_law_products", "_law_a"] ["_law_box_here", "_law_row"] (defScope s_law_bad_row) := ⟨rfl, rfl, rfl, by decide +kernel, rfl, by decide +kernel, by decide +kernel⟩
theorem st_law_bad_row (v0 v1 : V) : L2.start ["_law_box_here", "_law_row", "_law_least_here", "_law_found", "_law_v", "_law_c", "_law_products", "_law_a"] [v0, v1] = [some v0, some v1, none, none, none, none, none, none] := rfl
abbrev s_law_bad_keep : Stmt := top 27
theorem sc_law_bad_keep : FnScope ["_law_box_here", "_law_literal_here", "_law_v", "_law_relation", "_law_a", "_law_found", "_law_side"] ["_law_box_here", "_law_literal_here"] (defScope s_law_bad_keep) := ⟨rfl, rfl, rfl, by decide +kernel, rfl, by decide +kernel, by decide +kernel⟩
theorem st_law_bad_keep (v0 v1 : V) : L2.start ["_law_box_here", "_law_literal_here", "_law_v", "_law_relation", "_law_a", "_law_found", "_law_side"] [v0, v1] = [some v0, some v1, none, none, none, none, none] := rfl
abbrev s_law_bad_clause : Stmt := top 28
theorem sc_law_bad_clause : FnScope ["_law_box_here", "_law_clause", "_law_live", "_law_literal_here", "_law_a"] ["_law_box_here", "_law_clause"] (defScope s_law_bad_clause) := ⟨rfl, rfl, rfl, by decide +kernel, rfl, by decide +kernel, by decide +kernel⟩
theorem st_law_bad_clause (v0 v1 : V) : L2.start ["_law_box_here", "_law_clause", "_law_live", "_law_literal_here", "_law_a"] [v0, v1] = [some v0, some v1, none, none, none] := rfl
abbrev s_law : Stmt := top 29
theorem sc_law : FnScope ["_law_script", "_law_tape_here", "_law_unknowns", "_law_many", "_law_box_here", "_law_told", "_law_kept", "_law_literal_here", "_law_a", "_law_holds", "_law_terms_here", "_law_least_here", "_law_row", "_law_literals", "_law_k", "_law_v", "_law_relation", "_law_clause", "_law_value"] ["_law_script"] (defScope s_law) := ⟨rfl, rfl, rfl, by decide +kernel, rfl, by decide +kernel, by decide +kernel⟩
theorem st_law (v0 : V) : L2.start ["_law_script", "_law_tape_here", "_law_unknowns", "_law_many", "_law_box_here", "_law_told", "_law_kept", "_law_literal_here", "_law_a", "_law_holds", "_law_terms_here", "_law_least_here", "_law_row", "_law_literals", "_law_k", "_law_v", "_law_relation", "_law_clause", "_law_value"] [v0] = [some v0, none, none, none, none, none, none, none, none, none, none, none, none, none, none, none, none, none, none] := rfl
structure Bi (K : PySem.W.Frag) (mg : Str → Option Value) : Prop where
  n_len : mg "len" = none
  n_int : mg "int" = none
  n_list : mg "list" = none
  n_tuple : mg "tuple" = none
  n_range : mg "range" = none
  n_isinstance : mg "isinstance" = none
  n_bool : mg "bool" = none
  n_str : mg "str" = none
  n_min : mg "min" = none
  n_max : mg "max" = none
  n_repr : mg "repr" = none
section
variable {P : Program} {w : World} {K : PySem.W.Frag} {mg : Str → Option Value} {base : Heap}
theorem ok_negated {f : Addr} {fd : FuncData} (F : Fun K "negated" "negated" s_negated f fd) (B : Bi K mg)  : FnOk P w K mg base CX0 1 f fd ["literal"] (spNeg K) := by
  have nd := sc_negated.nd
  refine F.ok sc_negated ?len (fun cdv A outer s H vs Q E hr h => ?body)
  case len =>
    rintro vs H Q E ⟨p, v, r, a, rfl, _⟩
    rfl
  case body =>
    obtain ⟨p, v, r, a, rfl, hL, q⟩ := h
    refine ⟨_, (pss_cons (ps_asg (pv 0) (pg_tup (n := 3) rfl (pgs_cons (pg_name (i := 1) nd rfl (Or.inl rfl)) (pgs_cons (pg_name (i := 2) nd rfl (Or.inl rfl)) (pgs_cons (pg_name (i := 3) nd rfl (Or.inl rfl)) pgs_nil)))))
      (pss_cons (ps_if (pt_cmpR op_eq (pv 2) pe_str (nomark _))
      (pss_one (ps_ret (pe_tup (pa_cons (pv 1) (pa_cons pe_str (pa_cons (pe_op op_add (pv 3) pe_int) pa_nil))))))
      pss_nil)
      (pss_cons (ps_if (pt_cmpR op_eq (pv 2) pe_str (nomark _))
      (pss_one (ps_ret (pe_tup (pa_cons (pv 1) (pa_cons pe_str (pa_cons (pe_op op_sub (pv 3) pe_int) pa_nil))))))
      pss_nil)
      (pss_cons (ps_if (pt_cmpR op_eq (pv 2) pe_str (nomark _))
      (pss_one (ps_ret (pe_tup (pa_cons (pv 1) (pa_cons pe_str (pa_cons (pv 3) pa_nil))))))
      pss_nil)
      (pss_one (ps_ret (pe_tup (pa_cons (pv 1) (pa_cons pe_str (pa_cons (pv 3) pa_nil)))))))))), ?_⟩
    try dsimp only [L2.cxOf, L2.Cx.nox, L2.Cx.wish]
    rw [st_negated]
    cases r
    all_goals
      walk_at "cg"
      exact q _ _ (by assumption) (by walk_at "cg kp")

theorem ok_is_possible {f : Addr} {fd : FuncData} (F : Fun K "is_possible" "is_possible" s_is_possible f fd) (B : Bi K mg)  : FnOk P w K mg base CX0 1 f fd ["box", "literal"] (spPoss K) := by
  have nd := sc_is_possible.nd
  refine F.ok sc_is_possible ?len (fun cdv A outer s H vs Q E hr h => ?body)
  case len =>
    rintro vs H Q E ⟨p, q1, q2, q, m, los, his, l, rfl, _⟩
    rfl
  case body =>
    obtain ⟨p, q1, q2, q, m, los, his, l, rfl, Bx, W, L, v0, v1, k⟩ := h
    refine ⟨_, (pss_cons (ps_asg (pv 1) (pg_tup (n := 3) rfl (pgs_cons (pg_name (i := 2) nd rfl (Or.inl rfl)) (pgs_cons (pg_name (i := 3) nd rfl (Or.inl rfl)) (pgs_cons (pg_name (i := 4) nd rfl (Or.inl rfl)) pgs_nil)))))
      (pss_cons (ps_set (i := 5) nd rfl (Or.inl rfl) (pe_ix (ixSq K) (pe_ix (ixT K) (pv 0) pe_int (fun _ _ => rfl)) (pv 2) (fun _ _ => rfl)))
      (pss_cons (ps_set (i := 6) nd rfl (Or.inl rfl) (pe_ix (ixSq K) (pe_ix (ixT K) (pv 0) pe_int (fun _ _ => rfl)) (pv 2) (fun _ _ => rfl)))
      (pss_cons (ps_if (pt_cmpR op_eq (pv 3) pe_str (nomark _))
      (pss_one (ps_ret (pe_cmpR op_le (pv 5) (pv 4) (nomark _))))
      pss_nil)
      (pss_cons (ps_if (pt_cmpR op_eq (pv 3) pe_str (nomark _))
      (pss_one (ps_ret (pe_cmpR op_ge (pv 6) (pv 4) (nomark _))))
      pss_nil)
      (pss_cons (ps_if (pt_cmpR op_eq (pv 3) pe_str (nomark _))
      (pss_one (ps_ret (pe_chain op_le op_le (pv 5) (pv 4) (pv 6))))
      pss_nil)
      (pss_one (ps_ret (pe_or (pe_cmpR op_ne (pv 5) (pv 4) (nomark _)) (pe_one (pe_cmpR op_ne (pv 6) (pv 4) (nomark _)))))))))))), ?_⟩
    try dsimp only [L2.cxOf, L2.Cx.nox, L2.Cx.wish]
    rw [st_is_possible]
    obtain ⟨v, r, a⟩ := l
    dsimp only at L v0 v1 k
    have sb := Bx.b
    have e1 := atS v0 (by rw [W.a]; exact v1)
    have e2 := atS v0 (by rw [W.b]; exact v1)
    walk_at "cg"
    refine r_ixSq Bx.l e1 ?_
    walk_at "cg"
    refine r_ixSq Bx.h e2 ?_
    cases r with
    | le =>
      walk_at "cg"
      exact k _ .refl
    | ge =>
      walk_at "cg"
      exact k _ .refl
    | eq =>
      walk_at "cg"
      refine if_S (fun g => ?_) (fun g => ?_)
      · walk_at "cg"
        have := k _ .refl
        simp only [possB, decide_eq_true g, Bool.true_and] at this
        exact this
      · walk_at "cg"
        have := k _ .refl
        simp only [possB, decide_eq_false g, Bool.false_and] at this
        exact this
    | ne =>
      walk_at "cg"
      refine if_S (fun g => ?_) (fun g => ?_)
      · walk_at "cg"
        have := k _ .refl
        simp only [possB, decide_eq_true g, Bool.true_or] at this
        exact this
      · walk_at "cg"
        have := k _ .refl
        simp only [possB, decide_eq_false g, Bool.false_or] at this
        exact this
theorem ok_is_sure {f : Addr} {fd : FuncData} (F : Fun K "is_sure" "is_sure" s_is_sure f fd) (B : Bi K mg) (D_is_possible : Is P w K mg base CX0 1 "is_possible" ["box", "literal"] (spPoss K)) (D_negated : Is P w K mg base CX0 1 "negated" ["literal"] (spNeg K)) : FnOk P w K mg base CX0 2 f fd ["box", "literal"] (spSure K) := by
  have nd := sc_is_sure.nd
  refine F.ok sc_is_sure ?len (fun cdv A outer s H vs Q E hr h => ?body)
  case len =>
    rintro vs H Q E ⟨p, q1, q2, q, m, los, his, l, rfl, _⟩
    rfl
  case body =>
    obtain ⟨p, q1, q2, q, m, los, his, l, rfl, Bx, W, L, v0, v1, k⟩ := h
    refine ⟨_, (pss_one (ps_ret (pe_not (pe_is D_is_possible (hr.mono (by decide)) rfl pass0 (pa_cons (pv 0) (pa_cons (pe_is D_negated (hr.mono (by decide)) rfl pass0 (pa_cons (pv 1) pa_nil)) pa_nil)))))), ?_⟩
    try dsimp only [L2.cxOf, L2.Cx.nox, L2.Cx.wish]
    rw [st_is_sure]
    walk_at "cg"
    refine ⟨q, l.v, l.r, l.a, rfl, L, fun p' H1 L1 k1 => ?_⟩
    walk_at "cg"
    refine ⟨p, q1, q2, p', m, los, his, ⟨l.v, l.r.neg, l.r.nnum l.a⟩, rfl, Bx.kp0 k1, W, L1, v0, v1, fun H2 k2 => ?_⟩
    walk_at "cg"
    exact k _ (Kp.tr0 k2 k1)
theorem ok_least_sum {f : Addr} {fd : FuncData} (F : Fun K "least_sum" "least_sum" s_least_sum f fd) (B : Bi K mg)  : FnOk P w K mg base CX0 1 f fd ["box", "terms"] (spLeastS K) := by
  have nd := sc_least_sum.nd
  refine F.ok sc_least_sum ?len (fun cdv A outer s H vs Q E hr h => ?body)
  case len =>
    rintro vs H Q E ⟨p, q1, q2, q, m, los, his, ts, rfl, _⟩
    rfl
  case body =>
    obtain ⟨p, q1, q2, q, m, los, his, ts, rfl, Bx, W, I, tw, k⟩ := h
    refine ⟨_, (pss_cons (ps_set (i := 2) nd rfl (Or.inl rfl) pe_int)
      (pss_cons (ps_for PassesOwn.never rfl (pi_tup (pv 1)) (pg_tup (n := 2) rfl (pgs_cons (pg_name (i := 3) nd rfl (Or.inl rfl)) (pgs_cons (pg_name (i := 4) nd rfl (Or.inl rfl)) pgs_nil)))
      (pss_one (ps_if (pt_cmpR op_gt (pv 4) pe_int (nomark _))
      (pss_one (ps_aug (i := 2) nd rfl (Or.inl rfl) (pe_op op_mul (pv 4) (pe_ix (ixSq K) (pe_ix (ixT K) (pv 0) pe_int (fun _ _ => rfl)) (pv 3) (fun _ _ => rfl))) ip_add))
      (pss_one (ps_aug (i := 2) nd rfl (Or.inl rfl) (pe_op op_mul (pv 4) (pe_ix (ixSq K) (pe_ix (ixT K) (pv 0) pe_int (fun _ _ => rfl)) (pv 3) (fun _ _ => rfl))) ip_add)))))
      (pss_one (ps_ret (pv 2))))), ?_⟩
    try dsimp only [L2.cxOf, L2.Cx.nox, L2.Cx.wish]
    rw [st_least_sum]
    obtain ⟨xs, s1, i1⟩ := Im.open I
    have sb := Bx.b
    walk_at "cg"
    refine r_forTI [] s1 i1 (fun i σ' H' => ∃ x3 x4 : Option V, σ' = [some (.ref p), some (.ref q), some (.int (lsB los his (ts.take i))), x3, x4] ∧ H = H') ⟨_, _, rfl, rfl⟩ (fun i σ' H' ⟨_, _, _, e⟩ => by rw [e]; exact .refl) ?_ ?_
    · rintro i z x σ' H' hz hx _ ⟨x3, x4, rfl, rfl⟩
      obtain ⟨px, rfl, sx⟩ := term_at hx
      have oz := tw.2 z (List.mem_of_getElem? hz)
      have e1 := atS oz.1 (by rw [W.a]; exact oz.2.1)
      have e2 := atS oz.1 (by rw [W.b]; exact oz.2.1)
      have bd := W.bd z.1 oz.1 oz.2.1
      have es : lsB los his (ts.take (i + 1)) = lsB los his (ts.take i) + (if 0 < z.2 then z.2 * at_ los z.1 else z.2 * at_ his z.1) := by
        unfold lsB
        rw [List.take_add_one, hz, List.map_append, List.sum_append]
        simp
      walk_at "cg"
      refine if_S (fun g => ?_) (fun g => ?_)
      · rw [es, if_pos (show 0 < z.2 from g)]
        walk_at "cg"
        refine r_ixSq Bx.l e1 ?_
        walk_at "cg"
        exact ⟨_, _, rfl, rfl⟩
      · rw [es, if_neg (show ¬ 0 < z.2 from g)]
        walk_at "cg"
        refine r_ixSq Bx.h e2 ?_
        walk_at "cg"
        exact ⟨_, _, rfl, rfl⟩
    · rintro σ' H' _ ⟨x3, x4, rfl, rfl⟩
      rw [List.take_length]
      walk_at "cg"
      exact k _ .refl
theorem ok_ends_wanted {f : Addr} {fd : FuncData} (F : Fun K "ends_wanted" "ends_wanted" s_ends_wanted f fd) (B : Bi K mg)  : FnOk P w K mg base CX0 1 f fd ["box", "literal"] (spEndsW K) := by
  have nd := sc_ends_wanted.nd
  refine F.ok sc_ends_wanted ?len (fun cdv A outer s H vs Q E hr h => ?body)
  case len =>
    rintro vs H Q E ⟨p, q1, q2, q, m, los, his, l, rfl, _⟩
    rfl
  case body =>
    obtain ⟨p, q1, q2, q, m, los, his, l, rfl, Bx, W, L, v0, v1, k⟩ := h
    refine ⟨_, (pss_cons (ps_asg (pv 1) (pg_tup (n := 3) rfl (pgs_cons (pg_name (i := 2) nd rfl (Or.inl rfl)) (pgs_cons (pg_name (i := 3) nd rfl (Or.inl rfl)) (pgs_cons (pg_name (i := 4) nd rfl (Or.inl rfl)) pgs_nil)))))
      (pss_cons (ps_set (i := 5) nd rfl (Or.inl rfl) (pe_ix (ixSq K) (pe_ix (ixT K) (pv 0) pe_int (fun _ _ => rfl)) (pv 2) (fun _ _ => rfl)))
      (pss_cons (ps_set (i := 6) nd rfl (Or.inl rfl) (pe_ix (ixSq K) (pe_ix (ixT K) (pv 0) pe_int (fun _ _ => rfl)) (pv 2) (fun _ _ => rfl)))
      (pss_cons (ps_set (i := 7) nd rfl (Or.inl rfl) (pe_lst pa_nil))
      (pss_cons (ps_if (PW.pt (pw_and (pt_cmpR (inS K) (pv 3) (pe_tup (pa_cons pe_str (pa_cons pe_str pa_nil))) rfl) (pw_and1 (pt_cmpR op_gt (pv 6) (pv 4) (nomark _)))))
      (pss_one (ps_expr (pe_bm PySem.F.plainAttrs_list PySem.F.slot_list_append PySem.F.type_list_append mt_append (pv 7) (pa_cons (pe_tup (pa_cons (pv 2) (pa_cons pe_str (pa_cons (pv 4) pa_nil)))) pa_nil))))
      pss_nil)
      (pss_cons (ps_if (PW.pt (pw_and (pt_cmpR (inS K) (pv 3) (pe_tup (pa_cons pe_str (pa_cons pe_str pa_nil))) rfl) (pw_and1 (pt_cmpR op_lt (pv 5) (pv 4) (nomark _)))))
      (pss_one (ps_expr (pe_bm PySem.F.plainAttrs_list PySem.F.slot_list_append PySem.F.type_list_append mt_append (pv 7) (pa_cons (pe_tup (pa_cons (pv 2) (pa_cons pe_str (pa_cons (pv 4) pa_nil)))) pa_nil))))
      pss_nil)
      (pss_cons (ps_if (PW.pt (pw_and (pt_cmpR op_eq (pv 3) pe_str (nomark _)) (pw_and1 (pt_cmpR op_eq (pv 5) (pv 4) (nomark _)))))
      (pss_one (ps_expr (pe_bm PySem.F.plainAttrs_list PySem.F.slot_list_append PySem.F.type_list_append mt_append (pv 7) (pa_cons (pe_tup (pa_cons (pv 2) (pa_cons pe_str (pa_cons (pe_op op_add (pv 4) pe_int) pa_nil)))) pa_nil))))
      pss_nil)
      (pss_cons (ps_if (PW.pt (pw_and (pt_cmpR op_eq (pv 3) pe_str (nomark _)) (pw_and1 (pt_cmpR op_eq (pv 6) (pv 4) (nomark _)))))
      (pss_one (ps_expr (pe_bm PySem.F.plainAttrs_list PySem.F.slot_list_append PySem.F.type_list_append mt_append (pv 7) (pa_cons (pe_tup (pa_cons (pv 2) (pa_cons pe_str (pa_cons (pe_op op_sub (pv 4) pe_int) pa_nil)))) pa_nil))))
      pss_nil)
      (pss_one (ps_ret (pv 7))))))))))), ?_⟩
    try dsimp only [L2.cxOf, L2.Cx.nox, L2.Cx.wish]
    rw [st_ends_wanted]
    obtain ⟨v, r, a⟩ := l
    dsimp only at L v0 v1 k
    have sb := Bx.b
    have e1 := atS v0 (by rw [W.a]; exact v1)
    have e2 := atS v0 (by rw [W.b]; exact v1)
    walk_at "cg"
    refine r_ixSq Bx.l e1 ?_
    walk_at "cg"
    refine r_ixSq Bx.h e2 ?_
    generalize at_ los v = lo at k
    generalize at_ his v = hi at k
    clear e1 e2 Bx sb W
    cases r with
    | le =>
      walk_at "cg"
      refine if_S (fun g => ?_) (fun g => ?_)
      · walk_at "cg"
        refine k _ _ _ (by walk_at "cg fr") (by walk_at "cg h") ?_ (by walk_at "cg kp")
        simp only [endsL, if_pos (show a < hi from g)]
        exact .cons (litI (l := ⟨v, .le, a⟩) (by walk_at "cg h")) .nil
      · walk_at "cg"
        refine k _ _ _ (by walk_at "cg fr") (by walk_at "cg h") ?_ (by walk_at "cg kp")
        simp only [endsL, if_neg (show ¬ a < hi from g)]
        exact .nil
    | ge =>
      walk_at "cg"
      refine if_S (fun g => ?_) (fun g => ?_)
      · walk_at "cg"
        refine k _ _ _ (by walk_at "cg fr") (by walk_at "cg h") ?_ (by walk_at "cg kp")
        simp only [endsL, if_pos g]
        exact .cons (litI (l := ⟨v, .ge, a⟩) (by walk_at "cg h")) .nil
      · walk_at "cg"
        refine k _ _ _ (by walk_at "cg fr") (by walk_at "cg h") ?_ (by walk_at "cg kp")
        simp only [endsL, if_neg g]
        exact .nil
    | eq =>
      walk_at "cg"
      refine if_S (fun g => ?_) (fun g => ?_)
      · walk_at "cg"
        refine if_S (fun g2 => ?_) (fun g2 => ?_)
        · walk_at "cg"
          refine k _ _ _ (by walk_at "cg fr") (by walk_at "cg h") ?_ (by walk_at "cg kp")
          simp only [endsL, if_pos (show a < hi from g), if_pos g2]
          exact .cons (litI (l := ⟨v, .le, a⟩) (by walk_at "cg h")) (.cons (litI (l := ⟨v, .ge, a⟩) (by walk_at "cg h")) .nil)
        · walk_at "cg"
          refine k _ _ _ (by walk_at "cg fr") (by walk_at "cg h") ?_ (by walk_at "cg kp")
          simp only [endsL, if_pos (show a < hi from g), if_neg g2]
          exact .cons (litI (l := ⟨v, .le, a⟩) (by walk_at "cg h")) .nil
      · walk_at "cg"
        refine if_S (fun g2 => ?_) (fun g2 => ?_)
        · walk_at "cg"
          refine k _ _ _ (by walk_at "cg fr") (by walk_at "cg h") ?_ (by walk_at "cg kp")
          simp only [endsL, if_neg (show ¬ a < hi from g), if_pos g2]
          exact .cons (litI (l := ⟨v, .ge, a⟩) (by walk_at "cg h")) .nil
        · walk_at "cg"
          refine k _ _ _ (by walk_at "cg fr") (by walk_at "cg h") ?_ (by walk_at "cg kp")
          simp only [endsL, if_neg (show ¬ a < hi from g), if_neg g2]
          exact .nil
    | ne =>
      walk_at "cg"
      refine if_S (fun g => ?_) (fun g => ?_)
      · walk_at "cg"
        refine if_S (fun g2 => ?_) (fun g2 => ?_)
        · walk_at "cg"
          refine k _ _ _ (by walk_at "cg fr") (by walk_at "cg h") ?_ (by walk_at "cg kp")
          simp only [endsL, if_pos g, if_pos g2]
          exact .cons (litI (l := ⟨v, .ge, a + 1⟩) (by walk_at "cg h")) (.cons (litI (l := ⟨v, .le, a - 1⟩) (by walk_at "cg h")) .nil)
        · walk_at "cg"
          refine k _ _ _ (by walk_at "cg fr") (by walk_at "cg h") ?_ (by walk_at "cg kp")
          simp only [endsL, if_pos g, if_neg g2]
          exact .cons (litI (l := ⟨v, .ge, a + 1⟩) (by walk_at "cg h")) .nil
      · walk_at "cg"
        refine if_S (fun g2 => ?_) (fun g2 => ?_)
        · walk_at "cg"
          refine k _ _ _ (by walk_at "cg fr") (by walk_at "cg h") ?_ (by walk_at "cg kp")
          simp only [endsL, if_neg g, if_pos g2]
          exact .cons (litI (l := ⟨v, .le, a - 1⟩) (by walk_at "cg h")) .nil
        · walk_at "cg"
          refine k _ _ _ (by walk_at "cg fr") (by walk_at "cg h") ?_ (by walk_at "cg kp")
          simp only [endsL, if_neg g, if_neg g2]
          exact .nil
theorem ok_keeps {f : Addr} {fd : FuncData} (F : Fun K "keeps" "keeps" s_keeps f fd) (B : Bi K mg) (D_ends_wanted : Is P w K mg base CX0 1 "ends_wanted" ["box", "literal"] (spEndsW K)) : FnOk P w K mg base CX0 2 f fd ["box", "literal"] (spKeeps K) := by
  have nd := sc_keeps.nd
  refine F.ok sc_keeps ?len (fun cdv A outer s H vs Q E hr h => ?body)
  case len =>
    rintro vs H Q E ⟨p, q1, q2, q, m, los, his, l, rfl, _⟩
    rfl
  case body =>
    obtain ⟨p, q1, q2, q, m, los, his, l, rfl, Bx, W, L, v0, v1, k⟩ := h
    refine ⟨_, (pss_one (ps_ret (pe_cmpR op_eq (pe_callB (cgLen K) (by rfl) B.n_len PySem.boot_len (pa_cons (pe_is D_ends_wanted (hr.mono (by decide)) rfl pass0 (pa_cons (pv 0) (pa_cons (pv 1) pa_nil))) pa_nil)) pe_int (nomark _)))), ?_⟩
    try dsimp only [L2.cxOf, L2.Cx.nox, L2.Cx.wish]
    rw [st_keeps]
    walk_at "cg"
    refine ⟨p, q1, q2, q, m, los, his, l, rfl, Bx, W, L, v0, v1, fun d refs H1 hd e1 A1 k1 => ?_⟩
    have hl := mapLenP A1
    walk_at "cg"
    have := k _ k1
    rw [show decide ((refs.length : Int) = 0) = decide (endsL (at_ los l.v) (at_ his l.v) l = []) by
      rw [Bool.eq_iff_iff, decide_eq_true_eq, decide_eq_true_eq, ← List.length_eq_zero_iff]
      omega]
    exact this
theorem ok_row_ends {f : Addr} {fd : FuncData} (F : Fun K "row_ends" "row_ends" s_row_ends f fd) (B : Bi K mg) (D_least_sum : Is P w K mg base CX0 1 "least_sum" ["box", "terms"] (spLeastS K)) (D_ends_wanted : Is P w K mg base CX0 1 "ends_wanted" ["box", "literal"] (spEndsW K)) : FnOk P w K mg base CX0 2 f fd ["box", "row"] (spRowE K) := by
  have nd := sc_row_ends.nd
  refine F.ok sc_row_ends ?len (fun cdv A outer s H vs Q E hr h => ?body)
  case len =>
    rintro vs H Q E ⟨p, q1, q2, q, m, los, his, ts, n, rfl, _⟩
    rfl
  case body =>
    obtain ⟨p, q1, q2, q, m, los, his, ts, n, rfl, Bx, W, F, tw, kn, ks⟩ := h
    refine ⟨_, (pss_cons (ps_set (i := 2) nd rfl (Or.inl rfl) (pe_op op_sub (pe_ix (ixT K) (pv 1) pe_int (fun _ _ => rfl)) (pe_is D_least_sum (hr.mono (by decide)) rfl pass0 (pa_cons (pv 0) (pa_cons (pe_ix (ixT K) (pv 1) pe_int (fun _ _ => rfl)) pa_nil)))))
      (pss_cons (ps_if (pt_cmpR op_lt (pv 2) pe_int (nomark _))
      (pss_one (ps_ret pe_non))
      pss_nil)
      (pss_cons (ps_set (i := 3) nd rfl (Or.inl rfl) (pe_lst pa_nil))
      (pss_cons (ps_for PassesOwn.never rfl (pi_tup (pe_ix (ixT K) (pv 1) pe_int (fun _ _ => rfl))) (pg_tup (n := 2) rfl (pgs_cons (pg_name (i := 4) nd rfl (Or.inl rfl)) (pgs_cons (pg_name (i := 5) nd rfl (Or.inl rfl)) pgs_nil)))
      (pss_one (ps_if (pt_cmpR op_gt (pv 5) pe_int (nomark _))
      (pss_one (ps_expr (pe_bm PySem.F.plainAttrs_list PySem.F.slot_list_extend PySem.F.type_list_extend mt_extend (pv 3) (pa_cons (pe_is D_ends_wanted (hr.mono (by decide)) rfl pass0 (pa_cons (pv 0) (pa_cons (pe_tup (pa_cons (pv 4) (pa_cons pe_str (pa_cons (pe_op op_add (pe_ix (ixSq K) (pe_ix (ixT K) (pv 0) pe_int (fun _ _ => rfl)) (pv 4) (fun _ _ => rfl)) (pe_op op_fdivW (pv 2) (pv 5))) pa_nil)))) pa_nil))) pa_nil))))
      (pss_one (ps_expr (pe_bm PySem.F.plainAttrs_list PySem.F.slot_list_extend PySem.F.type_list_extend mt_extend (pv 3) (pa_cons (pe_is D_ends_wanted (hr.mono (by decide)) rfl pass0 (pa_cons (pv 0) (pa_cons (pe_tup (pa_cons (pv 4) (pa_cons pe_str (pa_cons (pe_op op_sub (pe_ix (ixSq K) (pe_ix (ixT K) (pv 0) pe_int (fun _ _ => rfl)) (pv 4) (fun _ _ => rfl)) (pe_op op_fdivW (pv 2) (pe_un un_neg (pv 5)))) pa_nil)))) pa_nil))) pa_nil)))))))
      (pss_one (ps_ret (pv 3))))))), ?_⟩
    try dsimp only [L2.cxOf, L2.Cx.nox, L2.Cx.wish]
    rw [st_row_ends]
    obtain ⟨qt, s0, it⟩ := row_open F
    obtain ⟨xs, s1, i1⟩ := Im.open it
    have sb := Bx.b
    walk_at "cg"
    refine ⟨p, q1, q2, qt, m, los, his, ts, rfl, Bx, W, it, tw, fun H1 k1 => ?_⟩
    have B1 := Bx.kp0 k1
    have sb1 := B1.b
    have s01 := k1.tup s0
    have s11 := k1.tup s1
    have i11 := k1.imAll i1
    walk_at "cg"
    refine if_S (fun g => ?_) (fun g => ?_)
    · walk_at "cg"
      exact kn _ (by unfold rowE; rw [if_pos g]) k1
    · have er : rowE los his ts n = some (ts.flatMap (rowT los his (n - lsB los his ts))) := by unfold rowE; rw [if_neg g]
      generalize n - lsB los his ts = sl at er g
      walk_at "cg"
      rename_i d H2 hd ed k2
      have B2 := B1.kp0 k2
      have sb2 := B2.b
      have f1 : H d = none := k1.free0 hd
      have K2 := Kp.tr0 k2 k1
      clear Bx sb B1 sb1 s0 s01 k1
      refine r_forTI [d] (k2.tup s11) (k2.imAll i11) (fun i σ' H' => ∃ (refs : List V) (x5 x6 : Option V), σ' = [some (.ref p), some (.ref q), some (.int sl), some (.ref d), x5, x6] ∧ H' d = some (.lst refs) ∧ ImAll K H' refs (((ts.take i).flatMap (rowT los his sl)).map Lit.d) ∧ refs.length ≤ 2 * i ∧ Kp [d] H2 H') ⟨[], _, _, rfl, ed, .nil, by simp, Kp.base fun b hb => by rw [List.mem_singleton] at hb; rw [hb, ed]; trivial⟩ (fun i σ' H' ⟨_, _, _, _, _, _, _, h⟩ => h) ?_ ?_
      · rintro i z x σ' H3 hz hx _ ⟨refs, x5, x6, rfl, e3, A3, l3, k3⟩
        obtain ⟨px, rfl, sx⟩ := term_at hx
        have hi : i < ts.length := (List.getElem?_eq_some_iff.mp hz).1
        have h60 := tw.1
        have oz := tw.2 z (List.mem_of_getElem? hz)
        have e1 := atS oz.1 (by rw [W.a]; exact oz.2.1)
        have e2 := atS oz.1 (by rw [W.b]; exact oz.2.1)
        have nq1 : q1 ≠ d ∨ SqT K H2 q1 (los.map V.int) := by
          rcases B2.l with h | h
          · left
            intro e
            rw [e] at h
            rw [ed] at h
            have hlen : ([] : List V).length = (los.map V.int).length := by injection h with h; injection h with h; rw [h]
            rw [List.length_map, W.a] at hlen
            simp only [List.length_nil] at hlen
            omega
          · exact .inr h
        have nq2 : q2 ≠ d ∨ SqT K H2 q2 (his.map V.int) := by
          rcases B2.h with h | h
          · left
            intro e
            rw [e] at h
            rw [ed] at h
            have hlen : ([] : List V).length = (his.map V.int).length := by injection h with h; injection h with h; rw [h]
            rw [List.length_map, W.b] at hlen
            simp only [List.length_nil] at hlen
            omega
          · exact .inr h
        have B3 : BoxP K H3 p q1 q2 los his := ⟨k3.tup B2.b, (by
          rcases nq1 with h | h
          · exact B2.l.kp k3 (by simpa using h)
          · exact .inr (k3.tup h)), (by
          rcases nq2 with h | h
          · exact B2.h.kp k3 (by simpa using h)
          · exact .inr (k3.tup h))⟩
        have sb3 := B3.b
        have es : (ts.take (i + 1)).flatMap (rowT los his sl) = (ts.take i).flatMap (rowT los his sl) ++ rowT los his sl z := by
          rw [List.take_add_one, hz, List.flatMap_append]
          simp
        have fin : ∀ (H5 : Hp) (d5 : Addr) (refs5 : List V), Kp [] H3 H5 → H5 d5 = some (.lst refs5) → ImAll K H5 refs5 ((rowT los his sl z).map Lit.d) → refs5.length ≤ 2 → ∀ (R : VK), (∀ H6, (∃ (refs : List V), H6 d = some (.lst refs) ∧ ImAll K H6 refs (((ts.take (i + 1)).flatMap (rowT los his sl)).map Lit.d) ∧ refs.length ≤ 2 * (i + 1) ∧ Kp [d] H2 H6) → R .non H6) → rExtend (.ref d) [.ref d5] H5 R := fun H5 d5 refs5 k5 e5 A5 l5 R hR => by
          refine r_ext (k5.get0 e3) e5 (by omega) fun H6 e6 k6 => hR H6 ⟨_, e6, ?_, ?_, Kp.tr1 k6 (Kp.tr0 k5 k3)⟩
          · rw [es, List.map_append]
            have A6 := k6.imAll A5
            have B6 := k6.imAll (k5.imAll A3)
            exact imAll_ap B6 A6
          · rw [List.length_append]
            omega
        walk_at "cg"
        refine if_S (fun gc => ?_) (fun gc => ?_)
        · have gc : 0 < z.2 := gc
          have cw : CDivW sl z.2 := wide_div (b := 60) gc (show z.2.natAbs < 1152921504606846976 by omega) (by decide) (by decide)
          have et : rowT los his sl z = endsL (at_ los z.1) (at_ his z.1) ⟨z.1, .le, at_ los z.1 + sl / z.2⟩ := by unfold rowT; rw [if_pos gc]
          walk_at "cg"
          refine r_ixSq B3.l e1 ?_
          walk_at "cg"
          rename_i p4 H4 hp4 s4 k4
          refine ⟨p, q1, q2, p4, m, los, his, ⟨z.1, .le, at_ los z.1 + sl / z.2⟩, rfl, B3.kp0 k4, W, s4, oz.1, oz.2.1, fun d5 refs5 H5 hd5 e5 A5 k5 => ?_⟩
          walk_at "cg"
          refine fin H5 d5 refs5 (Kp.tr0 k5 k4) e5 (by rw [et]; exact A5) (Nat.le_trans (Nat.le_of_eq (mapLenP A5)) (endsL_len _ _ _)) _ fun H6 ⟨refs6, a, b, c, d'⟩ => ?_
          walk_at "cg"
          exact ⟨refs6, _, _, rfl, a, b, c, d'⟩
        · have gc : ¬ 0 < z.2 := gc
          have cw : CDivW sl (-z.2) := wide_div (b := 60) (by omega) (show (-z.2).natAbs < 1152921504606846976 by omega) (by decide) (by decide)
          have et : rowT los his sl z = endsL (at_ los z.1) (at_ his z.1) ⟨z.1, .ge, at_ his z.1 - sl / -z.2⟩ := by unfold rowT; rw [if_neg gc]
          walk_at "cg"
          refine r_ixSq B3.h e2 ?_
          walk_at "cg"
          rename_i p4 H4 hp4 s4 k4
          refine ⟨p, q1, q2, p4, m, los, his, ⟨z.1, .ge, at_ his z.1 - sl / -z.2⟩, rfl, B3.kp0 k4, W, s4, oz.1, oz.2.1, fun d5 refs5 H5 hd5 e5 A5 k5 => ?_⟩
          walk_at "cg"
          refine fin H5 d5 refs5 (Kp.tr0 k5 k4) e5 (by rw [et]; exact A5) (Nat.le_trans (Nat.le_of_eq (mapLenP A5)) (endsL_len _ _ _)) _ fun H6 ⟨refs6, a, b, c, d'⟩ => ?_
          walk_at "cg"
          exact ⟨refs6, _, _, rfl, a, b, c, d'⟩
      · rintro σ' H3 _ ⟨refs, x5, x6, rfl, e3, A3, l3, k3⟩
        rw [List.take_length] at A3
        walk_at "cg"
        exact ks _ _ _ _ er f1 e3 A3 (Kp.trN k3 K2 f1)
theorem ok_clause_ends {f : Addr} {fd : FuncData} (F : Fun K "clause_ends" "clause_ends" s_clause_ends f fd) (B : Bi K mg) (D_ends_wanted : Is P w K mg base CX0 1 "ends_wanted" ["box", "literal"] (spEndsW K)) (D_is_possible : Is P w K mg base CX0 1 "is_possible" ["box", "literal"] (spPoss K)) : FnOk P w K mg base CX0 2 f fd ["box", "clause"] (spClauseE K) := by
  have nd := sc_clause_ends.nd
  refine F.ok sc_clause_ends ?len (fun cdv A outer s H vs Q E hr h => ?body)
  case len =>
    rintro vs H Q E ⟨p, q1, q2, q, m, los, his, ls, rfl, _⟩
    rfl
  case body =>
    obtain ⟨p, q1, q2, q, m, los, his, ls, rfl, Bx, W, F, l60, lv, kn, ks⟩ := h
    refine ⟨_, (pss_cons (ps_setLc (i := 2) (own := [("literal", 3)]) (g := (gName 3)) rfl nd rfl rfl (sw_true rfl rfl rfl (by decide +kernel)) (pi_tup (pe_ix (ixT K) (pv 1) pe_int (fun _ _ => rfl))) (blkOk_by (N := ["box", "clause", "live", "literal"]) (sc := defScope s_clause_ends) (by decide +kernel)) (fun _ _ _ _ _ => (pg_name (i := 3) nd rfl (Or.inl rfl))) (fun _ _ _ _ _ => pts_one (pt_val (pe_is D_is_possible (hr.mono (by decide)) rfl pass0 (pa_cons (pv 0) (pa_cons (pv 3) pa_nil))))) (fun _ _ _ _ _ => (pv 3)))
      (pss_cons (ps_if (pt_cmpR op_eq (pe_callB (cgLen K) (by rfl) B.n_len PySem.boot_len (pa_cons (pv 2) pa_nil)) pe_int (nomark _))
      (pss_one (ps_ret pe_non))
      pss_nil)
      (pss_cons (ps_if (pt_cmpR op_gt (pe_callB (cgLen K) (by rfl) B.n_len PySem.boot_len (pa_cons (pv 2) pa_nil)) pe_int (nomark _))
      (pss_one (ps_ret (pe_lst pa_nil)))
      pss_nil)
      (pss_one (ps_ret (pe_is D_ends_wanted (hr.mono (by decide)) rfl pass0 (pa_cons (pv 0) (pa_cons (pe_ix (ixL K) (pv 2) pe_int (fun _ _ => rfl)) pa_nil)))))))), ?_⟩
    try dsimp only [L2.cxOf, L2.Cx.nox, L2.Cx.wish]
    rw [st_clause_ends]
    obtain ⟨ql, s0, il⟩ := any_open F
    obtain ⟨xs, s1, i1⟩ := Im.open il
    walk_at "cg"
    refine lcT_f (K := K) (xs := xs) (as := ls) (d := Lit.d) s1 i1 (fun l => if possB (at_ los l.v) (at_ his l.v) l then some l.d else none) (by omega) (fun j l x H' R R' hl k4 hx r1 r2 => ?_) (fun D H1 acc hD eD hA k1 => ?_)
    · obtain ⟨px, rfl, L⟩ := lit_at hx
      have ol := lv l (List.mem_of_getElem? hl)
      walk_at "cg"
      refine ⟨p, q1, q2, px, m, los, his, l, rfl, Bx.kp0 k4, W, L, ol.1, ol.2, fun H5 k5 => ?_⟩
      walk_at "cg"
      refine if_B (fun g => ?_) (fun g => ?_)
      · walk_at "cg"
        exact r1 _ _ l.d (by rw [if_pos g]) (k5.im hx) k5
      · exact r2 _ (by rw [g]; rfl) k5
    have hA2 : ImAll K H1 acc ((ls.filter fun l => possB (at_ los l.v) (at_ his l.v) l).map Lit.d) := by
      have e : ls.filterMap (fun l => if possB (at_ los l.v) (at_ his l.v) l then some l.d else none) = (ls.filter fun l => possB (at_ los l.v) (at_ his l.v) l).map Lit.d := by
        clear eD hA hD i1 s1 il s0 F lv l60 kn ks
        induction ls with
        | nil => rfl
        | cons l ls ih =>
          rw [List.filterMap_cons, List.filter_cons]
          by_cases g : possB (at_ los l.v) (at_ his l.v) l = true
          · rw [if_pos g, if_pos g, List.map_cons, ← ih]
          · rw [if_neg g, if_neg g, ← ih]
      rw [← e]
      exact hA
    have hal := mapLenP hA2
    have hlv : ∀ l ∈ ls.filter fun l => possB (at_ los l.v) (at_ his l.v) l, 0 ≤ l.v ∧ l.v < m := fun l hl => lv l (List.mem_filter.mp hl).1
    have ec : clauseE los his ls = (match ls.filter fun l => possB (at_ los l.v) (at_ his l.v) l with | [] => none | [l] => some (endsL (at_ los l.v) (at_ his l.v) l) | _ :: _ :: _ => some []) := rfl
    have B1 := Bx.kp0 k1
    clear hA
    generalize ls.filter (fun l => possB (at_ los l.v) (at_ his l.v) l) = fs at hA2 hal hlv ec
    match fs, hA2, hal, hlv, ec with
    | [], hA2, hal, hlv, ec =>
      simp only [List.length_nil] at hal
      walk_at "cg"
      exact kn _ ec k1
    | [l], hA2, hal, hlv, ec =>
      simp only [List.length_cons, List.length_nil] at hal
      cases hA2 with
      | cons h1 h2 =>
      cases h2
      obtain ⟨px, rfl, L⟩ := lit_at h1
      have ol := hlv l List.mem_cons_self
      walk_at "cg"
      refine ⟨p, q1, q2, px, m, los, his, l, rfl, B1, W, L, ol.1, ol.2, fun d5 refs5 H5 hd5 e5 A5 k5 => ?_⟩
      exact ks _ _ _ _ ec (k1.free0 hd5) e5 A5 (Kp.tr0 k5 k1)
    | l :: l' :: fs, hA2, hal, hlv, ec =>
      simp only [List.length_cons] at hal
      walk_at "cg"
      exact ks _ _ _ _ ec (by walk_at "cg fr") (by assumption) .nil (by walk_at "cg kp")
theorem ok_row_consistent {f : Addr} {fd : FuncData} (F : Fun K "row_consistent" "row_consistent" s_row_consistent f fd) (B : Bi K mg) (D_row_ends : Is P w K mg base CX0 2 "row_ends" ["box", "row"] (spRowE K)) : FnOk P w K mg base CX0 3 f fd ["box", "row"] (spRowC K) := by
  have nd := sc_row_consistent.nd
  refine F.ok sc_row_consistent ?len (fun cdv A outer s H vs Q E hr h => ?body)
  case len =>
    rintro vs H Q E ⟨p, q1, q2, q, m, los, his, ts, n, rfl, _⟩
    rfl
  case body =>
    obtain ⟨p, q1, q2, q, m, los, his, ts, n, rfl, Bx, W, F, tw, k⟩ := h
    refine ⟨_, (pss_cons (ps_set (i := 2) nd rfl (Or.inl rfl) (pe_is D_row_ends (hr.mono (by decide)) rfl pass0 (pa_cons (pv 0) (pa_cons (pv 1) pa_nil))))
      (pss_one (ps_ret (pe_and (pe_cmpR cg_notN (pv 2) pe_non (nomark _)) (pe_one (pe_cmpR op_eq (pe_callB (cgLen K) (by rfl) B.n_len PySem.boot_len (pa_cons (pv 2) pa_nil)) pe_int (nomark _))))))), ?_⟩
    try dsimp only [L2.cxOf, L2.Cx.nox, L2.Cx.wish]
    rw [st_row_consistent]
    walk_at "cg"
    refine ⟨p, q1, q2, q, m, los, his, ts, n, rfl, Bx, W, F, tw, fun H1 e k1 => ?_, fun d refs es H1 e hd ed A k1 => ?_⟩
    · walk_at "cg"
      have := k _ k1
      rw [e] at this
      exact this
    · have hl := mapLenP A
      walk_at "cg"
      have := k _ k1
      rw [e] at this
      rw [show decide ((refs.length : Int) = 0) = decide (some es = some []) by
        rw [Bool.eq_iff_iff, decide_eq_true_eq, decide_eq_true_eq, Option.some.injEq, ← List.length_eq_zero_iff]
        omega]
      exact this
theorem ok_clause_consistent {f : Addr} {fd : FuncData} (F : Fun K "clause_consistent" "clause_consistent" s_clause_consistent f fd) (B : Bi K mg) (D_clause_ends : Is P w K mg base CX0 2 "clause_ends" ["box", "clause"] (spClauseE K)) : FnOk P w K mg base CX0 3 f fd ["box", "clause"] (spClauseC K) := by
  have nd := sc_clause_consistent.nd
  refine F.ok sc_clause_consistent ?len (fun cdv A outer s H vs Q E hr h => ?body)
  case len =>
    rintro vs H Q E ⟨p, q1, q2, q, m, los, his, ls, rfl, _⟩
    rfl
  case body =>
    obtain ⟨p, q1, q2, q, m, los, his, ls, rfl, Bx, W, F, l60, lv, k⟩ := h
    refine ⟨_, (pss_cons (ps_set (i := 2) nd rfl (Or.inl rfl) (pe_is D_clause_ends (hr.mono (by decide)) rfl pass0 (pa_cons (pv 0) (pa_cons (pv 1) pa_nil))))
      (pss_one (ps_ret (pe_and (pe_cmpR cg_notN (pv 2) pe_non (nomark _)) (pe_one (pe_cmpR op_eq (pe_callB (cgLen K) (by rfl) B.n_len PySem.boot_len (pa_cons (pv 2) pa_nil)) pe_int (nomark _))))))), ?_⟩
    try dsimp only [L2.cxOf, L2.Cx.nox, L2.Cx.wish]
    rw [st_clause_consistent]
    walk_at "cg"
    refine ⟨p, q1, q2, q, m, los, his, ls, rfl, Bx, W, F, l60, lv, fun H1 e k1 => ?_, fun d refs es H1 e hd ed A k1 => ?_⟩
    · walk_at "cg"
      have := k _ k1
      rw [e] at this
      exact this
    · have hl := mapLenP A
      walk_at "cg"
      have := k _ k1
      rw [e] at this
      rw [show decide ((refs.length : Int) = 0) = decide (some es = some []) by
        rw [Bool.eq_iff_iff, decide_eq_true_eq, decide_eq_true_eq, Option.some.injEq, ← List.length_eq_zero_iff]
        omega]
      exact this

end
section
variable {P : Program} {w : World} {K : PySem.W.Frag} {mg : Str → Option Value} {base : Heap}
theorem ok_law_draw {f : Addr} {fd : FuncData} (F : Fun K "_law_draw" "_law_draw" s_law_draw f fd) (B : Bi K mg)  : FnOk P w K mg base CX0 1 f fd ["_law_tape_here", "_law_many"] spDraw := by
  have nd := sc_law_draw.nd
  refine F.ok sc_law_draw ?len (fun cdv A outer s H vs Q E hr h => ?body)
  case len =>
    rintro vs H Q E ⟨t, c, m, rfl, _⟩
    rfl
  case body =>
    obtain ⟨t, c, m, rfl, T, hm1, hm2, q⟩ := h
    refine ⟨_, (Evl.pss_cut (ps_if (pt_cmpR op_lt (pe_ix (ixL K) (pv 0) pe_int (fun _ _ => rfl)) (pv 1) (nomark _))
      (pss_cons (ps_set (i := 2) nd rfl (Or.inl rfl) (pe_ix (ixL K) (pv 0) pe_int (fun _ _ => rfl)))
      (pss_cons (ps_set (i := 3) nd rfl (Or.inl rfl) (pe_ix (ixL K) (pv 0) pe_int (fun _ _ => rfl)))
      (pss_cons (ps_set (i := 4) nd rfl (Or.inl rfl) pe_int)
      (Evl.pss_cut (ps_if (pt_cmpR op_lt (pv 3) (pe_callB (cgLen K) (by rfl) B.n_len PySem.boot_len (pa_cons (pv 2) pa_nil)) (nomark _))
      (pss_one (ps_set (i := 4) nd rfl (Or.inl rfl) (pe_ix (ixL K) (pv 2) (pv 3) (fun _ _ => rfl))))
      pss_nil)
      (Evl.pss_cut (ps_if (pt_cmpR op_lt (pv 4) pe_int (nomark _))
      (pss_one (ps_set (i := 4) nd rfl (Or.inl rfl) (pe_op op_sub (pe_op op_mul (pe_un un_neg pe_int) (pv 4)) pe_int)))
      pss_nil)
      (Evl.pss_cut (ps_if (pt_cmpR op_lt (pv 4) (pe_op op_pow pe_int pe_int) (nomark _))
      (pss_cons (ps_set (i := 4) nd rfl (Or.inl rfl) (pe_op op_mod (pe_callTy cg_int (by rfl) B.n_int PyProof.Rows.boot_int (pa_cons (pe_op op_add (pe_op op_add (pe_op op_mul (pv 4) pe_int) (pe_op op_mul (pv 3) pe_int)) pe_int) pa_nil)) pe_int))
      (pss_one (ps_set (i := 4) nd rfl (Or.inl rfl) (pe_op op_mod (pe_callTy cg_int (by rfl) B.n_int PyProof.Rows.boot_int (pa_cons (pe_op op_add (pe_op op_add (pe_op op_mul (pv 4) pe_int) (pe_op op_mul (pv 3) pe_int)) pe_int) pa_nil)) pe_int))))
      pss_nil)
      (pss_cons (ps_asg (pe_op op_add (pv 3) pe_int) (pg_sub (pv 0) pe_int set_list))
      (pss_one (ps_asg (pv 4) (pg_sub (pv 0) pe_int set_list))))))))))
      pss_nil)
      (pss_cons (ps_set (i := 5) nd rfl (Or.inl rfl) (pe_op op_mod (pe_callTy cg_int (by rfl) B.n_int PyProof.Rows.boot_int (pa_cons (pe_ix (ixL K) (pv 0) pe_int (fun _ _ => rfl)) pa_nil)) (pv 1)))
      (pss_cons (ps_asg (pe_op op_fdivW (pe_ix (ixL K) (pv 0) pe_int (fun _ _ => rfl)) (pv 1)) (pg_sub (pv 0) pe_int set_list))
      (pss_one (ps_ret (pv 5)))))), ?_⟩
    try dsimp only [L2.cxOf, L2.Cx.nox, L2.Cx.wish]
    rw [st_law_draw]
    obtain ⟨ns, k, z, h1, h2, hk, hz⟩ := id T.ex
    have net := T.ne
    show Evl.tCut _ _ _ _ _
    refine ⟨fun σ' H1 => ∃ (k z : Int) (x1 x2 x3 x4 : Option V), σ' = [some (V.ref t), some (.int m), x1, x2, x3, x4] ∧ H1 t = some (.lst [.ref c, .int k, .int z]) ∧ H1 c = some (.lst (ns.map V.int)) ∧ 0 ≤ k ∧ 0 ≤ z ∧ (H1 = H ∨ Kp [t] H H1), ?_, ?_⟩
    · walk_at "cg"
      refine if_S (fun hc => ?_) (fun hc => ?_)
      · walk_at "cg"
        refine ⟨fun σ' H1 => ∃ z' : Int, σ' = [some (V.ref t), some (.int m), some (V.ref c), some (.int k), some (.int z'), none] ∧ H = H1, ?_, ?_⟩
        · walk_at "cg"
          refine if_S (fun hk1 => ?_) (fun hk1 => ?_)
          · walk_at "cg"
            rw [List.length_map] at hk1
            refine r_ixL h2 (v := .int (ns.getD k.toNat 0)) ?_ ?_
            · have e : k.toNat < ns.length := by omega
              simp [atI, ixN, hk, hk1, e]
            · walk_at "cg"
              exact ⟨_, rfl, rfl⟩
          · walk_at "cg"
            exact ⟨_, rfl, rfl⟩
        · rintro σ' H1 ⟨z1, rfl, rfl⟩
          refine ⟨fun σ' H2 => ∃ z' : Int, 0 ≤ z' ∧ σ' = [some (V.ref t), some (.int m), some (V.ref c), some (.int k), some (.int z'), none] ∧ H = H2, ?_, ?_⟩
          · walk_at "cg"
            refine if_S (fun hk1 => ?_) (fun hk1 => ?_)
            · walk_at "cg"
              exact ⟨_, by omega, rfl, rfl⟩
            · walk_at "cg"
              exact ⟨_, by omega, rfl, rfl⟩
          · rintro σ' H2 ⟨z2, hz2, rfl, rfl⟩
            refine ⟨fun σ' H2 => ∃ z' : Int, 0 ≤ z' ∧ σ' = [some (V.ref t), some (.int m), some (V.ref c), some (.int k), some (.int z'), none] ∧ H = H2, ?_, ?_⟩
            · walk_at "cg"
              refine if_S (fun hk1 => ?_) (fun hk1 => ?_)
              · walk_at "cg"
                exact ⟨_, by omega, rfl, rfl⟩
              · walk_at "cg"
                exact ⟨_, hz2, rfl, rfl⟩
            · rintro σ' H2 ⟨z3, hz3, rfl, rfl⟩
              walk_at "cg"
              intro H2 e1 k1
              walk_at "cg"
              intro H3 e2 k2
              walk_at "cg"
              exact ⟨k + 1, z3, _, _, _, _, rfl, e2, k2.get1 net.symm (k1.get1 net.symm h2), by omega, hz3, .inr ⟨fun b o hb e => k2.k b o hb (k1.k b o hb e), k1.mu⟩⟩
      · walk_at "cg"
        exact ⟨k, z, _, _, _, _, rfl, h1, h2, hk, hz, .inl rfl⟩
    · rintro σ' H1 ⟨k, z, x1, x2, x3, x4, rfl, g1, g2, gk, gz, hk⟩
      walk_at "cg"
      refine r_rI (bigB_ok hm1 hm2) ?_
      walk_at "cg"
      intro H2 e1 k1
      walk_at "cg"
      refine q _ _ (Int.emod_nonneg _ (by omega)) (Int.emod_lt_of_pos _ (by omega)) ⟨ns, k, _, e1, k1.get1 net.symm g2, gk, Int.ediv_nonneg gz (by omega)⟩ ?_
      rcases hk with rfl | hk
      · exact k1
      · exact ⟨fun b o hb e => k1.k b o hb (hk.k b o hb e), hk.mu⟩

theorem ok_law_tape {f : Addr} {fd : FuncData} (F : Fun K "_law_tape" "_law_tape" s_law_tape f fd) (B : Bi K mg)  : FnOk P w K mg base CX0 1 f fd ["_law_script"] (spTape K) := by
  have nd := sc_law_tape.nd
  refine F.ok sc_law_tape ?len (fun cdv A outer s H vs Q E hr h => ?body)
  case len =>
    rintro vs H Q E ⟨a, ns, rfl, _⟩
    rfl
  case body =>
    obtain ⟨a, ns, rfl, hS, q⟩ := h
    refine ⟨_, (pss_one (ps_ret (pe_lst (pa_cons (pe_callTy (cgList K) (by rfl) B.n_list (by decide +kernel) (pa_cons (pv 0) pa_nil)) (pa_cons pe_int (pa_cons pe_int pa_nil)))))), ?_⟩
    try dsimp only [L2.cxOf, L2.Cx.nox, L2.Cx.wish]
    rw [st_law_tape]
    walk_at "cg"
    rename_i c H1 hc h1 k1 t H2 ht h2 k2
    exact q _ _ _ (Kp.free0 (by assumption) ht) hc ⟨ns, 0, 0, h2, k2.get0 h1, by decide, by decide⟩ (by walk_at "cg kp")

theorem ok_law_same {f : Addr} {fd : FuncData} (F : Fun K "_law_same" "_law_same" s_law_same f fd) (B : Bi K mg)  : FnOk P w K mg base CX0 1 f fd ["_law_answer", "_law_due"] spSame := by
  have nd := sc_law_same.nd
  refine F.ok sc_law_same ?len (fun cdv A outer s H vs Q E hr h => ?body)
  case len =>
    rintro vs H Q E ⟨a, b, rfl, _⟩
    rfl
  case body =>
    obtain ⟨a, b, rfl, q⟩ := h
    refine ⟨_, (pss_one (ps_ret (pe_and (pe_callB (cgIsi K) (by rfl) B.n_isinstance (by decide +kernel) (pa_cons (pv 0) (pa_cons (pe_bltn (v := .ty "bool") rfl B.n_bool (by decide +kernel) rfl) pa_nil))) (pe_one (pe_cmpR op_eq (pv 0) (pv 1) (nomark _)))))), ?_⟩
    try dsimp only [L2.cxOf, L2.Cx.nox, L2.Cx.wish]
    rw [st_law_same]
    walk_at "cg"
    exact q

theorem ok_law_terms {f : Addr} {fd : FuncData} (F : Fun K "_law_terms" "_law_terms" s_law_terms f fd) (B : Bi K mg) (D_law_draw : Is P w K mg base CX0 1 "_law_draw" ["_law_tape_here", "_law_many"] spDraw) : FnOk P w K mg base CX0 2 f fd ["_law_tape_here", "_law_many"] (spLawTerms K) := by
  have nd := sc_law_terms.nd
  refine F.ok sc_law_terms ?len (fun cdv A outer s H vs Q E hr h => ?body)
  case len =>
    rintro vs H Q E ⟨t, c, m, rfl, _⟩
    rfl
  case body =>
    obtain ⟨t, c, m, rfl, T, m0, m1, q⟩ := h
    refine ⟨_, (pss_cons (ps_set (i := 2) nd rfl (Or.inl rfl) (pe_lst pa_nil))
      (pss_cons (ps_for PassesOwn.never rfl (pi_range1 rfl B.n_range (pa_cons (pv 1) pa_nil)) (pg_name (i := 3) nd rfl (Or.inl rfl))
      (pss_cons (ps_set (i := 4) nd rfl (Or.inl rfl) (pe_op op_sub (pe_is D_law_draw (hr.mono (by decide)) rfl pass0 (pa_cons (pv 0) (pa_cons pe_int pa_nil))) pe_int))
      (pss_one (ps_if (pt_cmpR op_ne (pv 4) pe_int (nomark _))
      (pss_one (ps_expr (pe_bm PySem.F.plainAttrs_list PySem.F.slot_list_append PySem.F.type_list_append mt_append (pv 2) (pa_cons (pe_tup (pa_cons (pv 3) (pa_cons (pv 4) pa_nil))) pa_nil))))
      pss_nil))))
      (pss_one (ps_ret (pe_callTy (cgTuple K) (by rfl) B.n_tuple (by decide +kernel) (pa_cons (pv 2) pa_nil)))))), ?_⟩
    try dsimp only [L2.cxOf, L2.Cx.nox, L2.Cx.wish]
    rw [st_law_terms]
    walk_at "cg"
    rename_i l H1 hl el kl
    have nlt : l ≠ t := by walk_at "cg ne"
    have nlc : l ≠ c := by walk_at "cg ne"
    have T1 : Tp t c H1 := by walk_at "cg h"
    refine r_forR (fun i σ' H' => ∃ (ts : Tms) (refs : List V) (x3 x4 : Option V), σ' = [some (.ref t), some (.int m), some (.ref l), x3, x4] ∧ Tp t c H' ∧ Kp [t] H H' ∧ H' l = some (.lst refs) ∧ ImAll K H' refs (ts.map tD) ∧
      (∀ z ∈ ts, 0 ≤ z.1 ∧ z.1 < i ∧ z.2 ≠ 0 ∧ -3 ≤ z.2 ∧ z.2 ≤ 3) ∧ (ts.map (·.1)).Pairwise (· < ·) ∧ ts.length ≤ i) ⟨[], [], none, none, rfl, T1, by walk_at "cg kp", el, .nil, (fun z hz => by cases hz), List.Pairwise.nil, Nat.le_refl _⟩ ?_ ?_
    · rintro i σ' H2 hi ⟨ts, refs, x3, x4, rfl, T2, k2, e2, A2, ok, asc, hn⟩
      have hrl := mapLenP A2
      clear T1 el kl T
      walk_at "cg"
      refine if_S (fun h0 => ?_) (fun h0 => ?_)
      · walk_at "cg"
        rename_i d H3 d0 d6 T3 k3 pn H4 hpn sn k4 H5 e5 k5
        refine ⟨ts ++ [((i : Int), d - 3)], refs ++ [.ref pn], some (.int (0 + (i : Int))), some (.int (d - 3)), rfl, by walk_at "cg h", by walk_at "cg kp", e5, ?_, fun z hz => ?_, ?_, by simp; omega⟩
        · rw [List.map_append]
          refine (k5.imAll (k4.imAll (k3.imAll A2))).snoc (.tup (k5.tup sn) ?_)
          rw [show (0 + (i : Int)) = (i : Int) by omega]
          exact .cons (.int _) (.cons (.int _) .nil)
        · rcases List.mem_append.mp hz with h | h
          · have q := ok z h
            omega
          · rw [List.mem_singleton] at h
            subst h
            simp only
            omega
        · rw [List.map_append, List.pairwise_append]
          refine ⟨asc, List.pairwise_singleton .., fun a ha b hb => ?_⟩
          obtain ⟨z, hz, rfl⟩ := List.mem_map.mp ha
          have q := ok z hz
          simp only [List.map_cons, List.map_nil, List.mem_singleton] at hb
          subst hb
          exact q.2.1
      · walk_at "cg"
        rename_i d H3 d0 d6 T3 k3
        exact ⟨ts, refs, some (.int (0 + (i : Int))), some (.int (d - 3)), rfl, by walk_at "cg h", by walk_at "cg kp", by walk_at "cg h", by walk_at "cg h", (fun z hz => by have q := ok z hz; omega), asc, by omega⟩
    · rintro σ' H2 ⟨ts, refs, x3, x4, rfl, T2, k2, e2, A2, ok, asc, hn⟩
      clear T1 el kl T
      walk_at "cg"
      exact q _ _ _ (.tup (by assumption) (by walk_at "cg h")) ⟨(fun z hz => by have q := ok z hz; omega), asc, by omega⟩ (by walk_at "cg h") (by walk_at "cg kp")
theorem ok_law_literal {f : Addr} {fd : FuncData} (F : Fun K "_law_literal" "_law_literal" s_law_literal f fd) (B : Bi K mg) (D_law_draw : Is P w K mg base CX0 1 "_law_draw" ["_law_tape_here", "_law_many"] spDraw) : FnOk P w K mg base CX0 2 f fd ["_law_tape_here", "_law_many"] (spLawLiteral K) := by
  have nd := sc_law_literal.nd
  refine F.ok sc_law_literal ?len (fun cdv A outer s H vs Q E hr h => ?body)
  case len =>
    rintro vs H Q E ⟨t, c, m, rfl, _⟩
    rfl
  case body =>
    obtain ⟨t, c, m, rfl, T, m0, m1, q⟩ := h
    refine ⟨_, (pss_cons (ps_set (i := 2) nd rfl (Or.inl rfl) (pe_ix (ixL K) (pe_lst (pa_cons pe_str (pa_cons pe_str (pa_cons pe_str (pa_cons pe_str pa_nil))))) (pe_is D_law_draw (hr.mono (by decide)) rfl pass0 (pa_cons (pv 0) (pa_cons pe_int pa_nil))) (fun _ _ => rfl)))
      (pss_one (ps_ret (pe_tup (pa_cons (pe_is D_law_draw (hr.mono (by decide)) rfl pass0 (pa_cons (pv 0) (pa_cons (pv 1) pa_nil))) (pa_cons (pv 2) (pa_cons (pe_op op_sub (pe_is D_law_draw (hr.mono (by decide)) rfl pass0 (pa_cons (pv 0) (pa_cons pe_int pa_nil))) pe_int) pa_nil))))))), ?_⟩
    try dsimp only [L2.cxOf, L2.Cx.nox, L2.Cx.wish]
    rw [st_law_literal]
    have mb : m < bigB := by
      have e : (60 : Int) < bigB := by decide
      omega
    walk_at "cg"
    refine ix_rel4 (by walk_at "cg h") (by assumption) (by assumption) fun r => ?_
    walk_at "cg"
    rename_i d1 _ _ _ _ _ d2 _ _ _ _ _ p1 H5 _ _ _
    exact q p1 ⟨d1, r, d2 - 3⟩ _ (by assumption) ⟨by assumption, by assumption, by simp only; omega, by simp only; omega⟩ (by walk_at "cg h") (by walk_at "cg kp")
theorem ok_law_some {f : Addr} {fd : FuncData} (F : Fun K "_law_some" "_law_some" s_law_some f fd) (B : Bi K mg) (D_law_draw : Is P w K mg base CX0 1 "_law_draw" ["_law_tape_here", "_law_many"] spDraw) : FnOk P w K mg base CX0 2 f fd ["_law_tape_here", "_law_many", "_law_least_here"] (spLawSome K) := by
  have nd := sc_law_some.nd
  refine F.ok sc_law_some ?len (fun cdv A outer s H vs Q E hr h => ?body)
  case len =>
    rintro vs H Q E ⟨t, c, m, k, rfl, _⟩
    rfl
  case body =>
    obtain ⟨t, c, m, k, rfl, T, k0, k1, m1, q⟩ := h
    refine ⟨_, (pss_cons (ps_set (i := 3) nd rfl (Or.inl rfl) (pe_listRg rfl (by rfl) B.n_list (prg_1 (by rfl) B.n_range (pv 1))))
      (pss_cons (ps_set (i := 4) nd rfl (Or.inl rfl) (pe_lst pa_nil))
      (pss_cons (ps_for PassesOwn.never rfl (pi_range1 rfl B.n_range (pa_cons (pe_op op_add (pv 2) (pe_is D_law_draw (hr.mono (by decide)) rfl pass0 (pa_cons (pv 0) (pa_cons (pe_op op_add (pe_op op_sub (pv 1) (pv 2)) pe_int) pa_nil)))) pa_nil)) (pg_name (i := 5) nd rfl (Or.inl rfl))
      (pss_one (ps_expr (pe_bm PySem.F.plainAttrs_list PySem.F.slot_list_append PySem.F.type_list_append mt_append (pv 4) (pa_cons (pe_bm PySem.F.plainAttrs_list PySem.F.slot_list_pop PySem.F.type_list_pop mt_popAt (pv 3) (pa_cons (pe_is D_law_draw (hr.mono (by decide)) rfl pass0 (pa_cons (pv 0) (pa_cons (pe_callB (cgLen K) (by rfl) B.n_len PySem.boot_len (pa_cons (pv 3) pa_nil)) pa_nil))) pa_nil)) pa_nil)))))
      (pss_one (ps_ret (pe_callTy (cgTuple K) (by rfl) B.n_tuple (by decide +kernel) (pa_cons (pv 4) pa_nil))))))), ?_⟩
    try dsimp only [L2.cxOf, L2.Cx.nox, L2.Cx.wish]
    rw [st_law_some]
    have mb : m - k + 1 < bigB := by
      have e : (62 : Int) < bigB := by decide
      omega
    walk_at "cg"
    refine r_lstRg (by omega) (by omega) fun l1 H1 hl1 el1 kl1 => ?_
    walk_at "cg"
    rename_i l2 H2 hl2 el2 kl2 d H3 d0 d1 T3 kd
    have n1t : l1 ≠ t := by walk_at "cg ne"
    have n1c : l1 ≠ c := by walk_at "cg ne"
    have n2t : l2 ≠ t := by walk_at "cg ne"
    have n2c : l2 ≠ c := by walk_at "cg ne"
    have n12 : l1 ≠ l2 := ne_newL hl2 el1
    have K3 : Kp [t] H H3 := by walk_at "cg kp"
    have E1 : H3 l1 = some (.lst ((rgI 0 m).map V.int)) := Kp.get1 kd n1t (kl2.get0 el1)
    have E2 : H3 l2 = some (.lst []) := Kp.get1 kd n2t el2
    have f1 : H l1 = none := hl1
    have f2 : H l2 = none := by walk_at "cg fr"
    clear T kl1 kl2 el1 el2 kd hl2
    refine r_forR (fun i σ' H' => ∃ (rs fs : List Int) (x5 : Option V), σ' = [some (.ref t), some (.int m), some (.int k), some (.ref l1), some (.ref l2), x5] ∧ Tp t c H' ∧ Kp [t] H H' ∧ H' l1 = some (.lst (rs.map V.int)) ∧ H' l2 = some (.lst (fs.map V.int)) ∧
      (fs ++ rs).Perm (rgI 0 m) ∧ fs.length = i) ⟨rgI 0 m, [], _, rfl, T3, K3, E1, E2, by rw [List.nil_append], rfl⟩ ?_ ?_
    · clear T3 K3 E1 E2
      rintro i σ' H4 hi ⟨rs, fs, x5, rfl, T4, k4, e1, e2, pm, hn⟩
      have tot := pm.length_eq
      rw [List.length_append, rgI_len] at tot
      have hrl : (rs.map V.int).length = rs.length := List.length_map ..
      have hr1 : 1 ≤ (((rs.map V.int).length : Nat) : Int) := by omega
      have hrb : (((rs.map V.int).length : Nat) : Int) < bigB := by
        have e : (62 : Int) < bigB := by decide
        omega
      have hfl : (fs.map V.int).length = fs.length := List.length_map ..
      walk_at "cg"
      rename_i d' H5 d0' d1' T5 k5
      refine r_pop (by walk_at "cg h") d0' (by omega) (by omega) fun y H6 ey e6 k6 => ?_
      rw [List.getElem?_map] at ey
      cases hy : rs[d'.toNat]? with
      | none =>
        rw [hy] at ey
        cases ey
      | some y' =>
        rw [hy] at ey
        cases ey
        have E6 : H6 l2 = some (.lst (fs.map V.int)) := Kp.get1 k6 n12.symm (by walk_at "cg h")
        walk_at "cg"
        rename_i H7 e7 k7
        refine ⟨rs.eraseIdx d'.toNat, fs ++ [y'], _, rfl, by walk_at "cg h", by walk_at "cg kp", ?_, by rw [e7, List.map_append]; rfl, some_step pm hy, by simp [hn]⟩
        rw [← erase_map]
        exact Kp.get1 k7 n12 e6
    · clear T3 K3 E1 E2
      rintro σ' H4 ⟨rs, fs, x5, rfl, T4, k4, e1, e2, pm, hn⟩
      walk_at "cg"
      have tot := pm.length_eq
      rw [List.length_append, rgI_len] at tot
      have nd : (fs ++ rs).Nodup := pm.nodup_iff.mpr ((rgI_asc 0 m).imp fun {a b} h => by omega)
      refine q _ fs _ (by assumption) ⟨(List.nodup_append.mp nd).1, fun u hu => ?_⟩ (by omega) (by omega) (by walk_at "cg h") (by walk_at "cg kp")
      have hm := pm.mem_iff.mp (List.mem_append_left rs hu)
      rw [rgI_mem] at hm
      omega

theorem ok_law_body {f : Addr} {fd : FuncData} (F : Fun K "_law_body" "_law_body" s_law_body f fd) (B : Bi K mg) (D_law_draw : Is P w K mg base CX0 1 "_law_draw" ["_law_tape_here", "_law_many"] spDraw) (D_law_literal : Is P w K mg base CX0 2 "_law_literal" ["_law_tape_here", "_law_many"] (spLawLiteral K)) (D_law_terms : Is P w K mg base CX0 2 "_law_terms" ["_law_tape_here", "_law_many"] (spLawTerms K)) (D_law_some : Is P w K mg base CX0 2 "_law_some" ["_law_tape_here", "_law_many", "_law_least_here"] (spLawSome K)) : FnOk P w K mg base CX0 3 f fd ["_law_tape_here", "_law_many"] (spLawBody K) := by
  have nd := sc_law_body.nd
  refine F.ok sc_law_body ?len (fun cdv A outer s H vs Q E hr h => ?body)
  case len =>
    rintro vs H Q E ⟨t, c, m, rfl, _⟩
    rfl
  case body =>
    obtain ⟨t, c, m, rfl, T, m0, m1, q⟩ := h
    refine ⟨_, (pss_cons (ps_set (i := 2) nd rfl (Or.inl rfl) (pe_is D_law_draw (hr.mono (by decide)) rfl pass0 (pa_cons (pv 0) (pa_cons pe_int pa_nil))))
      (pss_cons (ps_set (i := 3) nd rfl (Or.inl rfl) (pe_ix (ixL K) (pe_lst (pa_cons pe_str (pa_cons pe_str (pa_cons pe_str pa_nil)))) (pe_is D_law_draw (hr.mono (by decide)) rfl pass0 (pa_cons (pv 0) (pa_cons pe_int pa_nil))) (fun _ _ => rfl)))
      (pss_cons (ps_if (pt_cmpR op_eq (pv 2) pe_int (nomark _))
      (pss_cons (ps_set (i := 4) nd rfl (Or.inl rfl) (pe_lst pa_nil))
      (pss_cons (ps_for PassesOwn.never rfl (pi_range1 rfl B.n_range (pa_cons (pe_op op_add pe_int (pe_is D_law_draw (hr.mono (by decide)) rfl pass0 (pa_cons (pv 0) (pa_cons pe_int pa_nil)))) pa_nil)) (pg_name (i := 5) nd rfl (Or.inl rfl))
      (pss_cons (ps_set (i := 6) nd rfl (Or.inl rfl) (pe_is D_law_literal (hr.mono (by decide)) rfl pass0 (pa_cons (pv 0) (pa_cons (pv 1) pa_nil))))
      (pss_one (ps_if (pt_cmpR (notInDL K hr) (pv 6) (pv 4) rfl)
      (pss_one (ps_expr (pe_bm PySem.F.plainAttrs_list PySem.F.slot_list_append PySem.F.type_list_append mt_append (pv 4) (pa_cons (pv 6) pa_nil))))
      pss_nil))))
      (pss_one (ps_ret (pe_tup (pa_cons pe_str (pa_cons (pe_callTy (cgTuple K) (by rfl) B.n_tuple (by decide +kernel) (pa_cons (pv 4) pa_nil)) pa_nil)))))))
      pss_nil)
      (pss_cons (ps_if (pt_cmpR op_eq (pv 2) pe_int (nomark _))
      (pss_cons (ps_set (i := 6) nd rfl (Or.inl rfl) (pe_is D_law_literal (hr.mono (by decide)) rfl pass0 (pa_cons (pv 0) (pa_cons (pv 1) pa_nil))))
      (pss_one (ps_ret (pe_tup (pa_cons pe_str (pa_cons (pv 6) (pa_cons (pe_is D_law_terms (hr.mono (by decide)) rfl pass0 (pa_cons (pv 0) (pa_cons (pv 1) pa_nil))) (pa_cons (pv 3) (pa_cons (pe_op op_sub (pe_is D_law_draw (hr.mono (by decide)) rfl pass0 (pa_cons (pv 0) (pa_cons pe_int pa_nil))) pe_int) pa_nil)))))))))
      pss_nil)
      (pss_cons (ps_if (PW.pt (pw_and (pt_cmpR op_eq (pv 2) pe_int (nomark _)) (pw_and1 (pt_cmpR op_gt (pv 1) pe_int (nomark _)))))
      (pss_one (ps_ret (pe_tup (pa_cons pe_str (pa_cons (pe_is D_law_some (hr.mono (by decide)) rfl pass0 (pa_cons (pv 0) (pa_cons (pv 1) (pa_cons pe_int pa_nil)))) pa_nil)))))
      pss_nil)
      (pss_cons (ps_if (pt_cmpR op_eq (pv 2) pe_int (nomark _))
      (pss_cons (ps_set (i := 7) nd rfl (Or.inl rfl) (pe_slice (slA K) (pe_is D_law_some (hr.mono (by decide)) rfl pass0 (pa_cons (pv 0) (pa_cons (pv 1) (pa_cons pe_int pa_nil)))) po_none (po_some pe_int)))
      (pss_cons (ps_set (i := 8) nd rfl (Or.inl rfl) (pe_lst pa_nil))
      (pss_cons (ps_for PassesOwn.never rfl (pi_range1 rfl B.n_range (pa_cons (pe_op op_add pe_int (pe_is D_law_draw (hr.mono (by decide)) rfl pass0 (pa_cons (pv 0) (pa_cons pe_int pa_nil)))) pa_nil)) (pg_name (i := 5) nd rfl (Or.inl rfl))
      (pss_one (ps_expr (pe_bm PySem.F.plainAttrs_list PySem.F.slot_list_append PySem.F.type_list_append mt_append (pv 8) (pa_cons (pe_callTy (cgTuple K) (by rfl) B.n_tuple (by decide +kernel) (pa_cons (by exact pe_lc (own := [("_law_v", 10)]) (g := (gName 10)) (tt := tYes) rfl nd (pi_tup (pv 7)) (blkOk_by (N := ["_law_tape_here", "_law_many", "_law_kind", "_law_relation", "_law_literals", "_law_k", "_law_literal_here", "_law_numbers", "_law_rows", "_law_entries", "_law_v"]) (sc := defScope s_law_body) (by decide +kernel)) (fun _ _ _ _ _ => (pg_name (i := 10) nd rfl (Or.inl rfl))) (fun _ _ _ _ _ => pts_nil) (fun _ _ _ _ _ => (pe_op op_sub (pe_is D_law_draw (hr.mono (by decide)) rfl pass0 (pa_cons (pv 0) (pa_cons pe_int pa_nil))) pe_int))) pa_nil)) pa_nil)))))
      (pss_one (ps_ret (pe_tup (pa_cons pe_str (pa_cons (pv 7) (pa_cons (pe_callTy (cgTuple K) (by rfl) B.n_tuple (by decide +kernel) (pa_cons (pv 8) pa_nil)) pa_nil)))))))))
      pss_nil)
      (pss_cons (ps_if (pt_cmpR op_eq (pv 2) pe_int (nomark _))
      (pss_cons (ps_setLc (i := 9) (own := [("_law_k", 5)]) (g := (gName 5)) (tt := tYes) rfl nd rfl rfl (sw_true rfl rfl rfl (by decide +kernel)) (pi_range1 rfl B.n_range (pa_cons (pe_op op_add pe_int (pe_is D_law_draw (hr.mono (by decide)) rfl pass0 (pa_cons (pv 0) (pa_cons pe_int pa_nil)))) pa_nil)) (blkOk_by (N := ["_law_tape_here", "_law_many", "_law_kind", "_law_relation", "_law_literals", "_law_k", "_law_literal_here", "_law_numbers", "_law_rows", "_law_entries", "_law_v"]) (sc := defScope s_law_body) (by decide +kernel)) (fun _ _ _ _ _ => (pg_name (i := 5) nd rfl (Or.inl rfl))) (fun _ _ _ _ _ => pts_nil) (fun _ _ _ _ _ => (pe_op op_sub (pe_is D_law_draw (hr.mono (by decide)) rfl pass0 (pa_cons (pv 0) (pa_cons pe_int pa_nil))) pe_int)))
      (pss_one (ps_ret (pe_tup (pa_cons pe_str (pa_cons (pe_is D_law_draw (hr.mono (by decide)) rfl pass0 (pa_cons (pv 0) (pa_cons (pv 1) pa_nil))) (pa_cons (pe_callTy (cgTuple K) (by rfl) B.n_tuple (by decide +kernel) (pa_cons (pv 9) pa_nil)) (pa_cons (pe_is D_law_draw (hr.mono (by decide)) rfl pass0 (pa_cons (pv 0) (pa_cons (pv 1) pa_nil))) pa_nil))))))))
      pss_nil)
      (pss_cons (ps_if (pt_cmpR op_eq (pv 2) pe_int (nomark _))
      (pss_one (ps_ret (pe_tup (pa_cons pe_str (pa_cons (pe_is D_law_draw (hr.mono (by decide)) rfl pass0 (pa_cons (pv 0) (pa_cons (pv 1) pa_nil))) (pa_cons (pe_is D_law_draw (hr.mono (by decide)) rfl pass0 (pa_cons (pv 0) (pa_cons (pv 1) pa_nil))) (pa_cons (pe_is D_law_draw (hr.mono (by decide)) rfl pass0 (pa_cons (pv 0) (pa_cons (pv 1) pa_nil))) pa_nil)))))))
      pss_nil)
      (pss_one (ps_ret (pe_tup (pa_cons pe_str (pa_cons (pe_is D_law_terms (hr.mono (by decide)) rfl pass0 (pa_cons (pv 0) (pa_cons (pv 1) pa_nil))) (pa_cons (pv 3) (pa_cons (pe_op op_sub (pe_is D_law_draw (hr.mono (by decide)) rfl pass0 (pa_cons (pv 0) (pa_cons pe_int pa_nil))) pe_int) pa_nil))))))))))))))), ?_⟩
    try dsimp only [L2.cxOf, L2.Cx.nox, L2.Cx.wish]
    rw [st_law_body]
    have mb : m < bigB := by
      have e : (60 : Int) < bigB := by decide
      omega
    walk_at "cg"
    rename_i dk Hk dk0 dk1 Tk kk pl H1 hpl epl kl dr H2 dr0 dr1 T2 k2
    refine ix_rel3 (by walk_at "cg h") dr0 dr1 fun r hr3 => ?_
    have K2 : Kp [t] H H2 := Kp.tr1 k2 (Kp.tr0 kl kk)
    clear kk epl kl k2 Tk T
    walk_at "cg"
    refine if_S (fun c2 => ?_) (fun c2 => ?_)
    · -- any
      walk_at "cg"
      rename_i l H3 hl el kl d H4 d0 d1 T4 kd
      have nlt : l ≠ t := by walk_at "cg ne"
      have nlc : l ≠ c := by walk_at "cg ne"
      have fl : H l = none := by
        refine K2.free hl fun b hb => ?_
        rw [List.mem_singleton] at hb
        subst hb
        exact T2.it
      have K4 : Kp [t] H H4 := Kp.tr1 kd (Kp.tr0 kl K2)
      have E4 : H4 l = some (.lst []) := Kp.get1 kd nlt el
      clear K2 T2 kl el kd
      refine r_forR (fun i σ' H' => ∃ (ls : List Lit) (refs : List V) (x5 x6 : Option V), σ' = [some (.ref t), some (.int m), some (.int dk), some (.str r.s), some (.ref l), x5, x6, none, none, none, none] ∧ Tp t c H' ∧ Kp [t] H H' ∧ H' l = some (.lst refs) ∧ ImAll K H' refs (ls.map Lit.d) ∧
        ls.Nodup ∧ (∀ x ∈ ls, litFit m x) ∧ ls.length ≤ i ∧ (0 < i → 0 < ls.length)) ⟨[], [], none, none, rfl, T4, K4, E4, .nil, List.nodup_nil, (fun z hz => by cases hz), Nat.le_refl _, fun h => absurd h (by decide)⟩ ?_ ?_
      · clear T4 K4 E4
        rintro i σ' H5 hi ⟨ls, refs, x5, x6, rfl, T5, k5, e5, A5, nd, ok, hn, h1⟩
        have hrl := mapLenP A5
        walk_at "cg"
        refine ⟨t, c, m, rfl, T5, by omega, by omega, fun p x H6 L6 f6 T6 k6 => ?_⟩
        have e6 := Kp.get1 k6 nlt e5
        have A6 := k6.imAll A5
        walk_at "cg"
        refine ⟨x.d, ls.map Lit.d, Im.dp (lit_mk L6), .lst (SqL.of e6) A6.dp, (Lit.shp x).ok, (Shp.list (n := 1) fun d hd => ?_).ok, ?_⟩
        · obtain ⟨z, _, rfl⟩ := List.mem_map.mp hd
          exact Lit.shp z
        rw [any_in Lit.eqv]
        walk_at "cg"
        refine if_NS (fun hm => ?_) (fun hm => ?_)
        · walk_at "cg"
          rename_i H7 e7 k7
          refine ⟨ls ++ [x], refs ++ [.ref p], _, _, rfl, by walk_at "cg h", by walk_at "cg kp", e7, ?_, ?_, fun z hz => ?_, by simp; omega, fun _ => by simp⟩
          · rw [List.map_append]
            exact (k7.imAll A6).snoc (k7.im (lit_mk L6))
          · rw [List.nodup_append]
            exact ⟨nd, by simp, fun a ha b hb => by rw [List.mem_singleton] at hb; subst hb; exact fun e => hm (e ▸ ha)⟩
          · rcases List.mem_append.mp hz with h | h
            · exact ok z h
            · rw [List.mem_singleton] at h
              subst h
              exact f6
        · walk_at "cg"
          exact ⟨ls, refs, _, _, rfl, by walk_at "cg h", by walk_at "cg kp", e6, A6, nd, ok, by omega, fun _ => List.length_pos_of_mem hm⟩
      · clear T4 K4 E4
        rintro σ' H5 ⟨ls, refs, x5, x6, rfl, T5, k5, e5, A5, nd, ok, hn, h1⟩
        have h1' := h1 (by omega)
        walk_at "cg"
        exact q _ (.any ls) _ (.tup (by assumption) (.cons (.str _) (.cons (.tup (by walk_at "cg h") (by walk_at "cg h")) .nil))) ⟨⟨h1', by omega⟩, nd, ok⟩ (by walk_at "cg h") (by walk_at "cg kp")
    · walk_at "cg"
      refine if_S (fun c3 => ?_) (fun c3 => ?_)
      · -- when
        walk_at "cg"
        refine ⟨t, c, m, rfl, by walk_at "cg h", by omega, by omega, fun p x H6 L6 f6 T6 k6 => ?_⟩
        walk_at "cg"
        refine ⟨t, c, m, rfl, by walk_at "cg h", by omega, by omega, fun p2 ts H7 I7 f7 T7 k7 => ?_⟩
        walk_at "cg"
        exact q _ (.when x ts r _) _ (.tup (by assumption) (.cons (.str _) (.cons (lit_mk (by walk_at "cg h")) (.cons (by walk_at "cg h") (.cons (.str _) (.cons (.int _) .nil)))))) ⟨f6, f7.fit (by omega), hr3, by omega, by omega⟩ (by walk_at "cg h") (by walk_at "cg kp")
      · walk_at "cg"
        refine if_S (fun c4 => ?_) (fun c4 => ?_)
        · walk_at "cg"
          refine if_S (fun c5 => ?_) (fun c5 => ?_)
          · walk_at "cg"
            refine ⟨t, c, m, 2, rfl, by walk_at "cg h", by omega, by omega, by omega, fun p us H6 S6 f6 u0 u1 T6 k6 => ?_⟩
            walk_at "cg"
            exact q _ (.diff us) _ (.tup (by assumption) (.cons (.str _) (.cons (intsT_im (by walk_at "cg h")) .nil))) ⟨⟨by omega, by omega⟩, f6⟩ (by walk_at "cg h") (by walk_at "cg kp")
          · -- row, one unknown
            walk_at "cg"
            refine ⟨t, c, m, rfl, by walk_at "cg h", by omega, by omega, fun p2 ts H7 I7 f7 T7 k7 => ?_⟩
            walk_at "cg"
            exact q _ (.row ts r _) _ (.tup (by assumption) (.cons (.str _) (.cons (by walk_at "cg h") (.cons (.str _) (.cons (.int _) .nil))))) ⟨f7.fit (by omega), hr3, by omega, by omega⟩ (by walk_at "cg h") (by walk_at "cg kp")
        · walk_at "cg"
          refine if_S (fun c5 => ?_) (fun c5 => ?_)
          · -- table
            walk_at "cg"
            refine ⟨t, c, m, 1, rfl, by walk_at "cg h", by omega, by omega, by omega, fun p us H6 S6 f6 u0 u1 T6 k6 => ?_⟩
            walk_at "cg"
            refine r_slA (n := 3) S6 fun p3 H7 S7 k7 => ?_
            have S7' : SqT K H7 p3 ((us.take 3).map V.int) := by rw [List.map_take]; exact S7
            have f7 : numFit m (us.take 3) := ⟨f6.1.sublist (List.take_sublist ..), fun u hu => f6.2 u (List.mem_of_mem_take hu)⟩
            have l7 : 1 ≤ (us.take 3).length ∧ (us.take 3).length ≤ 3 := by rw [List.length_take]; omega
            generalize us.take 3 = ws at S7' f7 l7
            have T7 : Tp t c H7 := T6.kp0 k7
            have K7 : Kp [t] H H7 := Kp.tr0 k7 (Kp.tr1 k6 K2)
            clear S7 k7 S6 k6 T6 K2 T2
            walk_at "cg"
            rename_i l H3 hl el kl d H4 d0 d1 T4 kd
            have nlt : l ≠ t := by walk_at "cg ne"
            have nlc : l ≠ c := by walk_at "cg ne"
            have fl : H l = none := by
              refine K7.free hl fun b hb => ?_
              rw [List.mem_singleton] at hb
              subst hb
              exact T7.it
            have K4 : Kp [t] H H4 := Kp.tr1 kd (Kp.tr0 kl K7)
            have E4 : H4 l = some (.lst []) := Kp.get1 kd nlt el
            have S4 : SqT K H4 p3 (ws.map V.int) := kd.tup (kl.tup S7')
            clear K7 T7 kl el kd S7'
            refine r_forR (fun i σ' H' => ∃ (rows : List (List Int)) (refs : List V) (x5 x6 x9 x10 x11 : Option V), σ' = [some (.ref t), some (.int m), some (.int dk), some (.str r.s), x5, x6, x9, some (.ref p3), some (.ref l), x10, x11] ∧ Tp t c H' ∧ Kp [t] H H' ∧ SqT K H' p3 (ws.map V.int) ∧ H' l = some (.lst refs) ∧ ImAll K H' refs (rows.map intsD) ∧
              (∀ x ∈ rows, x.length = ws.length ∧ entFit x) ∧ rows.length = i) ⟨[], [], _, _, _, _, _, rfl, T4, K4, S4, E4, .nil, (fun z hz => by cases hz), rfl⟩ ?_ ?_
            · clear T4 K4 E4 S4
              rintro i σ' H5 hi ⟨rows, refs, x5, x6, x9, x10, x11, rfl, T5, k5, S5, e5, A5, ok, hn⟩
              have hrl := mapLenP A5
              walk_at "cg"
              refine lcT_d S5 (imInts ws) PyData.int (fun _ z => -1000 ≤ z ∧ z ≤ 1000) T5 (by omega) (fun j b x H' R R' hb hx T' k' q' => ?_) (fun D H6 acc as hD eD hl2 hP hA T6 k6 => ?_)
              · walk_at "cg"
                exact q' _ _ _ (by omega) (.int _) (by walk_at "cg h") (by walk_at "cg kp")
              · have e6 := Kp.get1 k6 nlt e5
                have A6 := k6.imAll A5
                rw [hA.ints] at eD
                walk_at "cg"
                rename_i p9 H9 hp9 s9 k9 H10 e10 k10
                refine ⟨rows ++ [as], refs ++ [.ref p9], _, _, _, _, _, rfl, by walk_at "cg h", by walk_at "cg kp", by walk_at "cg h", e10, ?_, fun z hz => ?_, by simp [hn]⟩
                · rw [List.map_append]
                  exact (k10.imAll (k9.imAll A6)).snoc (k10.im (intsT_im s9))
                · rcases List.mem_append.mp hz with h | h
                  · exact ok z h
                  · rw [List.mem_singleton] at h
                    subst h
                    refine ⟨hl2, fun e he => ?_⟩
                    obtain ⟨j, hj⟩ := List.getElem?_of_mem he
                    obtain ⟨_, _, g⟩ := hP j e hj
                    exact g
            · clear T4 K4 E4 S4
              rintro σ' H5 ⟨rows, refs, x5, x6, x9, x10, x11, rfl, T5, k5, S5, e5, A5, ok, hn⟩
              walk_at "cg"
              exact q _ (.table ws rows) _ (.tup (by assumption) (.cons (.str _) (.cons (intsT_im (by walk_at "cg h")) (.cons (.tup (by walk_at "cg h") (by walk_at "cg h")) .nil)))) ⟨⟨⟨l7.1, by omega⟩, f7⟩, ⟨by omega, by omega⟩, ok⟩ (by walk_at "cg h") (by walk_at "cg kp")
          · walk_at "cg"
            refine if_S (fun c6 => ?_) (fun c6 => ?_)
            · -- element
              walk_at "cg"
              rename_i d H4 d0 d1 T4 kd
              refine lcR_d (K := K) PyData.int (fun _ z => -1000 ≤ z ∧ z ≤ 1000) T4 (by omega) (fun j H' R R' hj T' k' q' => ?_) (fun D H6 acc as hD eD hl2 hP hA T6 k6 => ?_)
              · walk_at "cg"
                exact q' _ _ _ (by omega) (.int _) (by walk_at "cg h") (by walk_at "cg kp")
              · rw [hA.ints] at eD
                walk_at "cg"
                refine q _ (.elem _ as _) _ (.tup (by assumption) (.cons (.str _) (.cons (.int _) (.cons (intsT_im (by walk_at "cg h")) (.cons (.int _) .nil))))) ⟨⟨⟨by assumption, by assumption⟩, by assumption, by assumption⟩, ⟨by omega, by omega⟩, fun e he => ?_⟩ (by walk_at "cg h") (by walk_at "cg kp")
                obtain ⟨j, hj⟩ := List.getElem?_of_mem he
                exact hP j e hj
            · walk_at "cg"
              refine if_S (fun c7 => ?_) (fun c7 => ?_)
              · -- times
                walk_at "cg"
                exact q _ (.times _ _ _) _ (.tup (by assumption) (.cons (.str _) (.cons (.int _) (.cons (.int _) (.cons (.int _) .nil))))) ⟨⟨by assumption, by assumption⟩, ⟨by assumption, by assumption⟩, by assumption, by assumption⟩ (by walk_at "cg h") (by walk_at "cg kp")
              · -- row
                walk_at "cg"
                refine ⟨t, c, m, rfl, by walk_at "cg h", by omega, by omega, fun p2 ts H7 I7 f7 T7 k7 => ?_⟩
                walk_at "cg"
                exact q _ (.row ts r _) _ (.tup (by assumption) (.cons (.str _) (.cons (by walk_at "cg h") (.cons (.str _) (.cons (.int _) .nil))))) ⟨f7.fit (by omega), hr3, by omega, by omega⟩ (by walk_at "cg h") (by walk_at "cg kp")

end
section
variable {P : Program} {w : World} {K : PySem.W.Frag} {mg : Str → Option Value} {base : Heap}
theorem ok_law_rel {f : Addr} {fd : FuncData} (F : Fun K "_law_rel" "_law_rel" s_law_rel f fd) (B : Bi K mg)  : FnOk P w K mg base CX0 1 f fd ["_law_relation", "_law_left", "_law_right"] spRel := by
  have nd := sc_law_rel.nd
  refine F.ok sc_law_rel ?len (fun cdv A outer s H vs Q E hr h => ?body)
  case len =>
    rintro vs H Q E ⟨r, a, b, rfl, _⟩
    rfl
  case body =>
    obtain ⟨r, a, b, rfl, q⟩ := h
    refine ⟨_, (pss_cons (ps_if (pt_cmpR op_eq (pv 0) pe_str (nomark _))
      (pss_one (ps_ret (pe_cmpR op_le (pv 1) (pv 2) (nomark _))))
      pss_nil)
      (pss_cons (ps_if (pt_cmpR op_eq (pv 0) pe_str (nomark _))
      (pss_one (ps_ret (pe_cmpR op_ge (pv 1) (pv 2) (nomark _))))
      pss_nil)
      (pss_one (ps_ret (pe_cmpR op_eq (pe_cmpR op_eq (pv 1) (pv 2) (nomark _)) (pe_cmpR op_eq (pv 0) pe_str (nomark _)) (nomark _)))))), ?_⟩
    try dsimp only [L2.cxOf, L2.Cx.nox, L2.Cx.wish]
    rw [st_law_rel]
    have e : Rel.h r a b = (match r with | .le => decide (a ≤ b) | .ge => decide (b ≤ a) | .eq => decide (decide (a = b) = true) | .ne => decide (decide (a = b) = false)) := by
      cases r <;> simp only [Rel.h] <;> rw [Bool.eq_iff_iff] <;> simp
    rw [e] at q
    cases r
    all_goals
      walk_at "cg"
      exact q

theorem ok_law_world {f : Addr} {fd : FuncData} (F : Fun K "_law_world" "_law_world" s_law_world f fd) (B : Bi K mg) (D_law_terms : Is P w K mg base CX0 2 "_law_terms" ["_law_tape_here", "_law_many"] (spLawTerms K)) (D_law_draw : Is P w K mg base CX0 1 "_law_draw" ["_law_tape_here", "_law_many"] spDraw) (D_law_body : Is P w K mg base CX0 3 "_law_body" ["_law_tape_here", "_law_many"] (spLawBody K)) : FnOk P w K mg base CX0 4 f fd ["_law_tape_here", "_law_most", "_law_width", "_law_bodies"] (spWorld K) := by
  have nd := sc_law_world.nd
  refine F.ok sc_law_world ?len (fun cdv A outer s H vs Q E hr h => ?body)
  case len =>
    rintro vs H Q E ⟨t, c, most, width, bodies, rfl, _⟩
    rfl
  case body =>
    obtain ⟨t, c, most, width, bodies, rfl, T, m0, m1, w0, w1, b0, b1, q⟩ := h
    refine ⟨_, (pss_cons (ps_set (i := 4) nd rfl (Or.inl rfl) (pe_lst pa_nil))
      (pss_cons (ps_for PassesOwn.never rfl (pi_range1 rfl B.n_range (pa_cons (pe_op op_add pe_int (pe_is D_law_draw (hr.mono (by decide)) rfl pass0 (pa_cons (pv 0) (pa_cons (pv 1) pa_nil)))) pa_nil)) (pg_name (i := 5) nd rfl (Or.inl rfl))
      (pss_cons (ps_set (i := 6) nd rfl (Or.inl rfl) (pe_op op_sub (pe_is D_law_draw (hr.mono (by decide)) rfl pass0 (pa_cons (pv 0) (pa_cons pe_int pa_nil))) pe_int))
      (pss_one (ps_expr (pe_bm PySem.F.plainAttrs_list PySem.F.slot_list_append PySem.F.type_list_append mt_append (pv 4) (pa_cons (pe_tup (pa_cons (pe_ix (ixL K) (pe_lst (pa_cons pe_str (pa_cons pe_str (pa_cons pe_str (pa_cons pe_str (pa_cons pe_str pa_nil)))))) (pv 5) (fun _ _ => rfl)) (pa_cons (pv 6) (pa_cons (pe_op op_add (pv 6) (pe_is D_law_draw (hr.mono (by decide)) rfl pass0 (pa_cons (pv 0) (pa_cons (pv 2) pa_nil)))) pa_nil)))) pa_nil))))))
      (pss_cons (ps_set (i := 7) nd rfl (Or.inr rfl) (pe_callB (cgLen K) (by rfl) B.n_len PySem.boot_len (pa_cons (pv 4) pa_nil)))
      (pss_cons (ps_setLc (i := 8) (own := [("_law_k", 10)]) (g := (gName 10)) (tt := tYes) rfl nd rfl rfl (sw_true rfl rfl rfl (by decide +kernel)) (pi_range1 rfl B.n_range (pa_cons (pe_is D_law_draw (hr.mono (by decide)) rfl pass0 (pa_cons (pv 0) (pa_cons (pe_op op_add (pv 3) pe_int) pa_nil))) pa_nil)) (blkOk_by (N := ["_law_tape_here", "_law_most", "_law_width", "_law_bodies", "_law_unknowns", "_law_v", "_law_low", "_law_many", "_law_found", "_law_goal", "_law_k"]) (sc := defScope s_law_world) (by decide +kernel)) (fun _ _ _ _ _ => (pg_name (i := 10) nd rfl (Or.inl rfl))) (fun _ _ _ _ _ => pts_nil) (fun _ _ _ _ _ => (pe_tup (pa_cons (pe_op cg_addS pe_str (pe_callTy cg_strI (by rfl) B.n_str (by decide +kernel) (pa_cons (pv 10) pa_nil))) (pa_cons (pe_is D_law_body (hr.mono (by decide)) rfl pass0 (pa_cons (pv 0) (pa_cons (pv 7) pa_nil))) pa_nil)))))
      (pss_cons (ps_set (i := 9) nd rfl (Or.inl rfl) (pe_tup (pa_cons (pe_ix (ixL K) (pe_lst (pa_cons pe_str (pa_cons pe_str pa_nil))) (pe_is D_law_draw (hr.mono (by decide)) rfl pass0 (pa_cons (pv 0) (pa_cons pe_int pa_nil))) (fun _ _ => rfl)) (pa_cons (pe_is D_law_terms (hr.mono (by decide)) rfl pass0 (pa_cons (pv 0) (pa_cons (pv 7) pa_nil))) (pa_cons (pe_op op_sub (pe_is D_law_draw (hr.mono (by decide)) rfl pass0 (pa_cons (pv 0) (pa_cons pe_int pa_nil))) pe_int) pa_nil)))))
      (pss_cons (ps_if (pt_cmpR op_eq (pe_is D_law_draw (hr.mono (by decide)) rfl pass0 (pa_cons (pv 0) (pa_cons pe_int pa_nil))) pe_int (nomark _))
      (pss_one (ps_set (i := 9) nd rfl (Or.inl rfl) (pe_tup (pa_cons pe_str (pa_cons (pe_tup pa_nil) (pa_cons pe_int pa_nil))))))
      pss_nil)
      (pss_one (ps_ret (pe_lst (pa_cons (pv 4) (pa_cons (pv 8) (pa_cons (pv 9) pa_nil)))))))))))), ?_⟩
    try dsimp only [L2.cxOf, L2.Cx.nox, L2.Cx.wish]
    rw [st_law_world]
    have bm : most < bigB := by
      have e : (1000 : Int) < bigB := by decide
      omega
    have bw : width < bigB := by
      have e : (1000 : Int) < bigB := by decide
      omega
    have bb : bodies + 1 < bigB := by
      have e : (1000 : Int) < bigB := by decide
      omega
    walk_at "cg"
    rename_i l H1 hl el kl d H2 d0 d1 T2 k2
    have nlt : l ≠ t := by walk_at "cg ne"
    have nlc : l ≠ c := by walk_at "cg ne"
    have e2 := Kp.get1 k2 nlt el
    have K2 : Kp [t] H H2 := by walk_at "cg kp"
    clear kl k2 el T
    refine r_forR (fun i σ' H' => ∃ (us : List (Str × Int × Int)) (refs : List V) (x5 x6 x7 x8 x9 x10 : Option V), σ' = [some (.ref t), some (.int most), some (.int width), some (.int bodies), some (.ref l), x5, x6, none, none, none, none] ∧ Tp t c H' ∧ Kp [t] H H' ∧ H' l = some (.lst refs) ∧ ImAll K H' refs (us.map unD) ∧
      us.length = i ∧ us.map (·.1) = (List.range i).map nmS ∧ ∀ u ∈ us, -2 ≤ u.2.1 ∧ u.2.1 ≤ 2 ∧ u.2.1 ≤ u.2.2 ∧ u.2.2 < u.2.1 + width) ⟨[], [], none, none, none, none, none, none, rfl, T2, K2, e2, .nil, rfl, rfl, fun u h => by cases h⟩ ?_ ?_
    · clear T2 K2 e2
      rintro i σ' H3 hi ⟨us, refs, x5, x6, x7, x8, x9, x10, rfl, T3, k3, e3, A3, hn, nm, ok⟩
      have hrl := mapLenP A3
      walk_at "cg"
      rename_i dl Hl dl0 dl1 Tl kl2 pl Hp hpl epl kpl
      refine ix_nm (i := i) (by walk_at "cg h") (by omega) ?_
      walk_at "cg"
      rename_i dw Hw dw0 dw1 Tw kw pt Ht hpt spt kpt Hf ef kf
      refine ⟨us ++ [(nmS i, dl - 2, dl - 2 + dw)], _, _, _, none, none, none, none, rfl, by walk_at "cg h", by walk_at "cg kp", by assumption, ?_, by simp [hn], ?_, fun u hu => ?_⟩
      · rw [List.map_append]
        exact ImAll.snoc (by walk_at "cg h") (.tup (by walk_at "cg h") (.cons (.str _) (.cons (.int _) (.cons (.int _) .nil))))
      · rw [List.map_append, nm, List.range_succ, List.map_append]
        rfl
      · rcases List.mem_append.mp hu with h | h
        · exact ok u h
        · rw [List.mem_singleton] at h
          subst h
          simp only
          omega
    · clear T2 K2 e2
      rintro σ' H3 ⟨us, refs, x5, x6, x7, x8, x9, x10, rfl, T3, k3, e3, A3, hn, nm, ok⟩
      have hrl := mapLenP A3
      have hl5 : 1 ≤ us.length ∧ (us.length : Int) ≤ most := by omega
      walk_at "cg"
      rename_i dn H4 dn0 dn1 T4 k4
      refine lcR_d (K := K) labD (fun i (a : Str × Body) => a.1 = labC (i : Int) ∧ a.2.fit us.length) T4 (by omega) (fun j H' R R' hj T' k' q' => ?_) (fun D H5 acc fs hD eD hfl hP hA T5 k5 => ?_)
      · have hj10 : (0 : Int) ≤ 0 + (j : Int) ∧ (0 : Int) + (j : Int) < 10 := by omega
        have lo := labC_ok hj10.1 hj10.2
        walk_at "cg"
        refine r_strI hj10.1 (by omega) ?_
        walk_at "cg"
        refine r_addS (by omega) ?_
        walk_at "cg"
        refine ⟨t, c, _, rfl, T', by omega, by omega, fun pb b H6 I6 fb T6 k6 => ?_⟩
        walk_at "cg"
        refine q' _ _ (labC (j : Int), b) ⟨rfl, by rw [← hrl]; exact fb⟩ ?_ (by walk_at "cg h") (by walk_at "cg kp")
        refine .tup (ds := [.str (labC (j : Int)), b.d]) (xs := [.str (labC (0 + (j : Int))), .ref pb]) (by assumption) ?_
        rw [Int.zero_add]
        exact .cons (.str _) (.cons (by walk_at "cg h") .nil)
      · have nDt : D ≠ t := by walk_at "cg ne"
        have nDc : D ≠ c := by walk_at "cg ne"
        have e5 := Kp.get1 k5 nlt (Kp.get1 k4 nlt e3)
        have A5 := k5.imAll (k4.imAll A3)
        have K5 : Kp [t] H H5 := Kp.tr1 k5 (Kp.tr1 k4 k3)
        have fl : H l = none := by assumption
        have fD : H D = none := (Kp.tr1 k4 k3).free hD fun b hb => by
          rw [List.mem_singleton] at hb
          subst hb
          exact T4.it
        clear k3 k4 k5 T3 T4 e3 A3
        have fin : ∀ (w pg : Addr) (g : Goal) (H9 : Hp), H w = none → w ≠ l ∧ w ≠ D → H9 w = some (.lst [.ref l, .ref D, .ref pg]) → Im K H9 (.ref pg) g.d → tmLaw us.length g.ts → -2 ≤ g.c → g.c ≤ 2 → Kp [t] H5 H9 → Tp t c H9 → Q (.ref w) H9 := fun w pg g H9 fw dw ew ig g1 g2 g3 k9 T9 => by
          refine q ⟨w, l, D⟩ ⟨us, fs, g⟩ H9 ⟨⟨pg, ew, ig⟩, ⟨_, Kp.get1 k9 nlt e5, k9.imAll A5⟩, ⟨_, Kp.get1 k9 nDt eD, k9.imAll hA⟩, dw⟩ ⟨hl5.1, by show us.length ≤ 60; omega, fun u hu => ?_, ?_, fun b hb => ?_, ?_, fun b hb => ?_, by show fs.length ≤ 200; omega, ⟨g1.fit (by omega), by show -1000000000 ≤ g.c; omega, by show g.c ≤ 1000000000; omega⟩⟩ ⟨hl5.2, fun u hu => ?_, by show (fs.length : Int) ≤ bodies; omega, ⟨g1, g2, g3⟩, fun b hb => ?_, fun u hu => ?_⟩ (fun x hx => ?_) T9 (Kp.tr1 k9 K5)
          · have o := ok u hu
            have hm : u.1 ∈ (List.range us.length).map nmS := by
              rw [hn, ← nm]
              exact List.mem_map.mpr ⟨u, hu, rfl⟩
            obtain ⟨i, hi, e⟩ := List.mem_map.mp hm
            rw [List.mem_range] at hi
            have n := nmS_ok i (by omega)
            rw [e] at n
            exact ⟨n.1, by omega, by omega, by omega, by omega⟩
          · show (us.map (·.1)).Nodup
            rw [nm, ← hn]
            exact nodup_map_range fun i hi j hj => nmS_inj i (by omega) j (by omega)
          · have hb : b ∈ fs := hb
            obtain ⟨j, hj⟩ := List.getElem?_of_mem hb
            have hjl := (List.getElem?_eq_some_iff.mp hj).1
            obtain ⟨e, _⟩ := hP j b hj
            have lo := labC_ok (k := (j : Int)) (by omega) (by omega)
            rw [e]
            exact ⟨lo.1, by omega⟩
          · show (fs.map (·.1)).Nodup
            refine List.pairwise_iff_getElem.mpr fun i j hi hj hij e => ?_
            rw [List.length_map] at hi hj
            rw [List.getElem_map, List.getElem_map] at e
            have a := (hP i _ (List.getElem?_eq_getElem hi)).1
            have b := (hP j _ (List.getElem?_eq_getElem hj)).1
            rw [a, b] at e
            have := labC_inj (by omega) (by omega) (by omega) (by omega) e
            omega
          · have hb : b ∈ fs := hb
            obtain ⟨j, hj⟩ := List.getElem?_of_mem hb
            exact (hP j b hj).2
          · have o := ok u hu
            exact ⟨o.1, o.2.1, o.2.2.2⟩
          · have hb : b ∈ fs := hb
            obtain ⟨j, hj⟩ := List.getElem?_of_mem hb
            have hjl := (List.getElem?_eq_some_iff.mp hj).1
            exact ⟨j, by omega, by omega, (hP j b hj).1⟩
          · have hm : u.1 ∈ (List.range us.length).map nmS := by
              rw [hn, ← nm]
              exact List.mem_map.mpr ⟨u, hu, rfl⟩
            obtain ⟨i, hi, e⟩ := List.mem_map.mp hm
            rw [List.mem_range] at hi
            exact ⟨i, by omega, e.symm⟩
          · simp only [WA.all, List.mem_cons, List.not_mem_nil, or_false] at hx
            rcases hx with rfl | rfl | rfl
            · exact fw
            · exact fl
            · exact fD
        walk_at "cg"
        refine ix_mm (by walk_at "cg h") (by assumption) (by assumption) fun mx => ?_
        walk_at "cg"
        refine ⟨t, c, _, rfl, by walk_at "cg h", by omega, by omega, fun pt ts H7 I7 f7 T7 k7 => ?_⟩
        rw [hrl] at f7
        walk_at "cg"
        rename_i d8 H8 d80 d81 T8 k8 pg H9 hpg sg k9 d10 H10 d100 d101 T10 k10
        refine if_S (fun c0 => ?_) (fun c0 => ?_)
        · walk_at "cg"
          rename_i w H13 hw ew k13
          exact fin w _ goal0 H13 (by walk_at "cg fr") ⟨by walk_at "cg ne", by walk_at "cg ne"⟩ ew (.tup (by walk_at "cg h") (.cons (.str _) (.cons (.tup (by walk_at "cg h") .nil) (.cons (.int _) .nil)))) ⟨(fun z hz => by cases hz), List.Pairwise.nil, by show ((0 : Nat) : Int) ≤ _; omega⟩ (by decide) (by decide) (by walk_at "cg kp") (by walk_at "cg h")
        · walk_at "cg"
          rename_i w H13 hw ew k13
          exact fin w _ ⟨mx, ts, d8 - 2⟩ H13 (by walk_at "cg fr") ⟨by walk_at "cg ne", by walk_at "cg ne"⟩ ew (.tup (by walk_at "cg h") (.cons (.str _) (.cons (by walk_at "cg h") (.cons (.int _) .nil)))) f7 (by show -2 ≤ d8 - 2; omega) (by show d8 - 2 ≤ 2; omega) (by walk_at "cg kp") (by walk_at "cg h")
end
/-! ### defs that run where no repr is under way; repr of data -/
structure FnOkG (P : Program) (w : World) (K : PySem.W.Frag) (mg : Str → Option Value) (base : Heap) (CX : CXT) (k : Nat) (f : Addr) (fd : FuncData) (ps : List Str) (sp : Sp) : Prop where
  len : ∀ vs H Q E, sp vs H Q E → vs.length = ps.length
  run : ∀ (A : Around) (outer : List Env) (s : Shared) (H : Hp) (args : Args) (us : List Value) (vs : List V) (Q : VK) (E : XK), A.guards = some [] → Room k A → Env0 P w K mg base A outer s H → BindsTo s fd args (ps.zip us) → Vals vs us → sp vs H Q E →
    codeAny (model P w) A (.call (.ref f) args) (CR CX outer P w H s Q E) s
theorem FnOk.g {P : Program} {w : World} {K : PySem.W.Frag} {mg : Str → Option Value} {base : Heap} {CX : CXT} {k : Nat} {f : Addr} {fd : FuncData} {ps : List Str} {sp : Sp} (F : FnOk P w K mg base CX k f fd ps sp) : FnOkG P w K mg base CX k f fd ps sp :=
  ⟨F.len, fun A outer s H args us vs Q E _ => F.run A outer s H args us vs Q E⟩
section
open PySem.Spec PyProof.Rows
variable {P : Program} {w : World} {K : PySem.W.Frag} {mg : Str → Option Value} {base : Heap}
theorem fnG_of {CX : CXT} {k : Nat} {f : Addr} {name qual : Str} {params : Arguments} {body : List Stmt} {scope : Scope} {dV kV doc pm cdv ct oc : Value} {an od : Option Addr} {osl : Array (Option Value)} {N ps : List Str} {sp : Sp}
    (fl : K.lookup f = some ⟨oc, od, .func (PySem.W.fnOf name qual params body scope dV kV doc pm an cdv ct), osl⟩) (fc : PySem.W.codeIn K cdv qual = true) (S : FnScope N ps scope)
    (hlen : ∀ vs H Q E, sp vs H Q E → vs.length = ps.length)
    (bd : ∀ (A : Around) (outer : List Env) (s : Shared) (H : Hp) (vs : List V) (Q : VK) (E : XK), A.guards = some [] → Room k (A.deeper (envOfC qual scope s.heap.objs.size f cdv)) → sp vs H Q E →
      ∃ t, PSs (cxOf CX P w K mg base N qual scope f cdv A outer s H E) body t ∧ t { nx := fun _ H' => Q .non H', rt := Q } (start N vs) H) :
    FnOkG P w K mg base CX (k + 1) f (PySem.W.fnOf name qual params body scope dV kV doc pm an cdv ct) ps sp := by
  refine ⟨hlen, fun A outer s H args us vs Q E gg room env0 bnd rv want => ?_⟩
  have ln := hlen _ _ _ _ want
  have inK : K.In s.heap := env0.mod.kin.keeps fun c u z => (env0.bs c u z).1
  have nolim : s.heap.NoLimit := env0.mod.nolimit.keeps fun c u z => (env0.bs c u z).1
  have kinds : ∀ y ∈ ps.zip us, scope.names.lookup y.1 = some .local ∨ (scope.names.lookup y.1 = some .cell ∧ ((cellsFrom (s.heap.objs.size + 1) scope.names []).lookup y.1).isSome = true) := fun ⟨n, v⟩ hm => by
    rcases S.par n (List.of_mem_zip hm).1 with z | z
    · exact .inl z
    · exact .inr ⟨z, PySem.W.cellsFrom_some _ _ _ (.inl z)⟩
  refine codeAny_call_function room.depth (inK _ _ fl) rfl S.co S.gen rfl (PySem.W.codeRec_of inK fc) (bnd _ _ _ _ ?_)
  refine wpAny_newFunctionEnv_cells S.kind kinds fun env en s1 nw => ?_
  subst en
  refine ⟨nolim.keeps nw.toInCall.keep, codeAny_func ?_⟩
  obtain ⟨t, pt, rd⟩ := bd A outer s H vs Q E gg (room.deeper _) want
  have I : Inv (cxOf CX P w K mg base N qual scope f cdv A outer s H E) [] (start N vs) H s1 := inv_start S room.hd env0 ln rv nw
  refine wpAny_mono (pt.run [] s1 (start N vs) H _ I rd) (fun fin s2 hs => ?_) fun e s2 hs => hs
  have out : ∀ {σ2 : L2.St} {H2 : Hp} {v : V} {u : Value}, Inv (cxOf CX P w K mg base N qual scope f cdv A outer s H E) [] σ2 H2 s2 → RelV v u → Q v H2 → CE outer P w H s Q u s2 :=
    fun {σ2 H2 v u} J r q => ⟨v, H2, J.os, J.bare, J.base, J.hok, r, q⟩
  cases fin with
  | ret u =>
    obtain ⟨v, σ2, H2, J, r, q⟩ := hs
    exact out J r q
  | next =>
    obtain ⟨σ2, H2, J, q⟩ := hs
    exact out (v := V.non) (u := Value.none) J rfl q
  | brk =>
    obtain ⟨_, _, _, q⟩ := hs
    exact q.elim
  | cont =>
    obtain ⟨_, _, _, q⟩ := hs
    exact q.elim
theorem okG {x qual : Str} {st : Stmt} {f : Addr} {fd : FuncData} {N ps : List Str} {k : Nat} {sp : Sp} (F : Fun K x qual st f fd) (S : FnScope N ps (defScope st)) (len : ∀ vs H Q E, sp vs H Q E → vs.length = ps.length)
    (bd : ∀ (cdv : Value) (A : Around) (outer : List Env) (s : Shared) (H : Hp) (vs : List V) (Q : VK) (E : XK), A.guards = some [] → Room k (A.deeper (envOfC qual (defScope st) s.heap.objs.size f cdv)) → sp vs H Q E →
      ∃ t, PSs (cxOf CX0 P w K mg base N qual (defScope st) f cdv A outer s H E).nox (defBody st) t ∧ t { nx := fun _ H' => Q .non H', rt := Q } (start N vs) H) : FnOkG P w K mg base CX0 (k + 1) f fd ps sp := by
  obtain ⟨oc, od, kV, doc, pm, an, cdv, ct, osl, rfl, fl, fc⟩ := F.ex
  refine fnG_of fl fc S len fun A outer s H vs Q E gg room want => ?_
  obtain ⟨t, h1, h2⟩ := bd cdv A outer s H vs Q E gg room want
  exact ⟨t, h1.nox, h2⟩
structure IsG (P : Program) (w : World) (K : PySem.W.Frag) (mg : Str → Option Value) (base : Heap) (CX : CXT) (k : Nat) (x : Str) (ps : List Str) (sp : Sp) : Prop where
  ex : ∃ (f : Addr) (fd : FuncData), FnOkG P w K mg base CX k f fd ps sp ∧ mg x = some (.ref f) ∧ PySem.W.keepIn K (.ref f) = true ∧ Binds K fd ps []
end
section
open PySem.Spec PyProof.Rows
variable {X : Cx} {CX : CXT} {k : Nat} {x : Str} {ps : List Str} {sp : Sp} {E : XK} {t : TA} {p pos : Pos} {e : Expr} {es : List Expr}
theorem run_fnG {f : Addr} {fd : FuncData} {pins : List (Addr × Obj)} {σ : L2.St} {H : Hp} {s : Shared} {Q : VK} {us : List Value} {vs : List V} (F : FnOkG X.prog X.w X.K X.mg X.base CX k f fd ps sp) (gg : X.A.guards = some []) (hr : Room k X.A) (hb : Binds X.K fd ps []) (hx : Passes CX X E)
    (I : Inv X pins σ H s) (r : Vals vs us) (h : sp vs H Q E) : wpAny (model X.prog X.w) X.A (call (.ref f) us) (EP X pins σ Q) X.xe s := by
  have ln : us.length = ps.length := by rw [← r.length]; exact F.len _ _ _ _ h
  have b := hb s us I.kIn (by rw [List.append_nil]; exact ln)
  rw [List.append_nil] at b
  refine wpAny_call (codeAny_mono (F.run X.A X.stack s H ⟨us, []⟩ us vs Q E gg hr I.env0 b r h) fun res s2 hq => ?_)
  cases res with
  | error e => exact hx pins σ H s e s2 I hq
  | ok fl =>
    cases fl with
    | ret u => exact I.after hq
    | next => exact hq.elim
    | brk => exact hq.elim
    | cont => exact hq.elim
theorem pe_isG (D : IsG X.prog X.w X.K X.mg X.base CX k x ps sp) (gg : X.A.guards = some []) (hr : Room k X.A) (hg : Gl X x) (hx : Passes CX X E) (ha : PA X (e :: es) t) (hdb : (x == ("__debug__" : Str)) = false := by decide)
    (he : starEach (e :: es) X.env = (false, eval e X.env) :: starEach es X.env := by rfl) (hpl : (backTo pos (starEach es X.env)).any (·.1) = false := by rfl) : PE X (.Call (.Name x p) (e :: es) [] pos) (tCl sp E t) := by
  obtain ⟨f, fd, F, hm, hk, hb⟩ := D.ex
  refine ⟨fun pins s σ H Q I h => ?_⟩
  refine wpAny_Call_Name_kw (ld_glob I hg hm ?_ hdb)
  refine PySem.W.callWith_K (h₀ := X.base) I.ok.mod.kin hk (thn (ha.run pos pins s σ H _ I h) fun us s1 ⟨vs, H1, I1, r, q⟩ => ⟨I1.kIn, ?_⟩) he hpl
  exact run_fnG F gg hr hb hx I1 r q
def rRepr (K : PySem.W.Frag) : List V → Hp → VK → Prop := fun xs H Q => ∃ (a : Addr) (d : PyData), xs = [.ref a] ∧ Dp K H (.ref a) d ∧ d.showable = true ∧ d.hasDict = false ∧ d.shown.length ≤ sizeLine ∧ d.depth ≤ 60 ∧ Q (.str d.shown) H
theorem cg_repr (gg : X.A.guards = some []) (hr : Room k X.A) : CallR X (.builtin "repr") (rRepr X.K) := by
  intro pins s σ H xs us Q I r h
  obtain ⟨a, d, rfl, hd, hs, hn, hz, hk, q⟩ := h
  obtain ⟨u, rfl, ru⟩ := vals1 r
  cases ru
  obtain ⟨as, R⟩ := Dp.reads I d (.ref a) (.ref a) hd rfl
  have un := hr.units
  refine repr_of_reads' R hs (fun e => by rw [hn] at e; cases e) gg (by omega) (fun _ _ z => z) (fun h' u tk hk' => ?_) hz
  exact ⟨.str d.shown, H, I.kept hk', ⟨u, rfl⟩, q⟩
end
/-- how long a text shows data, at most -/
def intsLen (B : Nat) (d : PyData) : Prop := d.showable = true ∧ d.hasDict = false ∧ d.shown.length ≤ B
theorem strLen_app (a b : Str) : (a ++ b).length = a.length + b.length := strLen_append a b
theorem ofS_len (s : String) : (Str.ofString s).length = s.toList.length := by
  rw [Str.ofString_eq_byList]
  simp [Str.ofStringByList, Str.length]
theorem shown_int {i : Int} (h : i.natAbs < 10 ^ 18) : (PyData.int i).showable = true ∧ (PyData.int i).hasDict = false ∧ (PyData.int i).shown.length ≤ 19 := by
  refine ⟨?_, rfl, ?_⟩
  · show decide (i.natAbs.log2 < 1920) = true
    have := Nat.log2_lt (n := i.natAbs) (k := 64)
    rw [decide_eq_true_eq]
    by_cases z : i.natAbs = 0
    · rw [z]; decide
    · have := (Nat.log2_lt z (k := 64)).mpr (by omega)
      omega
  · show (Str.ofString (toString i)).length ≤ 19
    cases i with
    | ofNat n =>
      exact Nat.le_trans (PyProof.Rows.toString_length_le (v := (n : Int)) (by omega) (k := 18) (by decide) (by have : (Int.ofNat n).natAbs = n := rfl; omega)) (by decide)
    | negSucc n =>
      have e : (toString (Int.negSucc n)) = "-" ++ toString ((n + 1 : Nat) : Int) := rfl
      have : (Int.negSucc n).natAbs = n + 1 := rfl
      have l := PyProof.Rows.toString_length_le (v := ((n + 1 : Nat) : Int)) (by omega) (k := 18) (by decide) (by omega)
      rw [e, ofS_len, String.toList_append, List.length_append, ← ofS_len, ← ofS_len]
      have : (Str.ofString "-").length = 1 := by decide +kernel
      omega
theorem list_len (ts : List Str) : (listText ts).length ≤ 2 + piled ts := by
  cases ts with
  | nil => decide +kernel
  | cons t r =>
    have h := textFrom_length_pos r 1 (("[" : Str) ++ (if (0 : Nat) > 0 then ", " else "" : String) ++ t) (Nat.succ_pos 0)
    have e : ((("[" : Str) ++ (if (0 : Nat) > 0 then ", " else "" : String) ++ t)).length = 1 + t.length := by
      rw [strLen_append, strLen_append]
      rfl
    have hX : (listText (t :: r)).length = (textFrom 0 "[" (t :: r)).length + 1 := by
      show (textFrom 0 "[" (t :: r) ++ "]").length = _
      rw [strLen_append]
      rfl
    have hY : (textFrom 0 "[" (t :: r)).length = (textFrom 1 (("[" : Str) ++ (if (0 : Nat) > 0 then ", " else "" : String) ++ t) r).length := rfl
    rw [hX, hY, h, e, piled_cons]
    omega
theorem tup_len (ts : List Str) : (tupleText ts).length ≤ 3 + piled ts := by
  have a : (Str.join ", " ts).length ≤ piled ts := by
    by_cases h : ts = []
    · subst h
      exact Nat.zero_le _
    · have := join_length_add ts h
      omega
  unfold tupleText
  rw [strLen_append, strLen_append]
  have e1 : ((("(" : String) : Str)).length = 1 := rfl
  have e3 : (((if ts.length == 1 then ",)" else ")" : String) : Str)).length ≤ 2 := by split <;> decide
  omega
/-- every one of them shows in at most B signs -/
structure Shw (B : Nat) (d : PyData) : Prop where
  s : d.showable = true
  n : d.hasDict = false
  l : d.shown.length ≤ B
theorem Shw.mono {B C : Nat} {d : PyData} (h : Shw B d) (b : B ≤ C) : Shw C d := ⟨h.s, h.n, Nat.le_trans h.l b⟩
theorem shw_int {i : Int} (h : i.natAbs < 10 ^ 18) : Shw 19 (.int i) := by
  obtain ⟨a, b, c⟩ := shown_int h
  exact ⟨a, b, c⟩
theorem shw_all {B : Nat} : ∀ (ds : List PyData), (∀ d ∈ ds, Shw B d) → PyData.showableAll ds = true ∧ PyData.hasDictAll ds = false ∧ piled (PyData.shownAll ds) ≤ ds.length * (B + 2)
  | [], _ => ⟨rfl, rfl, Nat.zero_le _⟩
  | d :: ds, h => by
    have a := h d List.mem_cons_self
    obtain ⟨h1, h2, h3⟩ := shw_all ds fun d hd => h d (List.mem_cons_of_mem _ hd)
    refine ⟨?_, ?_, ?_⟩
    · show (d.showable && PyData.showableAll ds) = true
      rw [a.s, h1]
      rfl
    · show (d.hasDict || PyData.hasDictAll ds) = false
      rw [a.n, h2]
      rfl
    · show piled (d.shown :: PyData.shownAll ds) ≤ _
      rw [piled_cons, List.length_cons, Nat.succ_mul]
      have := a.l
      omega
theorem shw_list {B n : Nat} {ds : List PyData} (h : ∀ d ∈ ds, Shw B d) (l : ds.length ≤ n) : Shw (2 + n * (B + 2)) (.list ds) := by
  obtain ⟨h1, h2, h3⟩ := shw_all ds h
  have m := Nat.mul_le_mul_right (B + 2) l
  exact ⟨h1, h2, Nat.le_trans (list_len _) (by omega)⟩
theorem shw_tup {B n : Nat} {ds : List PyData} (h : ∀ d ∈ ds, Shw B d) (l : ds.length ≤ n) : Shw (3 + n * (B + 2)) (.tuple ds) := by
  obtain ⟨h1, h2, h3⟩ := shw_all ds h
  have m := Nat.mul_le_mul_right (B + 2) l
  exact ⟨h1, h2, Nat.le_trans (tup_len _) (by omega)⟩
theorem depth_all {n : Nat} : ∀ (ds : List PyData), (∀ d ∈ ds, d.depth ≤ n) → PyData.depthAll ds ≤ n
  | [], _ => Nat.zero_le _
  | d :: ds, h => Nat.max_le.mpr ⟨h d List.mem_cons_self, depth_all ds fun d hd => h d (List.mem_cons_of_mem _ hd)⟩
theorem depth_list {n : Nat} {ds : List PyData} (h : ∀ d ∈ ds, d.depth ≤ n) : (PyData.list ds).depth ≤ n + 1 := Nat.succ_le_succ (depth_all ds h)
theorem depth_tup {n : Nat} {ds : List PyData} (h : ∀ d ∈ ds, d.depth ≤ n) : (PyData.tuple ds).depth ≤ n + 1 := Nat.succ_le_succ (depth_all ds h)
theorem r_repr {K : PySem.W.Frag} {H : Hp} {Q : VK} {a : Addr} {d : PyData} {B : Nat} (h : Dp K H (.ref a) d) (s : Shw B d) (b : B ≤ 1000000) (dp : d.depth ≤ 60) (q : Q (.str d.shown) H) : rRepr K [.ref a] H Q :=
  ⟨a, d, rfl, h, s.s, s.n, Nat.le_trans s.l (by rw [sizeLine_eq]; omega), dp, q⟩

/-! ### the law's call, where its def runs with no repr under way -/
section
open PySem.Spec PyProof.Rows
theorem law_callG {P : Program} {w : World} {K : PySem.W.Frag} {mg mb : Str → Option Value} {k : Nat} {fa a : Addr} {fd : FuncData} {x : Str} {sp : Sp} {s₁ : Shared} {vs : List Value} {ns : List Int}
    (inK : K.In s₁.heap) (gl : s₁.heap.Ns mainGlobals mg) (bl : s₁.heap.Ns builtinsNs mb) (boot : ∀ x : Str, x ≠ "__name__" → mb x = bootBuiltins x) (nolim : s₁.heap.NoLimit) (nog : s₁.gens = #[])
    (obj : s₁.heap.get? a = some { cls := .type "list", data := .seq vs.toArray }) (intA : IntsAre vs ns) (few : ns.length ≤ sizeLine) (room : Room k callerA)
    (F : ∀ base : Heap, K.In base → base.Ns mainGlobals mg → FnOkG P w K mg base CX0 k fa fd [x] sp) (bnd : ∀ (s : Shared) (u : Value), BindsTo s fd ⟨[u], []⟩ [(x, u)])
    (want : ∀ H : Hp, Only H → SqL K H a (ns.map V.int) → sp [.ref a] H (fun v _ => v = .bl true) fun _ _ _ => False) :
    codeAny (model P w) callerA (.call (.ref fa) ⟨[.ref a], []⟩) (fun r z => r = .ok (.ret (.bool true)) ∧ OldK s₁.heap z.heap ∧ z.os = s₁.os ∧ AllBare z.gens) s₁ := by
  have vals := vals_ints intA
  have vl := intA.length
  have main : ∀ H : Hp, Only H → SqL K H a (ns.map V.int) → HOk P w H s₁.heap → (∀ c, H c ≠ none → c = a) → (H a ≠ none → K.lookup a = none) →
      codeAny (model P w) callerA (.call (.ref fa) ⟨[.ref a], []⟩) (fun r z => r = .ok (.ret (.bool true)) ∧ OldK s₁.heap z.heap ∧ z.os = s₁.os ∧ AllBare z.gens) s₁ := by
    intro H only isl laid onlyA notK
    have hid : ∀ {c : Addr} {u : Obj}, s₁.heap.get? c = some u → H c = none → (hidT s₁.heap H).get? c = some u := fun e n => hidT_get e n
    have notD : ∀ {c : Addr} {u : Obj} {es : Array DictEntry} {ep : Nat}, s₁.heap.get? c = some u → u.data = .dict es ep → H c = none := fun {c u es ep} e d => by
      cases q : H c with
      | none => rfl
      | some y =>
        have ca : c = a := onlyA c (by rw [q]; simp)
        subst ca
        rw [obj] at e
        cases e
        have dd : Data.seq vs.toArray _ = Data.dict es ep := d
        cases dd
    have nsH : ∀ {c : Addr} {m : Str → Option Value}, s₁.heap.Ns c m → (hidT s₁.heap H).Ns c m := fun {c m} ⟨u, es, ep, e, d, r⟩ => ⟨u, es, ep, hid e (notD e d), d, r⟩
    have inB : K.In (hidT s₁.heap H) := fun c u e => hid (inK c u e) (by
      cases q : H c with
      | none => rfl
      | some y =>
        have ca : c = a := onlyA c (by rw [q]; simp)
        subst ca
        rw [notK (by rw [q]; simp)] at e
        cases e)
    have mods : Mod K mg (hidT s₁.heap H) := ⟨inB, nsH gl, ⟨mb, nsH bl, boot⟩, let ⟨mc, h1, h2⟩ := nolim; ⟨mc, nsH h1, h2⟩⟩
    have env0 : Env0 P w K mg (hidT s₁.heap H) callerA [] s₁ H := ⟨rfl, mods, fun c u e => of_hidT e, Nat.le_of_eq (hidT_size _ _), trivial, fun c hc => absurd (show c ∈ ([] : List Addr) from hc) (by simp), laid, .of_eq nog⟩
    refine codeAny_mono ((F _ inB (nsH gl)).run callerA [] s₁ H ⟨[.ref a], []⟩ [.ref a] [.ref a] _ _ rfl room env0 (bnd s₁ (.ref a)) (.cons rfl .nil) (want H only isl)) fun r z h => ?_
    cases r with
    | error e => exact h.elim
    | ok fl =>
      cases fl with
      | next => exact h.elim
      | brk => exact h.elim
      | cont => exact h.elim
      | ret u =>
        obtain ⟨v, H2, os, bare, un, laid2, ru, q⟩ := h
        have vt : v = .bl true := q
        subst vt
        obtain rfl : u = Value.bool true := ru
        refine ⟨rfl, OldK.of_keep fun c y e => ?_, os, bare⟩
        cases q : H c with
        | none => exact un.keep c y e q (by intro z; exact absurd (show c ∈ ([] : List Addr) from z) (by simp)) (by simp)
        | some t =>
          rcases only c with z | ⟨oc, xs, z⟩
          · rw [q] at z
            cases z
          · have z2 := un.frzs c oc _ z
            obtain ⟨e1, _⟩ := laid c _ z
            obtain ⟨e2, _⟩ := laid2 c _ z2
            rw [e] at e1
            cases e1
            exact e2
  cases hk : K.lookup a with
  | some o =>
    have e := inK a o hk
    rw [obj] at e
    cases e
    refine main (fun _ => none) (fun _ => .inl rfl) (.inr ⟨_, vs.toArray, _, hk, rfl, rfl, rfl, by rw [List.size_toArray, vl]; exact few, by simpa using vals⟩) (fun c u z => by have z2 : (none : Option HO) = some u := z; cases z2) (fun c z => absurd rfl z) fun z => absurd rfl z
  | none =>
    refine main (fun c => if c = a then some (.frz { cls := .type "list", data := .seq vs.toArray } (.lst (ns.map V.int))) else none) (fun c => ?_) (.inl (.inr ⟨{ cls := .type "list", data := .seq vs.toArray }, if_pos rfl⟩)) (fun c u z => ?_) (fun c z => ?_) fun _ => hk
    · by_cases hc : c = a
      · exact .inr ⟨_, _, if_pos hc⟩
      · exact .inl (if_neg hc)
    · by_cases hc : c = a
      · have z2 := (if_pos hc).symm.trans z
        cases z2
        subst hc
        exact ⟨obj, by rw [List.length_map]; exact few, vs, _, vals, obj⟩
      · have z2 := (if_neg hc).symm.trans z
        cases z2
    · by_cases hc : c = a
      · exact hc
      · exact absurd (if_neg hc) z
theorem walk_ofG {l : PySem.W.OpenLaw} {n k : Nat} {q : Program} {loose : List Str} {XP : (Str → Option Value) → Heap → Prop} {YP : World → Heap → Prop} {d : DefRec} {K : Params → PySem.W.Frag} {sp : World → Sp} {x : Str}
    (most : l.most = some n) (small : n ≤ sizeLine) (nodf : d.params.defaults = []) (room : Room k callerA)
    (inn : ∀ (w : World) (h : Heap), YP w h → (K w.params).In h)
    (F : ∀ (w : World) (mg : Str → Option Value) (fa : Addr) (h : Heap), (K w.params).In h → h.Ns mainGlobals mg → mg d.name = some (.ref fa) →
      ∃ fd : FuncData, (∀ (s : Shared) (u : Value), BindsTo s fd ⟨[u], []⟩ [(x, u)]) ∧
        ∀ base : Heap, (K w.params).In base → base.Ns mainGlobals mg → FnOkG l.prog w (K w.params) mg base CX0 k fa fd [x] (sp w))
    (want : ∀ (w : World) (H : Hp) (a : Addr) (ns : List Int), ns.length ≤ n → Only H → SqL (K w.params) H a (ns.map V.int) → sp w [.ref a] H (fun v _ => v = .bl true) fun _ _ _ => False) :
    PySem.W.WalkO q loose XP YP l.row.toRowW d [] (fun f vs => PySem.call f vs) := by
  refine Att.attach_call most nodf fun w s₀ s₁ mg mb fa o pm cd doc a vs ns G Y ho hd hcd hm obj intA len hg => ?_
  have inK := inn w _ Y
  obtain ⟨fd, bnd, FF⟩ := F w mg fa _ inK G.T.g hm
  exact law_callG inK G.T.g G.T.b G.T.builtins G.T.nolimit hg obj intA (Nat.le_trans len small) room FF bnd (fun H only isl => want w H a ns len only isl)
end

abbrev Un := Str × Int × Int
/-! ### the points of a box that a body can tell apart -/
theorem at_set (os : List Int) (i : Nat) (x : Int) (v : Int) : at_ (os.set i x) v = if v.toNat = i ∧ i < os.length then x else at_ os v := by
  unfold at_
  rw [List.getD_eq_getElem?_getD, List.getD_eq_getElem?_getD, List.getElem?_set]
  by_cases h1 : i = v.toNat
  · subst h1
    by_cases h2 : v.toNat < os.length
    · simp [h2]
    · simp [h2]
  · rw [if_neg h1, if_neg (fun e => h1 e.1.symm)]
theorem ixN_ok {n : Nat} {i : Int} (h0 : 0 ≤ i) (h1 : i < n) : ixN n i = some i.toNat := by simp [ixN, h0, h1]
def prF (f : Int → Int) : List Int → Int
  | [] => 1
  | n :: ns => f n * prF f ns
theorem prF_snoc (f : Int → Int) : ∀ (ns : List Int) (n : Int), prF f (ns ++ [n]) = prF f ns * f n
  | [], n => by simp [prF]
  | m :: ns, n => by
    show f m * prF f (ns ++ [n]) = f m * prF f ns * f n
    rw [prF_snoc f ns n, Int.mul_assoc]
theorem prF_take {f : Int → Int} {ns : List Int} {i : Nat} {n : Int} (h : ns[i]? = some n) : prF f (ns.take (i + 1)) = prF f (ns.take i) * f n := by
  rw [List.take_add_one, h]
  exact prF_snoc _ _ _
theorem prF_pos {f : Int → Int} : ∀ {ns : List Int}, (∀ n ∈ ns, 1 ≤ f n) → 1 ≤ prF f ns
  | [], _ => Int.le_refl _
  | n :: ns, h => by
    have h1 := h n List.mem_cons_self
    have h2 := prF_pos (ns := ns) fun m hm => h m (List.mem_cons_of_mem _ hm)
    show 1 ≤ f n * prF f ns
    have := Int.mul_le_mul h1 h2 (by omega) (by omega)
    omega
theorem prF_le4 {f : Int → Int} : ∀ {ns : List Int}, (∀ n ∈ ns, 1 ≤ f n ∧ f n ≤ 4) → 1 ≤ prF f ns ∧ prF f ns ≤ 4 ^ ns.length
  | [], _ => ⟨Int.le_refl _, Int.le_refl _⟩
  | n :: ns, h => by
    have h1 := h n List.mem_cons_self
    have h2 := prF_le4 (ns := ns) fun m hm => h m (List.mem_cons_of_mem _ hm)
    refine ⟨prF_pos fun m hm => (h m hm).1, ?_⟩
    show f n * prF f ns ≤ 4 ^ (ns.length + 1)
    rw [Int.pow_succ, Int.mul_comm (4 ^ ns.length) 4]
    exact Int.mul_le_mul h1.2 h2.2 (by omega) (by omega)
/-- the size of a side -/
def szV (los his : List Int) (v : Int) : Int := at_ his v - at_ los v + 1
/-- the values of a place, put into a point -/
def decP (los his : List Int) : List Int → Int → List Int → List Int
  | [], _, pt => pt
  | v :: ns, r, pt => decP los his ns (r / szV los his v) (pt.set v.toNat (at_ los v + r % szV los his v))
def codP (los his : List Int) (f : Pt) : List Int → Int
  | [] => 0
  | v :: ns => (f v - at_ los v) + szV los his v * codP los his f ns
theorem decP_len (los his : List Int) : ∀ (ns : List Int) (r : Int) (pt : List Int), (decP los his ns r pt).length = pt.length
  | [], _, _ => rfl
  | v :: ns, r, pt => by
    show (decP los his ns _ _).length = _
    rw [decP_len los his ns, List.length_set]
theorem decP_off (los his : List Int) : ∀ (ns : List Int) (r : Int) (pt : List Int) (u : Int), (∀ v ∈ ns, v.toNat ≠ u.toNat) → at_ (decP los his ns r pt) u = at_ pt u
  | [], _, _, _, _ => rfl
  | v :: ns, r, pt, u, h => by
    show at_ (decP los his ns _ _) u = _
    rw [decP_off los his ns _ _ u fun w hw => h w (List.mem_cons_of_mem _ hw), at_set, if_neg fun e => h v List.mem_cons_self e.1.symm]
theorem decP_on (los his : List Int) (f : Pt) : ∀ (ns : List Int) (pt : List Int), ns.Nodup → (∀ v ∈ ns, 0 ≤ v ∧ v < pt.length) → (∀ v ∈ ns, at_ los v ≤ f v ∧ f v ≤ at_ his v) → ∀ u ∈ ns, at_ (decP los his ns (codP los his f ns) pt) u = f u
  | [], _, _, _, _, u, hu => by cases hu
  | v :: ns, pt, nd, rg, bx, u, hu => by
    rw [List.nodup_cons] at nd
    have hv := rg v List.mem_cons_self
    have hb := bx v List.mem_cons_self
    have hs : 1 ≤ szV los his v := by unfold szV; omega
    have e1 : codP los his f (v :: ns) % szV los his v = f v - at_ los v := by
      show (f v - at_ los v + szV los his v * _) % szV los his v = _
      rw [Int.add_mul_emod_self_left]
      exact Int.emod_eq_of_lt (by omega) (by unfold szV; omega)
    have e2 : codP los his f (v :: ns) / szV los his v = codP los his f ns := by
      show (f v - at_ los v + szV los his v * _) / szV los his v = _
      rw [Int.add_mul_ediv_left _ _ (by omega), Int.ediv_eq_zero_of_lt (by omega) (by unfold szV; omega), Int.zero_add]
    show at_ (decP los his ns (codP los his f (v :: ns) / szV los his v) (pt.set v.toNat (at_ los v + codP los his f (v :: ns) % szV los his v))) u = _
    rw [e1, e2]
    rcases List.mem_cons.mp hu with rfl | hu
    · rw [decP_off _ _ _ _ _ _ fun w hw e => nd.1 (by have := rg w (List.mem_cons_of_mem _ hw); rw [show u = w by omega]; exact hw), at_set, if_pos ⟨rfl, by omega⟩]
      omega
    · exact decP_on los his f ns _ nd.2 (fun w hw => by rw [List.length_set]; exact rg w (List.mem_cons_of_mem _ hw)) (fun w hw => bx w (List.mem_cons_of_mem _ hw)) u hu
theorem codP_lt (los his : List Int) (f : Pt) : ∀ (ns : List Int), (∀ v ∈ ns, at_ los v ≤ f v ∧ f v ≤ at_ his v) → 0 ≤ codP los his f ns ∧ codP los his f ns < prF (szV los his) ns
  | [], _ => ⟨Int.le_refl _, by show (0 : Int) < 1; decide⟩
  | v :: ns, bx => by
    have hb := bx v List.mem_cons_self
    have ih := codP_lt los his f ns fun w hw => bx w (List.mem_cons_of_mem _ hw)
    have hs : 1 ≤ szV los his v := by unfold szV; omega
    have hd : f v - at_ los v ≤ szV los his v - 1 := by unfold szV; omega
    show 0 ≤ f v - at_ los v + szV los his v * codP los his f ns ∧ f v - at_ los v + szV los his v * codP los his f ns < szV los his v * prF (szV los his) ns
    have a := Int.mul_nonneg (show 0 ≤ szV los his v by omega) ih.1
    have b := Int.mul_le_mul_of_nonneg_left (show codP los his f ns + 1 ≤ prF (szV los his) ns by omega) (show 0 ≤ szV los his v by omega)
    rw [Int.mul_add, Int.mul_one] at b
    omega
/-- a point of the box -/
def inLH (los his pt : List Int) : Prop := pt.length = los.length ∧ ∀ v : Int, 0 ≤ v → v < los.length → at_ los v ≤ at_ pt v ∧ at_ pt v ≤ at_ his v
theorem decP_in {los his : List Int} : ∀ (ns : List Int) (r : Int) (pt : List Int), (∀ v ∈ ns, (0 ≤ v ∧ v < los.length) ∧ at_ los v ≤ at_ his v) → inLH los his pt → inLH los his (decP los his ns r pt)
  | [], _, _, _, h => h
  | v :: ns, r, pt, g, h => by
    have g0 := g v List.mem_cons_self
    have hs : 0 < szV los his v := by unfold szV; omega
    have m0 := Int.emod_nonneg r (show szV los his v ≠ 0 by omega)
    have m1 := Int.emod_lt_of_pos r hs
    refine decP_in ns _ _ (fun w hw => g w (List.mem_cons_of_mem _ hw)) ⟨by rw [List.length_set]; exact h.1, fun u h0 h1 => ?_⟩
    rw [at_set]
    by_cases e : u.toNat = v.toNat ∧ v.toNat < pt.length
    · rw [if_pos e]
      have e2 : u = v := by omega
      subst e2
      unfold szV at m1 m0 ⊢
      omega
    · rw [if_neg e]
      exact h.2 u h0 h1
/-- the box of the model's kind: whole sides -/
def bxOk (los his : List Int) : Prop := his.length = los.length ∧ ∀ v : Int, 0 ≤ v → v < los.length → at_ los v ≤ at_ his v
def bxBd (los his : List Int) : Prop := ∀ v : Int, -1000000 ≤ at_ los v ∧ at_ los v ≤ 1000000 ∧ -1000000 ≤ at_ his v ∧ at_ his v ≤ 1000000
theorem inLH_bd {los his pt : List Int} (h : inLH los his pt) (b : bxBd los his) (v : Int) (h0 : 0 ≤ v) (h1 : v < los.length) : -1000000 ≤ at_ pt v ∧ at_ pt v ≤ 1000000 := by
  have q := h.2 v h0 h1
  have r := b v
  omega
structure BoxAt (K : PySem.W.Frag) (H : Hp) (p : Addr) (los his : List Int) : Prop where
  ex : ∃ q1 q2 : Addr, SqT K H p [.ref q1, .ref q2] ∧ SqT K H q1 (los.map V.int) ∧ SqT K H q2 (his.map V.int)
theorem BoxAt.kp {K : PySem.W.Frag} {H H' : Hp} {p : Addr} {S : List Addr} {los his : List Int} (k : Kp S H H') (h : BoxAt K H p los his) : BoxAt K H' p los his := by
  obtain ⟨q1, q2, a, b, c⟩ := h.ex
  exact ⟨q1, q2, k.tup a, k.tup b, k.tup c⟩
local macro_rules | `(tactic| walk_at "cg h") => `(tactic| (first
  | ((with_reducible show BoxAt _ _ _ _ _); exact BoxAt.kp (by assumption) (by walk_at "cg h"))
  | fail))
local macro_rules | `(tactic| walk_at "cg h") => `(tactic| assumption)
def spCost (K : PySem.W.Frag) : Sp := fun vs H Q _ => ∃ (p q : Addr) (b : Body) (los his : List Int), vs = [.ref p, .ref q] ∧ BodyAt K H p b ∧ b.bd ∧ BoxAt K H q los his ∧ bxOk los his ∧ bxBd los his ∧ (∀ v ∈ b.vars, 0 ≤ v ∧ v < los.length) ∧ ∀ H', Kp [] H H' → Q (.int (prF (szV los his) (numsOf b.vars los.length))) H'
/-- some point of the box does -/
def suppP (b : Body) (los his : List Int) : Prop := ∃ pt, inLH los his pt ∧ b.h (at_ pt) = true
def spSupp (K : PySem.W.Frag) : Sp := fun vs H Q _ => ∃ (p q : Addr) (b : Body) (los his : List Int), vs = [.ref p, .ref q] ∧ BodyAt K H p b ∧ b.bd ∧ BoxAt K H q los his ∧ bxOk los his ∧ bxBd los his ∧ (∀ v ∈ b.vars, 0 ≤ v ∧ v < los.length) ∧ prF (szV los his) (numsOf b.vars los.length) ≤ 1000000 ∧ ∀ (r : Bool) H', (r = true ↔ suppP b los his) → Kp [] H H' → Q (.bl r) H'
theorem supp_some {b : Body} {los his : List Int} {r : Int} (ok : bxOk los his) (hv : ∀ v ∈ b.vars, 0 ≤ v ∧ v < los.length) (h : b.h (at_ (decP los his (numsOf b.vars los.length) r los)) = true) : suppP b los his :=
  ⟨_, decP_in _ _ _ (fun v hm => by have q := numsOf_mem.mp hm; exact ⟨q.1, ok.2 v q.1.1 q.1.2⟩) ⟨rfl, fun v h0 h1 => ⟨Int.le_refl _, ok.2 v h0 h1⟩⟩, h⟩
theorem supp_none {b : Body} {los his : List Int} (hv : ∀ v ∈ b.vars, 0 ≤ v ∧ v < los.length) (h : ∀ j : Nat, (j : Int) < prF (szV los his) (numsOf b.vars los.length) → b.h (at_ (decP los his (numsOf b.vars los.length) j los)) = false) : ¬ suppP b los his := by
  rintro ⟨pt, hin, hb⟩
  have bx : ∀ v ∈ numsOf b.vars los.length, at_ los v ≤ at_ pt v ∧ at_ pt v ≤ at_ his v := fun v hm => hin.2 v (numsOf_mem.mp hm).1.1 (numsOf_mem.mp hm).1.2
  have c := codP_lt los his (at_ pt) _ bx
  have q := h (codP los his (at_ pt) (numsOf b.vars los.length)).toNat (by omega)
  rw [Int.toNat_of_nonneg c.1] at q
  have e : b.h (at_ (decP los his (numsOf b.vars los.length) (codP los his (at_ pt) (numsOf b.vars los.length)) los)) = b.h (at_ pt) := Body.h_congr fun v hm =>
    decP_on los his (at_ pt) _ los ((numsOf_asc _ _).imp fun {a b} h => by omega) (fun u hu => (numsOf_mem.mp hu).1) bx v (numsOf_mem.mpr ⟨hv v hm, hm⟩)
  rw [q, hb] at e
  cases e

/-! ### range(a, b); lists of lists of ints -/
def isR2 (vs : List V) (H : Hp) (R : It → Hp → Prop) : Prop := ∃ i j : Int, vs = [.int i, .int j] ∧ (-(2 ^ 62) ≤ i ∧ i < 2 ^ 62 ∧ -(2 ^ 62) ≤ j ∧ j < 2 ^ 62) ∧ R (Itr i (j - i).toNat) H
instance s_iR2 {ta : TA} {σ : St} {H : Hp} {R : It → Hp → Prop} : Stp (iRng2 ta σ H R) (ta σ H fun vs H1 => isR2 vs H1 R) := ⟨id⟩
theorem r_isR2 {i j : Int} {H : Hp} {R : It → Hp → Prop} (h1 : -1000000000 ≤ i ∧ i ≤ 1000000000) (h2 : -1000000000 ≤ j ∧ j ≤ 1000000000) (q : R (Itr i (j - i).toNat) H) : isR2 [.int i, .int j] H R := ⟨i, j, rfl, by omega, q⟩
local macro_rules | `(tactic| walk_at "cg s") => `(tactic| ((with_reducible apply r_isR2); (focus (first | omega | (constructor <;> decide))); (focus (first | omega | (constructor <;> decide)))))
inductive Els (H : Hp) : List V → List (List Int) → Prop
  | nil : Els H [] []
  | cons {p : Addr} {pt : List Int} {xs : List V} {L : List (List Int)} : H p = some (.lst (pt.map V.int)) → Els H xs L → Els H (.ref p :: xs) (pt :: L)
theorem Els.length {H : Hp} : ∀ {xs : List V} {L : List (List Int)}, Els H xs L → xs.length = L.length
  | _, _, .nil => rfl
  | _, _, .cons _ a => by rw [List.length_cons, List.length_cons, a.length]
theorem Els.kp {S : List Addr} {H H' : Hp} (k : Kp S H H') : ∀ {xs : List V} {L : List (List Int)}, Els H xs L → (∀ p, p ∈ S → V.ref p ∉ xs) → Els H' xs L
  | _, _, .nil, _ => .nil
  | _, _, .cons (p := p) h a, n => .cons (k.k p _ (fun hp => n p hp List.mem_cons_self) h) (a.kp k fun q hq hm => n q hq (List.mem_cons_of_mem _ hm))
theorem Els.kp0 {H H' : Hp} {xs : List V} {L : List (List Int)} (k : Kp [] H H') (h : Els H xs L) : Els H' xs L := h.kp k fun _ hp => nomatch hp
theorem Els.off {H : Hp} {D : Addr} (hD : H D = none) : ∀ {xs : List V} {L : List (List Int)}, Els H xs L → V.ref D ∉ xs
  | _, _, .nil, h => by cases h
  | _, _, .cons h a, m => by
    rcases List.mem_cons.mp m with e | m
    · cases e
      rw [hD] at h
      cases h
    · exact a.off hD m
theorem Els.snoc {H : Hp} {p : Addr} {pt : List Int} (h' : H p = some (.lst (pt.map V.int))) : ∀ {xs : List V} {L : List (List Int)}, Els H xs L → Els H (xs ++ [.ref p]) (L ++ [pt])
  | _, _, .nil => .cons h' .nil
  | _, _, .cons h a => .cons h (a.snoc h')
theorem Els.get {H : Hp} : ∀ {xs : List V} {L : List (List Int)} {i : Nat} {x : V}, Els H xs L → xs[i]? = some x → ∃ p pt, x = .ref p ∧ L[i]? = some pt ∧ H p = some (.lst (pt.map V.int))
  | _, _, _, _, .nil, e => by simp at e
  | _, _, 0, _, .cons (p := p) (pt := pt) h _, e => by simp at e; subst e; exact ⟨p, pt, rfl, rfl, h⟩
  | _, _, i + 1, _, .cons _ a, e => by
    obtain ⟨p, pt, h1, h2, h3⟩ := a.get (i := i) (by simpa using e)
    exact ⟨p, pt, h1, by simpa using h2, h3⟩
/-- all points of the first i sides -/
def extP (a b : Int) (pt : List Int) : List (List Int) := (rgI a b).map fun x => pt ++ [x]
def ptsL (los his : List Int) : Nat → List (List Int)
  | 0 => [[]]
  | i + 1 => (ptsL los his i).flatMap (extP (at_ los i) (at_ his i + 1))
theorem rgI_succ (a : Int) (k : Nat) (n : Nat) (h : k < n) : ((List.range (k + 1)).map fun i => a + ((i : Nat) : Int)) = ((List.range k).map fun i => a + ((i : Nat) : Int)) ++ [a + (k : Int)] := by
  rw [List.range_succ, List.map_append]
  rfl
theorem at_snoc_lt {pt : List Int} {x v : Int} (h0 : 0 ≤ v) (h : v < pt.length) : at_ (pt ++ [x]) v = at_ pt v := by
  unfold at_
  rw [List.getD_eq_getElem?_getD, List.getD_eq_getElem?_getD, List.getElem?_append_left (by omega)]
theorem at_snoc_eq {pt : List Int} {x v : Int} (h : v = pt.length) : at_ (pt ++ [x]) v = x := by
  subst h
  unfold at_
  rw [Int.toNat_natCast, List.getD_eq_getElem?_getD, List.getElem?_append_right (Nat.le_refl _), Nat.sub_self]
  rfl
theorem ptsL_mem (los his : List Int) : ∀ (i : Nat) (pt : List Int), pt ∈ ptsL los his i ↔ pt.length = i ∧ ∀ v : Int, 0 ≤ v → v < i → at_ los v ≤ at_ pt v ∧ at_ pt v ≤ at_ his v
  | 0, pt => by
    show pt ∈ [[]] ↔ _
    rw [List.mem_singleton]
    constructor
    · rintro rfl
      exact ⟨rfl, fun v h0 h1 => by omega⟩
    · exact fun h => List.length_eq_zero_iff.mp h.1
  | i + 1, pt => by
    show pt ∈ (ptsL los his i).flatMap (extP (at_ los i) (at_ his i + 1)) ↔ _
    rw [List.mem_flatMap]
    constructor
    · rintro ⟨z, hz, hp⟩
      obtain ⟨x, hx, rfl⟩ := List.mem_map.mp hp
      have q := (ptsL_mem los his i z).mp hz
      have r := rgI_mem.mp hx
      refine ⟨by rw [List.length_append, q.1]; rfl, fun v h0 h1 => ?_⟩
      by_cases e : v < i
      · rw [at_snoc_lt h0 (by omega)]
        exact q.2 v h0 e
      · have e2 : v = i := by omega
        subst e2
        rw [at_snoc_eq (by omega)]
        omega
    · rintro ⟨hl, hb⟩
      rcases List.eq_nil_or_concat pt with rfl | ⟨z, x, rfl⟩
      · simp at hl
      rw [List.concat_eq_append] at hl hb ⊢
      rw [List.length_append] at hl
      have hzl : z.length = i := by simpa using hl
      have hx := hb i (by omega) (by omega)
      rw [at_snoc_eq (by omega)] at hx
      refine ⟨z, (ptsL_mem los his i z).mpr ⟨hzl, fun v h0 h1 => ?_⟩, List.mem_map.mpr ⟨x, rgI_mem.mpr (by omega), rfl⟩⟩
      have q := hb v h0 (by omega)
      rw [at_snoc_lt h0 (by omega)] at q
      exact q
theorem ptsL_suppP {los his : List Int} {b : Body} : ((ptsL los his los.length).any fun pt => b.h (at_ pt)) = true ↔ suppP b los his := by
  rw [List.any_eq_true]
  constructor
  · rintro ⟨pt, hm, hb⟩
    exact ⟨pt, (ptsL_mem _ _ _ _).mp hm, hb⟩
  · rintro ⟨pt, hm, hb⟩
    exact ⟨pt, (ptsL_mem _ _ _ _).mpr hm, hb⟩
theorem flat_take {α β : Type} {l : List α} {f : α → List β} {i : Nat} {x : α} (h : l[i]? = some x) : (l.take (i + 1)).flatMap f = (l.take i).flatMap f ++ f x := by
  rw [List.take_add_one, h, List.flatMap_append]
  simp
theorem ptsL_le {los his : List Int} : ∀ i : Nat, i ≤ los.length → bxOk los his → (∀ v : Int, 0 ≤ v → v < los.length → szV los his v ≤ 4) → (ptsL los his i).length ≤ 4 ^ i
  | 0, _, _, _ => Nat.le_refl _
  | i + 1, hi, ok, h => by
    have ih := ptsL_le i (by omega) ok h
    have hs := h i (by omega) (by omega)
    have e : ∀ L : List (List Int), (L.flatMap (extP (at_ los i) (at_ his i + 1))).length ≤ L.length * 4 := fun L => by
      induction L with
      | nil => exact Nat.le_refl _
      | cons z L ih =>
        rw [List.flatMap_cons, List.length_append, List.length_cons]
        have : (extP (at_ los i) (at_ his i + 1) z).length ≤ 4 := by
          unfold extP
          rw [List.length_map, rgI_len]
          unfold szV at hs
          omega
        omega
    show ((ptsL los his i).flatMap _).length ≤ _
    rw [Nat.pow_succ]
    exact Nat.le_trans (e _) (Nat.mul_le_mul_right 4 ih)
/-- the sides that are drawn for these bounds -/
def sidesOk (us : List Un) (ls hs : List Int) : Prop := ls.length = hs.length ∧ ∀ (j : Nat) u a b, us[j]? = some u → ls[j]? = some a → hs[j]? = some b → u.2.1 ≤ a ∧ a ≤ b ∧ b ≤ u.2.2
theorem sidesOk.snoc {us : List Un} {ls hs : List Int} {u : Un} {a b : Int} (h : sidesOk us ls hs) (hu : us[ls.length]? = some u) (hb : u.2.1 ≤ a ∧ a ≤ b ∧ b ≤ u.2.2) : sidesOk us (ls ++ [a]) (hs ++ [b]) := by
  refine ⟨by simp [h.1], fun j v x y hv hx hy => ?_⟩
  rcases Nat.lt_trichotomy j ls.length with e | e | e
  · rw [List.getElem?_append_left e] at hx
    rw [List.getElem?_append_left (by rw [← h.1]; exact e)] at hy
    exact h.2 j v x y hv hx hy
  · subst e
    rw [hu] at hv
    rw [List.getElem?_append_right (Nat.le_refl _), Nat.sub_self] at hx
    rw [h.1, List.getElem?_append_right (Nat.le_refl _), Nat.sub_self] at hy
    simp at hv hx hy
    subst hv hx hy
    exact hb
  · rw [List.getElem?_eq_none (by simp; omega)] at hx
    cases hx
theorem sidesOk.at {us : List Un} {ls hs : List Int} (h : sidesOk us ls hs) (hl : ls.length = us.length) {i : Nat} {u : Un} (hu : us[i]? = some u) : u.2.1 ≤ at_ ls i ∧ at_ ls i ≤ at_ hs i ∧ at_ hs i ≤ u.2.2 := by
  have hi := (List.getElem?_eq_some_iff.mp hu).1
  have h1 : ls[i]? = some (at_ ls i) := by
    unfold at_
    rw [Int.toNat_natCast, List.getD_eq_getElem?_getD, List.getElem?_eq_getElem (by omega)]
    rfl
  have h2 : hs[i]? = some (at_ hs i) := by
    unfold at_
    rw [Int.toNat_natCast, List.getD_eq_getElem?_getD, List.getElem?_eq_getElem (by have := h.1; omega)]
    rfl
  exact h.2 i u _ _ hu h1 h2
theorem lst_snoc {H : Hp} {D : Addr} {ls : List Int} {x : Int} (h : H D = some (.lst (ls.map V.int ++ [.int x]))) : H D = some (.lst ((ls ++ [x]).map V.int)) := by
  rw [h, List.map_append]
  rfl
structure LtB (m : Int) : Prop where
  h : m < bigB
theorem LtB.of {m : Int} (h : m ≤ 1000000) : LtB m := ⟨by
  have e : (1000000 : Int) < bigB := by decide
  exact Int.lt_of_le_of_lt h e⟩
local macro_rules | `(tactic| walk_at "cg dr") => `(tactic| ((with_reducible refine spDraw_i (c := ?c) ?h ?h1 ?h2 ?_); (case h => walk_at "cg h"); (case h1 => first | omega | decide); (case h2 => first | (exact LtB.h (by with_reducible assumption)) | (with_reducible assumption) | decide)))
def spLawBox (K : PySem.W.Frag) : Sp := fun vs H Q _ => ∃ (t c l : Addr) (refs : List V) (us : List Un), vs = [.ref t, .ref l] ∧ Tp t c H ∧ H l = some (.lst refs) ∧ l ≠ t ∧ ImAll K H refs (us.map unD) ∧ us.length ≤ 1000 ∧ (∀ u ∈ us, -10000 ≤ u.2.1 ∧ u.2.1 ≤ u.2.2 ∧ u.2.2 ≤ 10000) ∧
  ∀ (p : Addr) (los his : List Int) H', BoxAt K H' p los his → los.length = us.length → sidesOk us los his → Tp t c H' → Kp [t] H H' → Q (.ref p) H'
def spLawPoints (K : PySem.W.Frag) : Sp := fun vs H Q _ => ∃ (p : Addr) (los his : List Int), vs = [.ref p] ∧ BoxAt K H p los his ∧ bxOk los his ∧ bxBd los his ∧ los.length ≤ 5 ∧ (∀ v : Int, 0 ≤ v → v < los.length → szV los his v ≤ 4) ∧
  ∀ (P : Addr) (refs : List V) H', H' P = some (.lst refs) → Els H' refs (ptsL los his los.length) → Kp [] H H' → Q (.ref P) H'

/-! ### comprehensions over a range: ints, truth values -/
theorem at_map_range (L : List Int) : (List.range L.length).map (fun i : Nat => at_ L (i : Int)) = L := by
  refine List.ext_getElem (by simp) fun i h1 h2 => ?_
  rw [List.getElem_map, List.getElem_range]
  unfold at_
  rw [Int.toNat_natCast, List.getD_eq_getElem?_getD, List.getElem?_eq_getElem h2]
  rfl
section
variable {σ σ0 : St} {H : Hp} {K : PySem.W.Frag} {g : TG} {tt : TT} {te : TE} {vs : List Nat} {Q : VK} {n : Nat} {lo : Int}
theorem lcR_L (L : List Int) (hn : n = L.length) [hw : Wip σ vs σ0] (small : n ≤ 10000)
    (hs : ∀ (i : Nat) (H' : Hp) (R : V → Hp → Prop) (R' : Hp → Prop), i < L.length → Kp [] H H' → (∀ H4, Kp [] H' H4 → R (.int (at_ L i)) H4) → lcTurn g tt te vs σ σ0 (.int (lo + (i : Int))) H' R R')
    (hd : ∀ D H', H D = none → H' D = some (.lst (L.map V.int)) → Kp [] H H' → Q (.ref D) H') : lcS (Itr lo n) g tt te vs σ H Q :=
  lcR_m (K := default) (fun i => PyData.int (at_ L (i : Int))) small (fun i H' R R' hi k h => hs i H' R R' (hn ▸ hi) k fun H4 k4 => h _ H4 (.int _) k4) fun D H' acc hD eD hA k => hd D H' hD (by
    have e : (List.range n).map (fun i : Nat => PyData.int (at_ L (i : Int))) = L.map PyData.int := by
      have := congrArg (fun l => l.map PyData.int) (at_map_range L)
      rw [List.map_map] at this
      rw [hn]
      exact this
    rw [e] at hA
    rw [eD, hA.ints]) k
theorem lcR_B (f : Nat → Bool) [hw : Wip σ vs σ0] (small : n ≤ 10000)
    (hs : ∀ (i : Nat) (H' : Hp) (R : V → Hp → Prop) (R' : Hp → Prop), i < n → Kp [] H H' → (∀ H4, Kp [] H' H4 → R (.bl (f i)) H4) → lcTurn g tt te vs σ σ0 (.int (lo + (i : Int))) H' R R')
    (hd : ∀ D H', H D = none → H' D = some (.lst (((List.range n).map f).map V.bl)) → Kp [] H H' → Q (.ref D) H') : lcS (Itr lo n) g tt te vs σ H Q :=
  lcR_m (K := default) (fun i => PyData.bool (f i)) small (fun i H' R R' hi k h => hs i H' R R' hi k fun H4 k4 => h _ H4 (.bl _) k4) fun D H' acc hD eD hA k => hd D H' hD (by
    have e : (List.range n).map (fun i : Nat => PyData.bool (f i)) = ((List.range n).map f).map PyData.bool := by rw [List.map_map]; rfl
    rw [e] at hA
    rw [eD, hA.bls]) k
end
theorem mapGetJ {K : PySem.W.Frag} {H : Hp} {α : Type} {f : α → PyData} {xs : List V} {as : List α} {i : Nat} {a : α} (h : ImAll K H xs (as.map f)) (e : as[i]? = some a) : ∃ x, atI xs (0 + (i : Int)) = some x ∧ Im K H x (f a) := by
  have hl := mapLenP h
  have hi := (List.getElem?_eq_some_iff.mp e).1
  obtain ⟨x, hx⟩ : ∃ x, xs[i]? = some x := ⟨_, List.getElem?_eq_getElem (by omega)⟩
  obtain ⟨b, hb, hI⟩ := mapGetP h hx
  rw [e] at hb
  cases hb
  refine ⟨x, ?_, hI⟩
  rw [Int.zero_add, atI_nat (by omega) (by omega), Int.toNat_natCast, hx]

/-! ### k66: the law's own reading of a box of two lists -/
structure BxL (H : Hp) (p q1 q2 : Addr) (los his : List Int) : Prop where
  b : H p = some (.lst [.ref q1, .ref q2])
  l : H q1 = some (.lst (los.map V.int))
  h : H q2 = some (.lst (his.map V.int))
theorem BxL.kp0 {H H' : Hp} {p q1 q2 : Addr} {los his : List Int} (k : Kp [] H H') (h : BxL H p q1 q2 los his) : BxL H' p q1 q2 los his := ⟨k.get0 h.b, k.get0 h.l, k.get0 h.h⟩
theorem BxL.kp1 {H H' : Hp} {p q1 q2 t : Addr} {los his : List Int} (k : Kp [t] H H') (h : BxL H p q1 q2 los his) (n0 : p ≠ t) (n1 : q1 ≠ t) (n2 : q2 ≠ t) : BxL H' p q1 q2 los his := ⟨k.get1 n0 h.b, k.get1 n1 h.l, k.get1 n2 h.h⟩
/-- bad ends told by the law: None, or a list that is empty or not -/
def Rs (D : PyData) (b : Bool) : Prop := (D = .none ∧ b = false) ∨ ∃ ds, D = .list ds ∧ (∀ d ∈ ds, Shp 1 d) ∧ (ds = [] ↔ b = true)
theorem Rs.shp {D : PyData} {b : Bool} (h : Rs D b) : SeqAt.shaped D = true := by
  rcases h with ⟨rfl, _⟩ | ⟨ds, rfl, h, _⟩
  · exact (Shp.none (n := 1)).ok
  · exact (Shp.list h).ok
theorem Rs.eqv {D : PyData} {b : Bool} (h : Rs D b) : PyData.eqv D (.list []) = b := by
  rcases h with ⟨rfl, rfl⟩ | ⟨ds, rfl, h, g⟩
  · simp [PyData.eqv]
  · cases ds with
    | nil =>
      rw [g.mp rfl]
      exact (Shp.list (n := 1) (ds := []) (fun d hd => by cases hd)).self
    | cons d ds =>
      have : b = false := by
        cases b with
        | false => rfl
        | true => cases g.mpr rfl
      rw [this]
      simp [PyData.eqv, PyData.eqvAll]
theorem r_eqRs {K : PySem.W.Frag} {H : Hp} {Q : VK} {x : V} {q : Addr} {D : PyData} {b : Bool} (h1 : Dp K H x D) (hr : Rs D b) (h2 : H q = some (.lst [])) (k : Q (.bl b) H) : rEqD K x (.ref q) H Q := by
  refine ⟨D, .list [], h1, .lst (SqL.of h2) .nil, hr.shp, (Shp.list (n := 1) (ds := []) (fun d hd => by cases hd)).ok, ?_⟩
  rw [hr.eqv]
  exact k
def two (v : Int) (s : Int) : PyData := .tuple [.int v, .int s]
theorem two_shp (v s : Int) : Shp 1 (two v s) := .tup fun d hd => by
  simp only [List.mem_cons, List.not_mem_nil, or_false] at hd
  rcases hd with rfl | rfl <;> exact .int _
theorem two_im {K : PySem.W.Frag} {H : Hp} {p : Addr} {v s : Int} (h : SqT K H p [.int v, .int s]) : Im K H (.ref p) (two v s) := .tup h (.cons (.int _) (.cons (.int _) .nil))
theorem im_dpL {K : PySem.W.Frag} {H : Hp} {d : Addr} {refs : List V} {ds : List PyData} (e : H d = some (.lst refs)) (A : ImAll K H refs ds) : Dp K H (.ref d) (.list ds) := .lst (SqL.of e) (ImAll.dp A)
/-! #### plain -/
theorem poss_ex {lo hi : Int} (h : lo ≤ hi) (l : Lit) : ((rgI lo (hi + 1)).map fun x => l.r.h x l.a).any id = possB lo hi l := by
  obtain ⟨v, r, a⟩ := l
  rw [Bool.eq_iff_iff, List.any_map, List.any_eq_true]
  constructor
  · rintro ⟨x, hx, hp⟩
    rw [rgI_mem] at hx
    have hp : r.h x a = true := hp
    cases r <;> simp only [Rel.h, decide_eq_true_eq, possB, Bool.and_eq_true, Bool.or_eq_true] at hp ⊢ <;> omega
  · intro hp
    cases r <;> simp only [decide_eq_true_eq, possB, Bool.and_eq_true, Bool.or_eq_true] at hp
    · exact ⟨lo, rgI_mem.mpr (by omega), by simp [Rel.h]; omega⟩
    · exact ⟨hi, rgI_mem.mpr (by omega), by simp [Rel.h]; omega⟩
    · exact ⟨a, rgI_mem.mpr (by omega), by simp [Rel.h]⟩
    · rcases hp with g | g
      · exact ⟨lo, rgI_mem.mpr (by omega), by simp [Rel.h]; omega⟩
      · exact ⟨hi, rgI_mem.mpr (by omega), by simp [Rel.h]; omega⟩
theorem sure_all {lo hi : Int} (h : lo ≤ hi) (v : Int) (r : Rel) (a : Int) : ((rgI lo (hi + 1)).map fun x => r.h x a).all id = !possB lo hi ⟨v, r.neg, r.nnum a⟩ := by
  have e := poss_ex h ⟨v, r.neg, r.nnum a⟩
  rw [← e, Bool.eq_iff_iff, List.all_map, Bool.not_eq_true', ← Bool.not_eq_true, List.any_map, List.any_eq_true, List.all_eq_true]
  have n : ∀ x, r.neg.h x (r.nnum a) = !r.h x a := fun x => by
    cases r <;> simp only [Rel.neg, Rel.nnum, Rel.h] <;> rw [Bool.eq_iff_iff] <;> simp <;> omega
  constructor
  · rintro q ⟨x, hx, hp⟩
    have h1 : r.h x a = true := q x hx
    have h2 : r.neg.h x (r.nnum a) = true := hp
    rw [n, h1] at h2
    cases h2
  · intro q x hx
    show r.h x a = true
    cases g : r.h x a with
    | true => rfl
    | false => exact absurd ⟨x, hx, by show r.neg.h x (r.nnum a) = true; rw [n, g]; rfl⟩ q
theorem min_prod {lo hi c m : Int} (h : lo ≤ hi) (hm : m ∈ (rgI lo (hi + 1)).map fun x => c * x) (hl : ∀ y ∈ (rgI lo (hi + 1)).map fun x => c * x, m ≤ y) : m = if 0 < c then c * lo else c * hi := by
  obtain ⟨x, hx, rfl⟩ := List.mem_map.mp hm
  rw [rgI_mem] at hx
  have h1 := hl (c * lo) (List.mem_map.mpr ⟨lo, rgI_mem.mpr (by omega), rfl⟩)
  have h2 := hl (c * hi) (List.mem_map.mpr ⟨hi, rgI_mem.mpr (by omega), rfl⟩)
  split
  · rename_i g
    have := Int.mul_le_mul_of_nonneg_left (show lo ≤ x by omega) (show 0 ≤ c by omega)
    omega
  · rename_i g
    have := Int.mul_le_mul_of_nonpos_left (show c ≤ 0 by omega) (show x ≤ hi by omega)
    omega
theorem max_prod {lo hi c m : Int} (h : lo ≤ hi) (hm : m ∈ (rgI lo (hi + 1)).map fun x => c * x) (hl : ∀ y ∈ (rgI lo (hi + 1)).map fun x => c * x, y ≤ m) : m = if 0 < c then c * hi else c * lo := by
  obtain ⟨x, hx, rfl⟩ := List.mem_map.mp hm
  rw [rgI_mem] at hx
  have h1 := hl (c * lo) (List.mem_map.mpr ⟨lo, rgI_mem.mpr (by omega), rfl⟩)
  have h2 := hl (c * hi) (List.mem_map.mpr ⟨hi, rgI_mem.mpr (by omega), rfl⟩)
  split
  · rename_i g
    have := Int.mul_le_mul_of_nonneg_left (show x ≤ hi by omega) (show 0 ≤ c by omega)
    omega
  · rename_i g
    have := Int.mul_le_mul_of_nonpos_left (show c ≤ 0 by omega) (show lo ≤ x by omega)
    omega
/-- the least and the greatest product -/
def mnP (los his : List Int) (z : Int × Int) : Int := if 0 < z.2 then z.2 * at_ los z.1 else z.2 * at_ his z.1
def mxP (los his : List Int) (z : Int × Int) : Int := if 0 < z.2 then z.2 * at_ his z.1 else z.2 * at_ los z.1
def badT (los his : List Int) (s : Int) (z : Int × Int) : Bool := decide (s < mxP los his z - mnP los his z)
theorem rowT_nil {los his : List Int} {s : Int} {z : Int × Int} (nz : z.2 ≠ 0) : rowT los his s z = [] ↔ badT los his s z = false := by
  unfold rowT badT mxP mnP
  rw [decide_eq_false_iff_not]
  split
  · rename_i g
    generalize at_ los z.1 = lo
    generalize at_ his z.1 = hi
    simp only [endsL]
    have e : (lo + s / z.2 < hi) ↔ s < z.2 * hi - z.2 * lo := by
      rw [← Int.mul_sub, show (lo + s / z.2 < hi) ↔ s / z.2 < hi - lo by omega, Int.ediv_lt_iff_lt_mul g, Int.mul_comm]
    split
    · rename_i g2
      have := e.mp g2
      simp
      omega
    · rename_i g2
      have : ¬ s < z.2 * hi - z.2 * lo := fun h => g2 (e.mpr h)
      simp
      omega
  · rename_i g
    generalize at_ los z.1 = lo
    generalize at_ his z.1 = hi
    simp only [endsL]
    have g : 0 < -z.2 := by omega
    have e : (lo < hi - s / -z.2) ↔ s < z.2 * lo - z.2 * hi := by
      rw [← Int.mul_sub, show (lo < hi - s / -z.2) ↔ s / -z.2 < hi - lo by omega, Int.ediv_lt_iff_lt_mul g, show (hi - lo) * -z.2 = z.2 * (lo - hi) by rw [Int.mul_neg, Int.mul_comm, ← Int.mul_neg, Int.neg_sub]]
    split
    · rename_i g2
      have := e.mp g2
      simp
      omega
    · rename_i g2
      have : ¬ s < z.2 * lo - z.2 * hi := fun h => g2 (e.mpr h)
      simp
      omega
theorem row_nil {los his : List Int} {ts : Tms} {n : Int} (nz : ∀ z ∈ ts, z.2 ≠ 0) : rowE los his ts n = some [] ↔ ¬ n < lsB los his ts ∧ ts.filter (badT los his (n - lsB los his ts)) = [] := by
  unfold rowE
  generalize lsB los his ts = L
  by_cases g : n - L < 0
  · rw [if_pos g]
    exact ⟨fun h => (by cases h), fun h => absurd g (by omega)⟩
  · rw [if_neg g, Option.some.injEq, List.filter_eq_nil_iff, List.flatMap_eq_nil_iff]
    refine ⟨fun h => ⟨by omega, fun z hz q => ?_⟩, fun h z hz => ?_⟩
    · rw [(rowT_nil (nz z hz)).mp (h z hz)] at q
      cases q
    · exact (rowT_nil (nz z hz)).mpr (by simpa using h.2 z hz)
theorem lsB_take {los his : List Int} {ts : Tms} {i : Nat} {z : Int × Int} (h : ts[i]? = some z) : lsB los his (ts.take (i + 1)) = lsB los his (ts.take i) + mnP los his z := by
  unfold lsB mnP
  rw [List.take_add_one, h, List.map_append, List.sum_append]
  simp
def spValues (K : PySem.W.Frag) : Sp := fun vs H Q _ => ∃ (p q1 q2 : Addr) (m : Nat) (los his : List Int) (v : Int), vs = [.ref p, .int v] ∧ BxL H p q1 q2 los his ∧ BxW m los his ∧ 0 ≤ v ∧ v < m ∧ ∀ (d : Addr) H', H d = none → H' d = some (.lst ((rgI (at_ los v) (at_ his v + 1)).map V.int)) → Kp [] H H' → Q (.ref d) H'
def spLLeast66 (K : PySem.W.Frag) : Sp := fun vs H Q _ => ∃ (p q1 q2 q : Addr) (m : Nat) (los his : List Int) (ts : Tms), vs = [.ref p, .ref q] ∧ BxL H p q1 q2 los his ∧ BxW m los his ∧ (∀ v : Int, 0 ≤ v → v < m → at_ his v - at_ los v ≤ 1000) ∧ Im K H (.ref q) (tmD ts) ∧ tmW m ts ∧ ∀ H', Kp [] H H' → Q (.int (lsB los his ts)) H'
def spBadRow (K : PySem.W.Frag) : Sp := fun vs H Q _ => ∃ (p q1 q2 q : Addr) (m : Nat) (los his : List Int) (ts : Tms) (n : Int), vs = [.ref p, .ref q] ∧ BxL H p q1 q2 los his ∧ BxW m los his ∧ (∀ v : Int, 0 ≤ v → v < m → at_ his v - at_ los v ≤ 1000) ∧ FactAt K H q (.row ts n) ∧ tmW m ts ∧ ∀ x D H', Dp K H' x D → Rs D (decide (rowE los his ts n = some [])) → Kp [] H H' → Q x H'
def spBadKeep (K : PySem.W.Frag) : Sp := fun vs H Q _ => ∃ (p q1 q2 q : Addr) (m : Nat) (los his : List Int) (l : Lit), vs = [.ref p, .ref q] ∧ BxL H p q1 q2 los his ∧ BxW m los his ∧ LitAt K H q l.v l.r l.a ∧ 0 ≤ l.v ∧ l.v < m ∧ ∀ (d : Addr) (refs : List V) (ds : List PyData) H', H' d = some (.lst refs) → ImAll K H' refs ds → (∀ d ∈ ds, Shp 1 d) → (ds = [] ↔ endsL (at_ los l.v) (at_ his l.v) l = []) → Kp [] H H' → Q (.ref d) H'
def spBadClause (K : PySem.W.Frag) : Sp := fun vs H Q _ => ∃ (p q1 q2 q : Addr) (m : Nat) (los his : List Int) (ls : List Lit), vs = [.ref p, .ref q] ∧ BxL H p q1 q2 los his ∧ BxW m los his ∧ (∀ v : Int, 0 ≤ v → v < m → at_ his v - at_ los v ≤ 1000) ∧ FactAt K H q (.any ls) ∧ ls.length ≤ 60 ∧ (∀ l ∈ ls, 0 ≤ l.v ∧ l.v < m) ∧ ∀ x D H', Dp K H' x D → Rs D (decide (clauseE los his ls = some [])) → Kp [] H H' → Q x H'
def spNum66 : Sp := fun vs H Q _ => ∃ a b : Int, vs = [.int a, .int b] ∧ Q (.bl (decide (a = b))) H
def spBox66 (K : PySem.W.Frag) : Sp := fun vs H Q _ => ∃ (t c l : Addr) (refs : List V) (us : List Un), vs = [.ref t, .ref l] ∧ Tp t c H ∧ H l = some (.lst refs) ∧ l ≠ t ∧ ImAll K H refs (us.map unD) ∧ us.length ≤ 60 ∧ (∀ u ∈ us, -1000 ≤ u.2.1 ∧ u.2.1 ≤ u.2.2 ∧ u.2.2 ≤ 1000) ∧
  ∀ (p q1 q2 : Addr) (los his : List Int) H', BxL H' p q1 q2 los his → H p = none → H q1 = none → H q2 = none → los.length = us.length → sidesOk us los his → Tp t c H' → Kp [t] H H' → Q (.ref p) H'
def spLaw (K : PySem.W.Frag) : Sp := fun vs H Q _ => ∃ (a : Addr) (ns : List Int), vs = [.ref a] ∧ SqL K H a (ns.map V.int) ∧ ns.length ≤ 63 ∧ ∀ H', Q (.bl true) H'

section
variable {P : Program} {w : World} {K : PySem.W.Frag} {mg : Str → Option Value} {base : Heap}
theorem ok_law_number {f : Addr} {fd : FuncData} (F : Fun K "_law_number" "_law_number" s_law_number f fd) (B : Bi K mg)  : FnOk P w K mg base CX0 1 f fd ["_law_answer", "_law_due"] spNum66 := by
  have nd := sc_law_number.nd
  refine F.ok sc_law_number ?len (fun cdv A outer s H vs Q E hr h => ?body)
  case len =>
    rintro vs H Q E ⟨a, b, rfl, _⟩
    rfl
  case body =>
    obtain ⟨a, b, rfl, q⟩ := h
    refine ⟨_, (pss_one (ps_ret (pe_and (pe_callB (cgIsi K) (by rfl) B.n_isinstance (by decide +kernel) (pa_cons (pv 0) (pa_cons (pe_bltn (v := .ty "int") rfl B.n_int (by decide +kernel) rfl) pa_nil))) (pe_and (pe_not (pe_callB (cgIsi K) (by rfl) B.n_isinstance (by decide +kernel) (pa_cons (pv 0) (pa_cons (pe_bltn (v := .ty "bool") rfl B.n_bool (by decide +kernel) rfl) pa_nil)))) (pe_one (pe_cmpR op_eq (pv 0) (pv 1) (nomark _))))))), ?_⟩
    try dsimp only [L2.cxOf, L2.Cx.nox, L2.Cx.wish]
    rw [st_law_number]
    walk_at "cg"
    exact q
theorem ok_law_box {f : Addr} {fd : FuncData} (F : Fun K "_law_box" "_law_box" s_law_box f fd) (B : Bi K mg) (D_law_draw : Is P w K mg base CX0 1 "_law_draw" ["_law_tape_here", "_law_many"] spDraw) : FnOk P w K mg base CX0 2 f fd ["_law_tape_here", "_law_unknowns"] (spBox66 K) := by
  have nd := sc_law_box.nd
  refine F.ok sc_law_box ?len (fun cdv A outer s H vs Q E hr h => ?body)
  case len =>
    rintro vs H Q E ⟨t, c, l, refs, us, rfl, _⟩
    rfl
  case body =>
    obtain ⟨t, c, l, refs, us, rfl, T, el, nlt, A, few, bd, k⟩ := h
    refine ⟨_, (pss_cons (ps_set (i := 2) nd rfl (Or.inl rfl) (pe_lst pa_nil))
      (pss_cons (ps_set (i := 3) nd rfl (Or.inl rfl) (pe_lst pa_nil))
      (pss_cons (ps_for PassesOwn.never rfl ((piLst K) (pv 1)) (pg_tup (n := 3) rfl (pgs_cons (pg_name (i := 4) nd rfl (Or.inl rfl)) (pgs_cons (pg_name (i := 5) nd rfl (Or.inl rfl)) (pgs_cons (pg_name (i := 6) nd rfl (Or.inl rfl)) pgs_nil))))
      (pss_cons (ps_set (i := 7) nd rfl (Or.inl rfl) (pe_op op_add (pv 5) (pe_is D_law_draw (hr.mono (by decide)) rfl pass0 (pa_cons (pv 0) (pa_cons (pe_op op_add (pe_op op_sub (pv 6) (pv 5)) pe_int) pa_nil)))))
      (pss_cons (ps_set (i := 8) nd rfl (Or.inl rfl) (pe_op op_add (pv 5) (pe_is D_law_draw (hr.mono (by decide)) rfl pass0 (pa_cons (pv 0) (pa_cons (pe_op op_add (pe_op op_sub (pv 6) (pv 5)) pe_int) pa_nil)))))
      (pss_cons (ps_expr (pe_bm PySem.F.plainAttrs_list PySem.F.slot_list_append PySem.F.type_list_append mt_append (pv 2) (pa_cons (pe_callB (cg_min2 rfl) (by rfl) B.n_min (by decide +kernel) (pa_cons (pv 7) (pa_cons (pv 8) pa_nil))) pa_nil)))
      (pss_one (ps_expr (pe_bm PySem.F.plainAttrs_list PySem.F.slot_list_append PySem.F.type_list_append mt_append (pv 3) (pa_cons (pe_callB (cg_max2 rfl) (by rfl) B.n_max (by decide +kernel) (pa_cons (pv 7) (pa_cons (pv 8) pa_nil))) pa_nil))))))))
      (pss_one (ps_ret (pe_lst (pa_cons (pv 2) (pa_cons (pv 3) pa_nil)))))))), ?_⟩
    try dsimp only [L2.cxOf, L2.Cx.nox, L2.Cx.wish]
    rw [st_law_box]
    have hrl := mapLenP A
    walk_at "cg"
    rename_i d1 H1 hd1 ed1 k1 d2 H2 hd2 ed2 k2
    have n12 : d1 ≠ d2 := ne_newL hd2 ed1
    have n1t : d1 ≠ t := by walk_at "cg ne"
    have n1c : d1 ≠ c := by walk_at "cg ne"
    have n2t : d2 ≠ t := by walk_at "cg ne"
    have n2c : d2 ≠ c := by walk_at "cg ne"
    have T2 : Tp t c H2 := by walk_at "cg h"
    have K2 : Kp [t] H H2 := by walk_at "cg kp"
    have f1 : H d1 = none := hd1
    have f2 : H d2 = none := by walk_at "cg fr"
    have ed1 := k2.get0 ed1
    have el2 : H2 l = some (.lst refs) := by walk_at "cg h"
    clear k1 k2 hd1 hd2
    walk_at "cg"
    refine r_forL refs (fun i σ' H' => ∃ (ls hs : List Int) (x4 x5 x6 x7 x8 : Option V), σ' = [some (.ref t), some (.ref l), some (.ref d1), some (.ref d2), x4, x5, x6, x7, x8] ∧ Tp t c H' ∧ Kp [t] H H' ∧ H' d1 = some (.lst (ls.map V.int)) ∧ H' d2 = some (.lst (hs.map V.int)) ∧ ls.length = i ∧ sidesOk us ls hs)
      ⟨[], [], _, _, _, _, _, rfl, T2, K2, ed1, ed2, rfl, rfl, fun j u a b _ h => by simp at h⟩ (fun i σ' H' ⟨_, _, _, _, _, _, _, _, _, k3, _⟩ => k3.get1 nlt el) ?_ ?_
    · clear T2 K2 ed1 ed2 el2
      rintro i x σ' H3 hx ⟨ls, hs, x4, x5, x6, x7, x8, rfl, T3, k3, e1, e2, hn, ok⟩
      obtain ⟨u, hu, hxu⟩ := mapGetP (k3.imAll A) hx
      obtain ⟨px, rfl⟩ := Im.isRef hxu
      have sx : SqT K H3 px [.str u.1, .int u.2.1, .int u.2.2] := Im.sq hxu rfl
      have b0 := bd u (List.mem_of_getElem? hu)
      have hi : i < us.length := (List.getElem?_eq_some_iff.mp hu).1
      have hl1 : (ls.map V.int).length ≤ 1000 := by rw [List.length_map]; omega
      have hl2 : (hs.map V.int).length ≤ 1000 := by rw [List.length_map, ← ok.1]; omega
      have mb : LtB (u.2.2 - u.2.1 + 1) := .of (by omega)
      walk_at "cg"
      rename_i da H4 da0 da1 T4 k4 db H5 db0 db1 T5 k5 H6 e6 k6 H7 e7 k7
      refine ⟨ls ++ [_], hs ++ [_], _, _, _, _, _, rfl, by walk_at "cg h", by walk_at "cg kp", lst_snoc (by walk_at "cg h"), lst_snoc (by walk_at "cg h"), by simp [hn], ok.snoc (by rw [hn]; exact hu) ?_⟩
      repeat' split
      all_goals omega
    · clear T2 K2 ed1 ed2 el2
      rintro σ' H3 ⟨ls, hs, x4, x5, x6, x7, x8, rfl, T3, k3, e1, e2, hn, ok⟩
      walk_at "cg"
      rename_i p4 H4 hp4 e4 k4
      exact k p4 d1 d2 ls hs _ ⟨e4, k4.get0 e1, k4.get0 e2⟩ (Tp.free hp4 k3 T3) f1 f2 (by omega) ok (T3.kp0 k4) (Kp.tr0 k4 k3)
theorem ok_law_values {f : Addr} {fd : FuncData} (F : Fun K "_law_values" "_law_values" s_law_values f fd) (B : Bi K mg)  : FnOk P w K mg base CX0 1 f fd ["_law_box_here", "_law_v"] (spValues K) := by
  have nd := sc_law_values.nd
  refine F.ok sc_law_values ?len (fun cdv A outer s H vs Q E hr h => ?body)
  case len =>
    rintro vs H Q E ⟨p, q1, q2, m, los, his, v, rfl, _⟩
    rfl
  case body =>
    obtain ⟨p, q1, q2, m, los, his, v, rfl, Bx, W, v0, v1, k⟩ := h
    refine ⟨_, (pss_one (ps_ret (pe_listRg rfl (by rfl) B.n_list (prg_2 (by rfl) B.n_range (pe_ix (ixL K) (pe_ix (ixL K) (pv 0) pe_int (fun _ _ => rfl)) (pv 1) (fun _ _ => rfl)) (pe_op op_add (pe_ix (ixL K) (pe_ix (ixL K) (pv 0) pe_int (fun _ _ => rfl)) (pv 1) (fun _ _ => rfl)) pe_int))))), ?_⟩
    try dsimp only [L2.cxOf, L2.Cx.nox, L2.Cx.wish]
    rw [st_law_values]
    have hb := Bx.b
    have e1 := atS v0 (by rw [W.a]; exact v1)
    have e2 := atS v0 (by rw [W.b]; exact v1)
    have bd := W.bd v v0 v1
    walk_at "cg"
    refine r_ixL Bx.l e1 ?_
    walk_at "cg"
    refine r_ixL Bx.h e2 ?_
    walk_at "cg"
    refine r_lstRg (by omega) (by omega) fun l H1 hl el k1 => ?_
    walk_at "cg"
    exact k l H1 hl el k1
theorem ok_law_least {f : Addr} {fd : FuncData} (F : Fun K "_law_least" "_law_least" s_law_least f fd) (B : Bi K mg) (D_law_values : Is P w K mg base CX0 1 "_law_values" ["_law_box_here", "_law_v"] (spValues K)) : FnOk P w K mg base CX0 2 f fd ["_law_box_here", "_law_terms_here"] (spLLeast66 K) := by
  have nd := sc_law_least.nd
  refine F.ok sc_law_least ?len (fun cdv A outer s H vs Q E hr h => ?body)
  case len =>
    rintro vs H Q E ⟨p, q1, q2, q, m, los, his, ts, rfl, _⟩
    rfl
  case body =>
    obtain ⟨p, q1, q2, q, m, los, his, ts, rfl, Bx, W, wd, I, tw, k⟩ := h
    refine ⟨_, (pss_cons (ps_set (i := 2) nd rfl (Or.inl rfl) pe_int)
      (pss_cons (ps_for PassesOwn.never rfl (pi_tup (pv 1)) (pg_tup (n := 2) rfl (pgs_cons (pg_name (i := 3) nd rfl (Or.inl rfl)) (pgs_cons (pg_name (i := 4) nd rfl (Or.inr rfl)) pgs_nil)))
      (pss_one (ps_set (i := 2) nd rfl (Or.inl rfl) (pe_op op_add (pv 2) (pe_callB (cr_min rfl) (by rfl) B.n_min (by decide +kernel) (pa_cons (by exact pe_lc (own := [("_law_a", 5)]) (g := (gName 5)) (tt := tYes) rfl nd ((piLst K) (pe_is D_law_values (hr.mono (by decide)) rfl pass0 (pa_cons (pv 0) (pa_cons (pv 3) pa_nil)))) (blkOk_by (N := ["_law_box_here", "_law_terms_here", "_law_total", "_law_v", "_law_c", "_law_a"]) (sc := defScope s_law_least) (by decide +kernel)) (fun _ _ _ _ _ => (pg_name (i := 5) nd rfl (Or.inl rfl))) (fun _ _ _ _ _ => pts_nil) (fun _ _ _ _ _ => (pe_op op_mul (pv 4) (pv 5)))) pa_nil))))))
      (pss_one (ps_ret (pv 2))))), ?_⟩
    try dsimp only [L2.cxOf, L2.Cx.nox, L2.Cx.wish]
    rw [st_law_least]
    obtain ⟨xs, s1, i1⟩ := Im.open I
    walk_at "cg"
    refine r_forTI [] s1 i1 (fun i σ' H' => ∃ x3 x4 x5 : Option V, σ' = [some (.ref p), some (.ref q), some (.int (lsB los his (ts.take i))), x3, x4, x5] ∧ Kp [] H H') ⟨_, _, _, rfl, .refl⟩ (fun i σ' H' ⟨_, _, _, _, e⟩ => e) ?_ ?_
    · rintro i z x σ' H' hz hx k0 ⟨x3, x4, x5, rfl, _⟩
      obtain ⟨px, rfl, sx⟩ := term_at hx
      have oz := tw.2 z (List.mem_of_getElem? hz)
      have bd := W.bd z.1 oz.1 oz.2.1
      have wz := wd z.1 oz.1 oz.2.1
      walk_at "cg"
      refine ⟨p, q1, q2, m, los, his, z.1, rfl, Bx.kp0 k0, W, oz.1, oz.2.1, fun d H2 hd ed k2 => ?_⟩
      have rl : (rgI (at_ los z.1) (at_ his z.1 + 1)).length ≤ 1001 := by rw [rgI_len]; omega
      walk_at "cg"
      refine lcL_i (K := K) (xs := (rgI (at_ los z.1) (at_ his z.1 + 1)).map V.int) (as := rgI (at_ los z.1) (at_ his z.1 + 1)) (d := PyData.int) ed (imInts _) (fun a => z.2 * a) (by omega) (fun j a x H5 R R' ha k5 hxa q5 => ?_) (fun D H5 hD eD k5 => ?_)
      · cases hxa
        have ba := rgI_mem.mp (List.mem_of_getElem? ha)
        walk_at "cg"
        exact q5 _ .refl
      · walk_at "cg"
        refine ⟨D, _, rfl, SqL.of eD, by rw [List.length_map, rgI_len]; omega, fun mm hm hle => ?_⟩
        rw [min_prod bd.2.1 hm hle]
        walk_at "cg"
        rw [lsB_take hz]
        exact ⟨_, _, _, rfl, Kp.tr0 k5 (Kp.tr0 k2 k0)⟩
    · rintro σ' H' k0 ⟨x3, x4, x5, rfl, _⟩
      rw [List.take_length]
      walk_at "cg"
      exact k _ k0
theorem ok_law_bad_row {f : Addr} {fd : FuncData} (F : Fun K "_law_bad_row" "_law_bad_row" s_law_bad_row f fd) (B : Bi K mg) (D_law_least : Is P w K mg base CX0 2 "_law_least" ["_law_box_here", "_law_terms_here"] (spLLeast66 K)) (D_law_values : Is P w K mg base CX0 1 "_law_values" ["_law_box_here", "_law_v"] (spValues K)) : FnOk P w K mg base CX0 3 f fd ["_law_box_here", "_law_row"] (spBadRow K) := by
  have nd := sc_law_bad_row.nd
  refine F.ok sc_law_bad_row ?len (fun cdv A outer s H vs Q E hr h => ?body)
  case len =>
    rintro vs H Q E ⟨p, q1, q2, q, m, los, his, ts, n, rfl, _⟩
    rfl
  case body =>
    obtain ⟨p, q1, q2, q, m, los, his, ts, n, rfl, Bx, W, wd, F, tw, k⟩ := h
    refine ⟨_, (pss_cons (ps_set (i := 2) nd rfl (Or.inl rfl) (pe_is D_law_least (hr.mono (by decide)) rfl pass0 (pa_cons (pv 0) (pa_cons (pe_ix (ixT K) (pv 1) pe_int (fun _ _ => rfl)) pa_nil))))
      (pss_cons (ps_if (pt_cmpR op_gt (pv 2) (pe_ix (ixT K) (pv 1) pe_int (fun _ _ => rfl)) (nomark _))
      (pss_one (ps_ret pe_non))
      pss_nil)
      (pss_cons (ps_set (i := 3) nd rfl (Or.inl rfl) (pe_lst pa_nil))
      (pss_cons (ps_for PassesOwn.never rfl (pi_tup (pe_ix (ixT K) (pv 1) pe_int (fun _ _ => rfl))) (pg_tup (n := 2) rfl (pgs_cons (pg_name (i := 4) nd rfl (Or.inl rfl)) (pgs_cons (pg_name (i := 5) nd rfl (Or.inr rfl)) pgs_nil)))
      (pss_cons (ps_setLc (i := 6) (own := [("_law_a", 7)]) (g := (gName 7)) (tt := tYes) rfl nd rfl rfl (sw_true rfl rfl rfl (by decide +kernel)) ((piLst K) (pe_is D_law_values (hr.mono (by decide)) rfl pass0 (pa_cons (pv 0) (pa_cons (pv 4) pa_nil)))) (blkOk_by (N := ["_law_box_here", "_law_row", "_law_least_here", "_law_found", "_law_v", "_law_c", "_law_products", "_law_a"]) (sc := defScope s_law_bad_row) (by decide +kernel)) (fun _ _ _ _ _ => (pg_name (i := 7) nd rfl (Or.inl rfl))) (fun _ _ _ _ _ => pts_nil) (fun _ _ _ _ _ => (pe_op op_mul (pv 5) (pv 7))))
      (pss_one (ps_if (pt_cmpR op_gt (pe_op op_add (pe_op op_sub (pv 2) (pe_callB (cr_min rfl) (by rfl) B.n_min (by decide +kernel) (pa_cons (pv 6) pa_nil))) (pe_callB (cr_max rfl) (by rfl) B.n_max (by decide +kernel) (pa_cons (pv 6) pa_nil))) (pe_ix (ixT K) (pv 1) pe_int (fun _ _ => rfl)) (nomark _))
      (pss_one (ps_expr (pe_bm PySem.F.plainAttrs_list PySem.F.slot_list_append PySem.F.type_list_append mt_append (pv 3) (pa_cons (pe_tup (pa_cons (pv 4) (pa_cons (pe_callTy cg_int (by rfl) B.n_int PyProof.Rows.boot_int (pa_cons (pe_cmpR op_gt (pv 5) pe_int (nomark _)) pa_nil)) pa_nil))) pa_nil))))
      pss_nil))))
      (pss_one (ps_ret (pv 3))))))), ?_⟩
    try dsimp only [L2.cxOf, L2.Cx.nox, L2.Cx.wish]
    rw [st_law_bad_row]
    obtain ⟨qt, s0, it⟩ := row_open F
    obtain ⟨xs, s1, i1⟩ := Im.open it
    have nz : ∀ z ∈ ts, z.2 ≠ 0 := fun z hz => (tw.2 z hz).2.2.1
    walk_at "cg"
    refine ⟨p, q1, q2, qt, m, los, his, ts, rfl, Bx, W, wd, it, tw, fun H1 k1 => ?_⟩
    have s01 := k1.tup s0
    have rn := row_nil (los := los) (his := his) (n := n) nz
    walk_at "cg"
    refine if_S (fun g => ?_) (fun g => ?_)
    · walk_at "cg"
      refine k .non .none H1 .non (.inl ⟨rfl, decide_eq_false fun h => (rn.mp h).1 g⟩) k1
    · have B1 := Bx.kp0 k1
      walk_at "cg"
      rename_i d H2 hd ed k2
      have fd : H d = none := k1.free0 hd
      have K2 := Kp.tr0 k2 k1
      refine r_forTI [d] (K2.tup s1) (K2.imAll i1) (fun i σ' H' => ∃ (refs : List V) (ds : List PyData) (x5 x6 x7 x8 : Option V), σ' = [some (.ref p), some (.ref q), some (.int (lsB los his ts)), some (.ref d), x5, x6, x7, x8] ∧ H' d = some (.lst refs) ∧ ImAll K H' refs ds ∧ (∀ d ∈ ds, Shp 1 d) ∧ (ds = [] ↔ (ts.take i).filter (badT los his (n - lsB los his ts)) = []) ∧ ds.length ≤ i ∧ Kp [d] H2 H') ⟨[], [], _, _, _, _, rfl, ed, .nil, (fun d hd => by cases hd), by simp, by simp, Kp.base fun b hb => by rw [List.mem_singleton] at hb; rw [hb, ed]; trivial⟩ (fun i σ' H' ⟨_, _, _, _, _, _, _, _, _, _, _, _, h⟩ => h) ?_ ?_
      · rintro i z x σ' H3 hz hx k3 ⟨refs, ds, x5, x6, x7, x8, rfl, e3, A3, sh3, ne3, l3, _⟩
        obtain ⟨px, rfl, sx⟩ := term_at hx
        have hi : i < ts.length := (List.getElem?_eq_some_iff.mp hz).1
        have h60 := tw.1
        have hrl := A3.length
        have oz := tw.2 z (List.mem_of_getElem? hz)
        have bd := W.bd z.1 oz.1 oz.2.1
        have wz := wd z.1 oz.1 oz.2.1
        have KK := Kp.trN k3 K2 fd
        walk_at "cg"
        refine ⟨p, q1, q2, m, los, his, z.1, rfl, Bx.kp0 KK, W, oz.1, oz.2.1, fun d4 H4 hd4 ed4 k4 => ?_⟩
        have rl : (rgI (at_ los z.1) (at_ his z.1 + 1)).length ≤ 1001 := by rw [rgI_len]; omega
        walk_at "cg"
        refine lcL_i (K := K) (xs := (rgI (at_ los z.1) (at_ his z.1 + 1)).map V.int) (as := rgI (at_ los z.1) (at_ his z.1 + 1)) (d := PyData.int) ed4 (imInts _) (fun a => z.2 * a) (by omega) (fun j a x H5 R R' ha k5 hxa q5 => ?_) (fun D H5 hD eD k5 => ?_)
        · cases hxa
          have ba := rgI_mem.mp (List.mem_of_getElem? ha)
          walk_at "cg"
          exact q5 _ .refl
        have K5 := Kp.tr0 k5 k4
        have e5 := K5.get0 e3
        have A5 := K5.imAll A3
        have s05 := K5.tup (KK.tup s0)
        clear k4 k5 ed4 e3 A3 hd4
        walk_at "cg"
        refine ⟨D, _, rfl, SqL.of eD, by rw [List.length_map, rgI_len]; omega, fun mm hm hle => ?_⟩
        rw [min_prod bd.2.1 hm hle]
        walk_at "cg"
        refine ⟨D, _, rfl, SqL.of eD, by rw [List.length_map, rgI_len]; omega, fun mx hm2 hle2 => ?_⟩
        rw [max_prod bd.2.1 hm2 hle2]
        have ec : (n < lsB los his ts - mnP los his z + mxP los his z) ↔ badT los his (n - lsB los his ts) z = true := by
          unfold badT
          rw [decide_eq_true_eq]
          omega
        have ft : (ts.take (i + 1)).filter (badT los his (n - lsB los his ts)) = (ts.take i).filter (badT los his (n - lsB los his ts)) ++ (if badT los his (n - lsB los his ts) z then [z] else []) := by
          rw [List.take_add_one, hz, List.filter_append]
          show _ ++ List.filter _ [z] = _
          rw [List.filter_cons, List.filter_nil]
        rw [show (if 0 < z.2 then z.2 * at_ los z.1 else z.2 * at_ his z.1) = mnP los his z from rfl, show (if 0 < z.2 then z.2 * at_ his z.1 else z.2 * at_ los z.1) = mxP los his z from rfl]
        walk_at "cg"
        refine if_S (fun gb => ?_) (fun gb => ?_)
        · rw [ec.mp gb] at ft
          walk_at "cg"
          rename_i p6 H6 hp6 s6 k6 H7 e7 k7
          refine ⟨_, ds ++ [two z.1 (if decide (0 < z.2) = true then 1 else 0)], _, _, _, _, rfl, e7, (k7.imAll (k6.imAll A5)).snoc (k7.im (two_im s6)), fun d hd => ?_, ?_, by simp; omega, Kp.tr1 k7 (Kp.tr0 k6 (Kp.tr0 K5 k3))⟩
          · rcases List.mem_append.mp hd with h | h
            · exact sh3 d h
            · rw [List.mem_singleton] at h
              rw [h]
              exact two_shp _ _
          · rw [ft]
            simp
        · have gb2 : badT los his (n - lsB los his ts) z = false := by
            cases hbt : badT los his (n - lsB los his ts) z with
            | false => rfl
            | true => exact absurd (ec.mpr hbt) gb
          rw [gb2] at ft
          walk_at "cg"
          refine ⟨refs, ds, _, _, _, _, rfl, e5, A5, sh3, ?_, by omega, Kp.tr0 K5 k3⟩
          rw [ft]
          simpa using ne3
      · rintro σ' H3 k3 ⟨refs, ds, x5, x6, x7, x8, rfl, e3, A3, sh3, ne3, l3, _⟩
        rw [List.take_length] at ne3
        walk_at "cg"
        refine k _ (.list ds) H3 (im_dpL e3 A3) (.inr ⟨ds, rfl, sh3, ?_⟩) (Kp.trN k3 K2 fd)
        rw [ne3, decide_eq_true_eq, rn]
        exact ⟨fun h => ⟨g, h⟩, fun h => h.2⟩
theorem ok_law_bad_keep {f : Addr} {fd : FuncData} (F : Fun K "_law_bad_keep" "_law_bad_keep" s_law_bad_keep f fd) (B : Bi K mg)  : FnOk P w K mg base CX0 1 f fd ["_law_box_here", "_law_literal_here"] (spBadKeep K) := by
  have nd := sc_law_bad_keep.nd
  refine F.ok sc_law_bad_keep ?len (fun cdv A outer s H vs Q E hr h => ?body)
  case len =>
    rintro vs H Q E ⟨p, q1, q2, q, m, los, his, l, rfl, _⟩
    rfl
  case body =>
    obtain ⟨p, q1, q2, q, m, los, his, l, rfl, Bx, W, L, v0, v1, k⟩ := h
    refine ⟨_, (pss_cons (ps_asg (pv 1) (pg_tup (n := 3) rfl (pgs_cons (pg_name (i := 2) nd rfl (Or.inl rfl)) (pgs_cons (pg_name (i := 3) nd rfl (Or.inl rfl)) (pgs_cons (pg_name (i := 4) nd rfl (Or.inl rfl)) pgs_nil)))))
      (pss_cons (ps_set (i := 5) nd rfl (Or.inl rfl) (pe_lst pa_nil))
      (pss_cons (ps_if (pt_cmpR op_ne (pv 3) pe_str (nomark _))
      (pss_cons (ps_if (PW.pt (pw_and (pt_cmpR op_ne (pv 3) pe_str (nomark _)) (pw_and1 (pt_cmpR op_lt (pe_ix (ixL K) (pe_ix (ixL K) (pv 0) pe_int (fun _ _ => rfl)) (pv 2) (fun _ _ => rfl)) (pv 4) (nomark _)))))
      (pss_one (ps_expr (pe_bm PySem.F.plainAttrs_list PySem.F.slot_list_append PySem.F.type_list_append mt_append (pv 5) (pa_cons (pe_tup (pa_cons (pv 2) (pa_cons pe_int pa_nil))) pa_nil))))
      pss_nil)
      (pss_cons (ps_if (PW.pt (pw_and (pt_cmpR op_ne (pv 3) pe_str (nomark _)) (pw_and1 (pt_cmpR op_gt (pe_ix (ixL K) (pe_ix (ixL K) (pv 0) pe_int (fun _ _ => rfl)) (pv 2) (fun _ _ => rfl)) (pv 4) (nomark _)))))
      (pss_one (ps_expr (pe_bm PySem.F.plainAttrs_list PySem.F.slot_list_append PySem.F.type_list_append mt_append (pv 5) (pa_cons (pe_tup (pa_cons (pv 2) (pa_cons pe_int pa_nil))) pa_nil))))
      pss_nil)
      (pss_one (ps_ret (pv 5)))))
      pss_nil)
      (pss_cons (ps_for PassesOwn.never rfl ((piLst K) (pe_lst (pa_cons pe_int (pa_cons pe_int pa_nil)))) (pg_name (i := 6) nd rfl (Or.inl rfl))
      (pss_one (ps_if (pt_cmpR op_eq (pe_ix (ixL K) (pe_ix (ixL K) (pv 0) (pv 6) (fun _ _ => rfl)) (pv 2) (fun _ _ => rfl)) (pv 4) (nomark _))
      (pss_one (ps_expr (pe_bm PySem.F.plainAttrs_list PySem.F.slot_list_append PySem.F.type_list_append mt_append (pv 5) (pa_cons (pe_tup (pa_cons (pv 2) (pa_cons (pv 6) pa_nil))) pa_nil))))
      pss_nil)))
      (pss_one (ps_ret (pv 5))))))), ?_⟩
    try dsimp only [L2.cxOf, L2.Cx.nox, L2.Cx.wish]
    rw [st_law_bad_keep]
    obtain ⟨v, r, a⟩ := l
    dsimp only at L v0 v1 k
    have hb := Bx.b
    have e1 := atS v0 (by rw [W.a]; exact v1)
    have e2 := atS v0 (by rw [W.b]; exact v1)
    have nil1 : ∀ (d : Addr) H', H' d = some (.lst []) → Kp [] H H' → endsL (at_ los v) (at_ his v) ⟨v, r, a⟩ = [] → Q (.ref d) H' := fun d H' e k' h => k d [] [] H' e .nil (fun d hd => by cases hd) (by simp [h]) k'
    have some1 : ∀ (d : Addr) (refs : List V) (ds : List PyData) H', H' d = some (.lst refs) → ImAll K H' refs ds → (∀ d ∈ ds, Shp 1 d) → ds ≠ [] → Kp [] H H' → ¬ endsL (at_ los v) (at_ his v) ⟨v, r, a⟩ = [] → Q (.ref d) H' := fun d refs ds H' e A sh ne k' h => k d refs ds H' e A sh (by simp [h, ne]) k'
    clear k
    cases r with
    | le =>
      walk_at "cg"
      rename_i d H1 hd ed k1
      refine r_ixL (k1.get0 Bx.h) e2 ?_
      walk_at "cg"
      refine if_S (fun g => ?_) (fun g => ?_)
      · walk_at "cg"
        rename_i p2 H2 hp2 s2 k2 H3 e3 k3
        exact some1 d _ [two v 1] _ e3 (.cons (k3.im (two_im s2)) .nil) (fun d hd => by rw [List.mem_singleton] at hd; rw [hd]; exact two_shp _ _) (by simp) (by walk_at "cg kp") (by simp only [endsL, if_pos (show a < at_ his v from g)]; simp)
      · walk_at "cg"
        exact nil1 d _ ed k1 (by simp only [endsL, if_neg (show ¬ a < at_ his v from g)])
    | ge =>
      walk_at "cg"
      rename_i d H1 hd ed k1
      refine r_ixL (k1.get0 Bx.l) e1 ?_
      walk_at "cg"
      refine if_S (fun g => ?_) (fun g => ?_)
      · walk_at "cg"
        rename_i p2 H2 hp2 s2 k2 H3 e3 k3
        exact some1 d _ [two v 0] _ e3 (.cons (k3.im (two_im s2)) .nil) (fun d hd => by rw [List.mem_singleton] at hd; rw [hd]; exact two_shp _ _) (by simp) (by walk_at "cg kp") (by simp only [endsL, if_pos (show at_ los v < a from g)]; simp)
      · walk_at "cg"
        exact nil1 d _ ed k1 (by simp only [endsL, if_neg (show ¬ at_ los v < a from g)])
    | eq =>
      walk_at "cg"
      rename_i d H1 hd ed k1
      refine r_ixL (k1.get0 Bx.l) e1 ?_
      walk_at "cg"
      refine if_S (fun g => ?_) (fun g => ?_)
      · walk_at "cg"
        rename_i p2 H2 hp2 s2 k2 H3 e3 k3
        have K3 : Kp [d] H1 H3 := Kp.tr1 k3 (Kp.tr0 k2 (Kp.base fun b hb => by rw [List.mem_singleton] at hb; rw [hb, ed]; trivial))
        have K3' : Kp [] H H3 := Kp.trN K3 k1 hd
        have h3 := K3'.get0 Bx.h
        have hb3 := K3'.get0 Bx.b
        have i2 := k3.im (two_im s2)
        clear k2 k3 K3 s2
        walk_at "cg"
        refine r_ixL h3 e2 ?_
        walk_at "cg"
        refine if_S (fun g2 => ?_) (fun g2 => ?_)
        · walk_at "cg"
          rename_i p4 H4 hp4 s4 k4 H5 e5 k5
          refine some1 d _ [two v 0, two v 1] _ e5 (.cons (k5.im (k4.im i2)) (.cons (k5.im (two_im s4)) .nil)) (fun d hd => ?_) (by simp) (Kp.trN (Kp.tr1 k5 (Kp.tr0 k4 (Kp.base (S := [d]) fun b hb => by rw [List.mem_singleton] at hb; rw [hb, e3]; trivial))) K3' hd) (by simp only [endsL, if_pos (show at_ los v < a from g)]; simp)
          simp only [List.mem_cons, List.not_mem_nil, or_false] at hd
          rcases hd with rfl | rfl <;> exact two_shp _ _
        · walk_at "cg"
          exact some1 d _ [two v 0] _ e3 (.cons i2 .nil) (fun d hd => by rw [List.mem_singleton] at hd; rw [hd]; exact two_shp _ _) (by simp) K3' (by simp only [endsL, if_pos (show at_ los v < a from g)]; simp)
      · walk_at "cg"
        refine r_ixL (k1.get0 Bx.h) e2 ?_
        walk_at "cg"
        refine if_S (fun g2 => ?_) (fun g2 => ?_)
        · walk_at "cg"
          rename_i p2 H2 hp2 s2 k2 H3 e3 k3
          exact some1 d _ [two v 1] _ e3 (.cons (k3.im (two_im s2)) .nil) (fun d hd => by rw [List.mem_singleton] at hd; rw [hd]; exact two_shp _ _) (by simp) (by walk_at "cg kp") (by simp only [endsL, if_pos (show a < at_ his v from g2)]; simp)
        · walk_at "cg"
          exact nil1 d _ ed k1 (by simp only [endsL, if_neg (show ¬ at_ los v < a from g), if_neg (show ¬ a < at_ his v from g2)]; rfl)
    | ne =>
      walk_at "cg"
      rename_i d H1 hd ed k1 l2 H2 hl2 e2l k2
      have K2 := Kp.tr0 k2 k1
      have fd : H d = none := hd
      have nld : l2 ≠ d := ne_newR hl2 ed
      have ed2 := k2.get0 ed
      have el2 : H2 l2 = some (.lst (([0, 1] : List Int).map V.int)) := e2l
      clear k1 k2 hd ed e2l hl2
      have sd : ∀ s : Int, s = 0 ∨ s = 1 → ∃ q9 ns, atI [V.ref q1, V.ref q2] s = some (.ref q9) ∧ H q9 = some (.lst (List.map V.int ns)) ∧ atI (ns.map V.int) v = some (.int (if s = 0 then at_ los v else at_ his v)) := fun s hs => by
        rcases hs with rfl | rfl
        · exact ⟨q1, los, rfl, Bx.l, e1⟩
        · exact ⟨q2, his, rfl, Bx.h, e2⟩
      refine r_forLI [0, 1] (fun i σ' H' => ∃ (refs : List V) (ds : List PyData) (x6 : Option V), σ' = [some (.ref p), some (.ref q), some (.int v), some (.str Rel.ne.s), some (.int a), some (.ref d), x6] ∧ H' d = some (.lst refs) ∧ ImAll K H' refs ds ∧ (∀ d ∈ ds, Shp 1 d) ∧ ds.length ≤ i ∧ (ds = [] ↔ ∀ s ∈ ([0, 1] : List Int).take i, ¬ (if s = 0 then at_ los v else at_ his v) = a) ∧ Kp [d] H2 H') ⟨[], [], _, rfl, ed2, .nil, (fun d hd => by cases hd), by simp, by simp, Kp.base fun b hb => by rw [List.mem_singleton] at hb; rw [hb, ed2]; trivial⟩ (fun i σ' H' ⟨_, _, _, _, _, _, _, _, _, h⟩ => h.get1 nld el2) ?_ ?_
      · rintro i s σ' H3 hs ⟨refs, ds, x6, rfl, e3, A3, sh3, l3, ne3, k3⟩
        have hi : i < 2 := (List.getElem?_eq_some_iff.mp hs).1
        have hs2 : s = 0 ∨ s = 1 := by
          have := List.mem_of_getElem? hs
          simpa using this
        have hrl := A3.length
        obtain ⟨q9, ns9, a1, a2, a3⟩ := sd s hs2
        have KK := Kp.trN k3 K2 fd
        have nt : ([0, 1] : List Int).take (i + 1) = ([0, 1] : List Int).take i ++ [s] := by rw [List.take_add_one, hs]; rfl
        walk_at "cg"
        refine r_ixL (KK.get0 hb) a1 ?_
        walk_at "cg"
        refine r_ixL (KK.get0 a2) a3 ?_
        generalize hy : (if s = 0 then at_ los v else at_ his v) = y
        walk_at "cg"
        refine if_S (fun g => ?_) (fun g => ?_)
        · walk_at "cg"
          rename_i p4 H4 hp4 s4 k4 H5 e5 k5
          refine ⟨_, ds ++ [two v s], _, rfl, e5, (k5.imAll (k4.imAll A3)).snoc (k5.im (two_im s4)), fun d hd => ?_, by simp; omega, ?_, Kp.tr1 k5 (Kp.tr0 k4 k3)⟩
          · rcases List.mem_append.mp hd with h | h
            · exact sh3 d h
            · rw [List.mem_singleton] at h
              rw [h]
              exact two_shp _ _
          · rw [nt]
            simp only [List.append_eq_nil_iff, List.cons_ne_nil, and_false, false_iff]
            intro h
            exact h s (List.mem_append_right _ List.mem_cons_self) (by rw [hy]; exact g)
        · walk_at "cg"
          refine ⟨refs, ds, _, rfl, e3, A3, sh3, by omega, ?_, k3⟩
          rw [ne3, nt]
          constructor
          · intro h s' hs'
            rcases List.mem_append.mp hs' with h' | h'
            · exact h s' h'
            · rw [List.mem_singleton] at h'
              rw [h', hy]
              exact g
          · exact fun h s' hs' => h s' (List.mem_append_left _ hs')
      · rintro σ' H3 ⟨refs, ds, x6, rfl, e3, A3, sh3, l3, ne3, k3⟩
        have KK := Kp.trN k3 K2 fd
        have en : endsL (at_ los v) (at_ his v) ⟨v, .ne, a⟩ = [] ↔ ds = [] := by
          rw [ne3]
          simp only [endsL]
          constructor
          · intro h s hs
            have hs2 : s = 0 ∨ s = 1 := by
              have hs := List.mem_of_mem_take hs
              simpa using hs
            rw [List.append_eq_nil_iff] at h
            rcases hs2 with rfl | rfl
            · intro e
              have e : at_ los v = a := e
              rw [if_pos e] at h
              exact absurd h.1 (by simp)
            · intro e
              have e : at_ his v = a := e
              rw [if_pos e] at h
              exact absurd h.2 (by simp)
          · intro h
            have h0 : ¬ at_ los v = a := h 0 (by simp)
            have h1 : ¬ at_ his v = a := h 1 (by simp)
            rw [if_neg h0, if_neg h1]
            rfl
        walk_at "cg"
        cases ds with
        | nil =>
          cases A3
          exact nil1 d _ e3 KK (en.mpr rfl)
        | cons d0 ds =>
          exact some1 d _ _ _ e3 A3 sh3 (by simp) KK (fun h => by have := en.mp h; cases this)
theorem ok_law_bad_clause {f : Addr} {fd : FuncData} (F : Fun K "_law_bad_clause" "_law_bad_clause" s_law_bad_clause f fd) (B : Bi K mg) (D_law_bad_keep : Is P w K mg base CX0 1 "_law_bad_keep" ["_law_box_here", "_law_literal_here"] (spBadKeep K)) (D_law_rel : Is P w K mg base CX0 1 "_law_rel" ["_law_relation", "_law_left", "_law_right"] spRel) (D_law_values : Is P w K mg base CX0 1 "_law_values" ["_law_box_here", "_law_v"] (spValues K)) : FnOk P w K mg base CX0 2 f fd ["_law_box_here", "_law_clause"] (spBadClause K) := by
  have nd := sc_law_bad_clause.nd
  refine F.ok sc_law_bad_clause ?len (fun cdv A outer s H vs Q E hr h => ?body)
  case len =>
    rintro vs H Q E ⟨p, q1, q2, q, m, los, his, ls, rfl, _⟩
    rfl
  case body =>
    obtain ⟨p, q1, q2, q, m, los, his, ls, rfl, Bx, W, wd, F, l60, lv, k⟩ := h
    refine ⟨_, (pss_cons (ps_set (i := 2) nd rfl (Or.inl rfl) (pe_lst pa_nil))
      (pss_cons (ps_for PassesOwn.never rfl (pi_tup (pe_ix (ixT K) (pv 1) pe_int (fun _ _ => rfl))) (pg_name (i := 3) nd rfl (Or.inr rfl))
      (pss_one (ps_if (pt_cmpR (inS K) pe_bl (by exact pe_lc (own := [("_law_a", 4)]) (g := (gName 4)) (tt := tYes) rfl nd ((piLst K) (pe_is D_law_values (hr.mono (by decide)) rfl pass0 (pa_cons (pv 0) (pa_cons (pe_ix (ixT K) (pv 3) pe_int (fun _ _ => rfl)) pa_nil)))) (blkOk_by (N := ["_law_box_here", "_law_clause", "_law_live", "_law_literal_here", "_law_a"]) (sc := defScope s_law_bad_clause) (by decide +kernel)) (fun _ _ _ _ _ => (pg_name (i := 4) nd rfl (Or.inl rfl))) (fun _ _ _ _ _ => pts_nil) (fun _ _ _ _ _ => (pe_is D_law_rel (hr.mono (by decide)) rfl pass0 (pa_cons (pe_ix (ixT K) (pv 3) pe_int (fun _ _ => rfl)) (pa_cons (pv 4) (pa_cons (pe_ix (ixT K) (pv 3) pe_int (fun _ _ => rfl)) pa_nil)))))) rfl)
      (pss_one (ps_expr (pe_bm PySem.F.plainAttrs_list PySem.F.slot_list_append PySem.F.type_list_append mt_append (pv 2) (pa_cons (pv 3) pa_nil))))
      pss_nil)))
      (pss_cons (ps_if (pt_cmpR op_eq (pe_callB (cgLen K) (by rfl) B.n_len PySem.boot_len (pa_cons (pv 2) pa_nil)) pe_int (nomark _))
      (pss_one (ps_ret pe_non))
      pss_nil)
      (pss_cons (ps_if (pt_cmpR op_gt (pe_callB (cgLen K) (by rfl) B.n_len PySem.boot_len (pa_cons (pv 2) pa_nil)) pe_int (nomark _))
      (pss_one (ps_ret (pe_lst pa_nil)))
      pss_nil)
      (pss_one (ps_ret (pe_is D_law_bad_keep (hr.mono (by decide)) rfl pass0 (pa_cons (pv 0) (pa_cons (pe_ix (ixL K) (pv 2) pe_int (fun _ _ => rfl)) pa_nil))))))))), ?_⟩
    try dsimp only [L2.cxOf, L2.Cx.nox, L2.Cx.wish]
    rw [st_law_bad_clause]
    obtain ⟨ql, s0, il⟩ := any_open F
    obtain ⟨xs, s1, i1⟩ := Im.open il
    walk_at "cg"
    rename_i d H1 hd ed k1
    have ndm : ∀ {H2 : Hp}, H2 = H1 → True := fun _ => trivial
    refine r_forTI [d] (k1.tup s1) (k1.imAll i1) (fun i σ' H' => ∃ (refs : List V) (x3 x4 : Option V), σ' = [some (.ref p), some (.ref q), some (.ref d), x3, x4] ∧ H' d = some (.lst refs) ∧ ImAll K H' refs (((ls.take i).filter fun l => possB (at_ los l.v) (at_ his l.v) l).map Lit.d) ∧ Kp [d] H1 H') ⟨[], _, _, rfl, ed, .nil, Kp.base fun b hb => by rw [List.mem_singleton] at hb; rw [hb, ed]; trivial⟩ (fun i σ' H' ⟨_, _, _, _, _, _, h⟩ => h) ?_ ?_
    · rintro i l x σ' H2 hl hx k2 ⟨refs, x3, x4, rfl, e2, A2, _⟩
      obtain ⟨px, rfl, L⟩ := lit_at hx
      have ol := lv l (List.mem_of_getElem? hl)
      have bd := W.bd l.v ol.1 ol.2
      have wz := wd l.v ol.1 ol.2
      have KK := Kp.trN k2 k1 hd
      have hi : i < ls.length := (List.getElem?_eq_some_iff.mp hl).1
      have hal := mapLenP A2
      have hf := List.length_filter_le (fun l => possB (at_ los l.v) (at_ his l.v) l) (ls.take i)
      have htl : (ls.take i).length ≤ 60 := by rw [List.length_take]; omega
      have ft : (ls.take (i + 1)).filter (fun l => possB (at_ los l.v) (at_ his l.v) l) = (ls.take i).filter (fun l => possB (at_ los l.v) (at_ his l.v) l) ++ (if possB (at_ los l.v) (at_ his l.v) l then [l] else []) := by
        rw [List.take_add_one, hl, List.filter_append]
        show _ ++ List.filter _ [l] = _
        rw [List.filter_cons, List.filter_nil]
      walk_at "cg"
      refine ⟨p, q1, q2, m, los, his, l.v, rfl, Bx.kp0 KK, W, ol.1, ol.2, fun d4 H4 hd4 ed4 k4 => ?_⟩
      have rl : (rgI (at_ los l.v) (at_ his l.v + 1)).length ≤ 1001 := by rw [rgI_len]; omega
      have L4 := k4.tup L
      walk_at "cg"
      refine lcL_b (K := K) (xs := (rgI (at_ los l.v) (at_ his l.v + 1)).map V.int) (as := rgI (at_ los l.v) (at_ his l.v + 1)) (d := PyData.int) ed4 (imInts _) (fun a => l.r.h a l.a) (by omega) (fun j a x H5 R R' ha k5 hxa q5 => ?_) (fun D H5 hD eD k5 => ?_)
      · cases hxa
        have L5 := k5.tup L4
        walk_at "cg"
        exact q5 _ .refl
      have K5 := Kp.tr0 k5 k4
      have e5 := K5.get0 e2
      have A5 := K5.imAll A2
      have I5 := K5.im hx
      clear k4 k5 ed4 hd4 L4 L
      walk_at "cg"
      refine r_inL eD rfl (flat_bls _) (inV_true _) ?_
      rw [poss_ex bd.2.1]
      cases g : possB (at_ los l.v) (at_ his l.v) l with
      | true =>
        rw [g] at ft
        walk_at "cg"
        rename_i H6 e6 k6
        refine ⟨_, _, _, rfl, e6, ?_, Kp.tr1 k6 (Kp.tr0 K5 k2)⟩
        rw [ft, List.map_append]
        exact (k6.imAll A5).snoc (k6.im I5)
      | false =>
        rw [g] at ft
        walk_at "cg"
        refine ⟨_, _, _, rfl, e5, ?_, Kp.tr0 K5 k2⟩
        rw [ft]
        simpa using A5
    · rintro σ' H2 k2 ⟨refs, x3, x4, rfl, e2, A2, _⟩
      rw [List.take_length] at A2
      have KK := Kp.trN k2 k1 hd
      have hal := mapLenP A2
      have hlv : ∀ l ∈ ls.filter fun l => possB (at_ los l.v) (at_ his l.v) l, 0 ≤ l.v ∧ l.v < m := fun l hl => lv l (List.mem_filter.mp hl).1
      have ec : clauseE los his ls = (match ls.filter fun l => possB (at_ los l.v) (at_ his l.v) l with | [] => none | [l] => some (endsL (at_ los l.v) (at_ his l.v) l) | _ :: _ :: _ => some []) := rfl
      have B2 := Bx.kp0 KK
      generalize ls.filter (fun l => possB (at_ los l.v) (at_ his l.v) l) = fs at A2 hal hlv ec
      match fs, A2, hal, hlv, ec with
      | [], A2, hal, hlv, ec =>
        simp only [List.length_nil] at hal
        walk_at "cg"
        refine k .non .none H2 .non (.inl ⟨rfl, ?_⟩) KK
        rw [ec]
        rfl
      | [l], A2, hal, hlv, ec =>
        simp only [List.length_cons, List.length_nil] at hal
        cases A2 with
        | cons h1 h2 =>
        cases h2
        obtain ⟨px, rfl, L⟩ := lit_at h1
        have ol := hlv l List.mem_cons_self
        walk_at "cg"
        refine ⟨p, q1, q2, px, m, los, his, l, rfl, B2, W, L, ol.1, ol.2, fun d5 refs5 ds5 H5 e5 A5 sh5 n5 k5 => ?_⟩
        refine k _ (.list ds5) H5 (im_dpL e5 A5) (.inr ⟨ds5, rfl, sh5, ?_⟩) (Kp.tr0 k5 KK)
        rw [n5, ec, decide_eq_true_eq, Option.some.injEq]
      | l :: l' :: fs, A2, hal, hlv, ec =>
        simp only [List.length_cons] at hal
        walk_at "cg"
        rename_i p3 H3 hp3 e3 k3
        refine k _ (.list []) H3 (im_dpL e3 .nil) (.inr ⟨[], rfl, (fun d hd => by cases hd), ?_⟩) (Kp.tr0 k3 KK)
        rw [ec]
        simp

end
theorem SqL.kpL {K : PySem.W.Frag} {H H' : Hp} {p : Addr} {xs : List V} (h : SqL K H p xs) (k : Kp [] H H') : SqL K H' p xs := by
  rcases h with (h | ⟨u, h⟩) | h
  · exact .inl (.inl (k.get0 h))
  · exact .inl (.inr ⟨u, k.get0 h⟩)
  · exact .inr h
mutual
theorem Dp.kpD {K : PySem.W.Frag} {H H' : Hp} (k : Kp [] H H') : ∀ {x : V} {d : PyData}, Dp K H x d → Dp K H' x d
  | _, _, .non => .non
  | _, _, .bl b => .bl b
  | _, _, .int i => .int i
  | _, _, .str z => .str z
  | _, _, .lst h a => .lst (SqL.kpL h k) (DpAll.kpD k a)
  | _, _, .tup h a => .tup (k.tup h) (DpAll.kpD k a)
theorem DpAll.kpD {K : PySem.W.Frag} {H H' : Hp} (k : Kp [] H H') : ∀ {xs : List V} {ds : List PyData}, DpAll K H xs ds → DpAll K H' xs ds
  | _, _, .nil => .nil
  | _, _, .cons h a => .cons (Dp.kpD k h) (DpAll.kpD k a)
end
def seqD (b : Bool) (xs : List Int) : PyData := if b then .tuple (xs.map .int) else .list (xs.map .int)
def bxD (b : Bool) (los his : List Int) : PyData := .tuple [seqD b los, seqD b his]
structure BoxS (K : PySem.W.Frag) (H : Hp) (p q1 q2 : Addr) (los his : List Int) (b : Bool) : Prop where
  s : SqT K H p [.ref q1, .ref q2]
  t : b = true → SqT K H q1 (los.map V.int) ∧ SqT K H q2 (his.map V.int)
  l : b = false → H q1 = some (.lst (los.map V.int)) ∧ H q2 = some (.lst (his.map V.int))
section
variable {K : PySem.W.Frag} {H H' : Hp} {p q1 q2 t : Addr} {los his : List Int} {b : Bool}
theorem BoxS.kp0 (k : Kp [] H H') (h : BoxS K H p q1 q2 los his b) : BoxS K H' p q1 q2 los his b := ⟨k.tup h.s, fun e => ⟨k.tup (h.t e).1, k.tup (h.t e).2⟩, fun e => ⟨k.get0 (h.l e).1, k.get0 (h.l e).2⟩⟩
theorem BoxS.kp1 (k : Kp [t] H H') (h : BoxS K H p q1 q2 los his b) (n1 : q1 ≠ t) (n2 : q2 ≠ t) : BoxS K H' p q1 q2 los his b := ⟨k.tup h.s, fun e => ⟨k.tup (h.t e).1, k.tup (h.t e).2⟩, fun e => ⟨k.get1 n1 (h.l e).1, k.get1 n2 (h.l e).2⟩⟩
theorem BoxS.pp (h : BoxS K H p q1 q2 los his b) : BoxP K H p q1 q2 los his := by
  cases b with
  | true => exact ⟨h.s, .inr (h.t rfl).1, .inr (h.t rfl).2⟩
  | false => exact ⟨h.s, .inl (h.l rfl).1, .inl (h.l rfl).2⟩
theorem dpInts (ns : List Int) : DpAll K H (ns.map V.int) (ns.map PyData.int) := ImAll.dp (imInts ns)
theorem BoxS.dp (h : BoxS K H p q1 q2 los his b) : Dp K H (.ref p) (bxD b los his) := by
  cases b with
  | true => exact .tup h.s (.cons (.tup (h.t rfl).1 (dpInts _)) (.cons (.tup (h.t rfl).2 (dpInts _)) .nil))
  | false => exact .tup h.s (.cons (.lst (SqL.of (h.l rfl).1) (dpInts _)) (.cons (.lst (SqL.of (h.l rfl).2) (dpInts _)) .nil))
end
theorem seqD_shw {b : Bool} {xs : List Int} (l : xs.length ≤ 4) (h : ∀ x ∈ xs, -1000 ≤ x ∧ x ≤ 1000) : Shw 100 (seqD b xs) := by
  have a : ∀ d ∈ xs.map PyData.int, Shw 19 d := fun d hd => by
    obtain ⟨x, hx, rfl⟩ := List.mem_map.mp hd
    have := h x hx
    exact shw_int (by omega)
  cases b with
  | true => exact (shw_tup a (by rw [List.length_map]; exact l)).mono (by decide)
  | false => exact (shw_list a (by rw [List.length_map]; exact l)).mono (by decide)
theorem bxD_shw {b : Bool} {los his : List Int} (h1 : Shw 100 (seqD b los)) (h2 : Shw 100 (seqD b his)) : Shw 1000 (bxD b los his) := by
  refine (shw_tup (n := 2) (B := 100) (ds := [seqD b los, seqD b his]) (fun d hd => ?_) (Nat.le_refl 2)).mono (by decide)
  simp only [List.mem_cons, List.not_mem_nil, or_false] at hd
  rcases hd with rfl | rfl
  · exact h1
  · exact h2
theorem seqD_dep (b : Bool) (xs : List Int) : (seqD b xs).depth ≤ 1 := by
  have a : ∀ d ∈ xs.map PyData.int, d.depth ≤ 0 := fun d hd => by
    obtain ⟨x, hx, rfl⟩ := List.mem_map.mp hd
    exact Nat.le_refl _
  cases b with
  | true => exact depth_tup a
  | false => exact depth_list a
theorem bxD_dep (b : Bool) (los his : List Int) : (bxD b los his).depth ≤ 60 := Nat.le_trans (depth_tup (n := 1) fun d hd => by
  simp only [List.mem_cons, List.not_mem_nil, or_false] at hd
  rcases hd with rfl | rfl <;> exact seqD_dep _ _) (by decide)
section
variable {P : Program} {w : World} {K : PySem.W.Frag} {mg : Str → Option Value} {base : Heap}
theorem ok_law {f : Addr} {fd : FuncData} (F : Fun K "law" "law" s_law f fd) (B : Bi K mg) (D_law_tape : Is P w K mg base CX0 1 "_law_tape" ["_law_script"] (spTape K)) (D_law_box : Is P w K mg base CX0 2 "_law_box" ["_law_tape_here", "_law_unknowns"] (spBox66 K)) (D_law_terms : Is P w K mg base CX0 2 "_law_terms" ["_law_tape_here", "_law_many"] (spLawTerms K)) (D_law_least : Is P w K mg base CX0 2 "_law_least" ["_law_box_here", "_law_terms_here"] (spLLeast66 K)) (D_law_world : Is P w K mg base CX0 4 "_law_world" ["_law_tape_here", "_law_most", "_law_width", "_law_bodies"] (spWorld K)) (D_law_draw : Is P w K mg base CX0 1 "_law_draw" ["_law_tape_here", "_law_many"] spDraw) (D_law_rel : Is P w K mg base CX0 1 "_law_rel" ["_law_relation", "_law_left", "_law_right"] spRel) (D_law_same : Is P w K mg base CX0 1 "_law_same" ["_law_answer", "_law_due"] spSame) (D_law_number : Is P w K mg base CX0 1 "_law_number" ["_law_answer", "_law_due"] spNum66) (D_law_values : Is P w K mg base CX0 1 "_law_values" ["_law_box_here", "_law_v"] (spValues K)) (D_is_possible : Is P w K mg base CX0 1 "is_possible" ["box", "literal"] (spPoss K)) (D_is_sure : Is P w K mg base CX0 2 "is_sure" ["box", "literal"] (spSure K)) (D_keeps : Is P w K mg base CX0 2 "keeps" ["box", "literal"] (spKeeps K)) (D_least_sum : Is P w K mg base CX0 1 "least_sum" ["box", "terms"] (spLeastS K)) (D_row_consistent : Is P w K mg base CX0 3 "row_consistent" ["box", "row"] (spRowC K)) (D_clause_consistent : Is P w K mg base CX0 3 "clause_consistent" ["box", "clause"] (spClauseC K)) (D_law_bad_row : Is P w K mg base CX0 3 "_law_bad_row" ["_law_box_here", "_law_row"] (spBadRow K)) (D_law_bad_clause : Is P w K mg base CX0 2 "_law_bad_clause" ["_law_box_here", "_law_clause"] (spBadClause K)) (D_law_bad_keep : Is P w K mg base CX0 1 "_law_bad_keep" ["_law_box_here", "_law_literal_here"] (spBadKeep K)) : FnOkG P w K mg base CX0 5 f fd ["_law_script"] (spLaw K) := by
  have nd := sc_law.nd
  refine okG F sc_law ?len (fun cdv A outer s H vs Q E gg hr h => ?body)
  case len =>
    rintro vs H Q E ⟨a, ns, rfl, _⟩
    rfl
  case body =>
    obtain ⟨a, ns, rfl, hS, hl, q⟩ := h
    refine ⟨_, (pss_cons (ps_set (i := 1) nd rfl (Or.inl rfl) (pe_is D_law_tape (hr.mono (by decide)) rfl pass0 (pa_cons (pv 0) pa_nil)))
      (pss_cons (ps_set (i := 2) nd rfl (Or.inl rfl) (pe_ix (ixL K) (pe_is D_law_world (hr.mono (by decide)) rfl pass0 (pa_cons (pv 1) (pa_cons pe_int (pa_cons pe_int (pa_cons pe_int pa_nil))))) pe_int (fun _ _ => rfl)))
      (pss_cons (ps_set (i := 3) nd rfl (Or.inl rfl) (pe_callB (cgLen K) (by rfl) B.n_len PySem.boot_len (pa_cons (pv 2) pa_nil)))
      (pss_cons (ps_set (i := 4) nd rfl (Or.inl rfl) (pe_is D_law_box (hr.mono (by decide)) rfl pass0 (pa_cons (pv 1) (pa_cons (pv 2) pa_nil))))
      (pss_cons (ps_set (i := 5) nd rfl (Or.inl rfl) (pe_tup (pa_cons (pe_callTy (cgTuple K) (by rfl) B.n_tuple (by decide +kernel) (pa_cons (pe_ix (ixL K) (pv 4) pe_int (fun _ _ => rfl)) pa_nil)) (pa_cons (pe_callTy (cgTuple K) (by rfl) B.n_tuple (by decide +kernel) (pa_cons (pe_ix (ixL K) (pv 4) pe_int (fun _ _ => rfl)) pa_nil)) pa_nil))))
      (Evl.pss_cut (ps_if (pt_cmpR op_eq (pe_is D_law_draw (hr.mono (by decide)) rfl pass0 (pa_cons (pv 1) (pa_cons pe_int pa_nil))) pe_int (nomark _))
      (pss_one (ps_set (i := 5) nd rfl (Or.inl rfl) (pe_tup (pa_cons (pe_callTy (cgList K) (by rfl) B.n_list (by decide +kernel) (pa_cons (pe_ix (ixL K) (pv 4) pe_int (fun _ _ => rfl)) pa_nil)) (pa_cons (pe_callTy (cgList K) (by rfl) B.n_list (by decide +kernel) (pa_cons (pe_ix (ixL K) (pv 4) pe_int (fun _ _ => rfl)) pa_nil)) pa_nil)))))
      pss_nil)
      (pss_cons (ps_set (i := 6) nd rfl (Or.inl rfl) (pe_callB (cg_repr gg hr) (by rfl) B.n_repr (by decide +kernel) (pa_cons (pv 5) pa_nil)))
      (pss_cons (ps_set (i := 7) nd rfl (Or.inr rfl) (pe_tup (pa_cons (pe_is D_law_draw (hr.mono (by decide)) rfl pass0 (pa_cons (pv 1) (pa_cons (pv 3) pa_nil))) (pa_cons (pe_ix (ixL K) (pe_lst (pa_cons pe_str (pa_cons pe_str (pa_cons pe_str (pa_cons pe_str pa_nil))))) (pe_is D_law_draw (hr.mono (by decide)) rfl pass0 (pa_cons (pv 1) (pa_cons pe_int pa_nil))) (fun _ _ => rfl)) (pa_cons pe_int pa_nil)))))
      (pss_cons (ps_set (i := 8) nd rfl (Or.inr rfl) (pe_op op_sub (pe_op op_add (pe_ix (ixL K) (pe_ix (ixL K) (pv 4) pe_int (fun _ _ => rfl)) (pe_ix (ixT K) (pv 7) pe_int (fun _ _ => rfl)) (fun _ _ => rfl)) (pe_is D_law_draw (hr.mono (by decide)) rfl pass0 (pa_cons (pv 1) (pa_cons pe_int pa_nil)))) pe_int))
      (pss_cons (ps_set (i := 7) nd rfl (Or.inr rfl) (pe_tup (pa_cons (pe_ix (ixT K) (pv 7) pe_int (fun _ _ => rfl)) (pa_cons (pe_ix (ixT K) (pv 7) pe_int (fun _ _ => rfl)) (pa_cons (pv 8) pa_nil)))))
      (pss_cons (ps_setLc (i := 9) (own := [("_law_value", 18)]) (g := (gName 18)) (tt := tYes) rfl nd rfl rfl (sw_true rfl rfl rfl (by decide +kernel)) ((piLst K) (pe_is D_law_values (hr.mono (by decide)) rfl pass0 (pa_cons (pv 4) (pa_cons (pe_ix (ixT K) (pv 7) pe_int (fun _ _ => rfl)) pa_nil)))) (blkOk_by (N := ["_law_script", "_law_tape_here", "_law_unknowns", "_law_many", "_law_box_here", "_law_told", "_law_kept", "_law_literal_here", "_law_a", "_law_holds", "_law_terms_here", "_law_least_here", "_law_row", "_law_literals", "_law_k", "_law_v", "_law_relation", "_law_clause", "_law_value"]) (sc := defScope s_law) (by decide +kernel)) (fun _ _ _ _ _ => (pg_name (i := 18) nd rfl (Or.inl rfl))) (fun _ _ _ _ _ => pts_nil) (fun _ _ _ _ _ => (pe_is D_law_rel (hr.mono (by decide)) rfl pass0 (pa_cons (pe_ix (ixT K) (pv 7) pe_int (fun _ _ => rfl)) (pa_cons (pv 18) (pa_cons (pv 8) pa_nil))))))
      (pss_cons (ps_if (pt_not (pt_val (pe_is D_law_same (hr.mono (by decide)) rfl pass0 (pa_cons (pe_is D_is_possible (hr.mono (by decide)) rfl pass0 (pa_cons (pv 5) (pa_cons (pv 7) pa_nil))) (pa_cons (pe_cmpR (inS K) pe_bl (pv 9) rfl) pa_nil)))))
      (pss_one (ps_ret pe_bl))
      pss_nil)
      (pss_cons (ps_if (pt_not (pt_val (pe_is D_law_same (hr.mono (by decide)) rfl pass0 (pa_cons (pe_is D_is_sure (hr.mono (by decide)) rfl pass0 (pa_cons (pv 5) (pa_cons (pv 7) pa_nil))) (pa_cons (pe_cmpR (notInS K) pe_bl (pv 9) rfl) pa_nil)))))
      (pss_one (ps_ret pe_bl))
      pss_nil)
      (pss_cons (ps_if (pt_not (pt_val (pe_is D_law_same (hr.mono (by decide)) rfl pass0 (pa_cons (pe_is D_keeps (hr.mono (by decide)) rfl pass0 (pa_cons (pv 5) (pa_cons (pv 7) pa_nil))) (pa_cons (pe_cmpR op_eq (pe_callB (cgLen K) (by rfl) B.n_len PySem.boot_len (pa_cons (pe_is D_law_bad_keep (hr.mono (by decide)) rfl pass0 (pa_cons (pv 4) (pa_cons (pv 7) pa_nil))) pa_nil)) pe_int (nomark _)) pa_nil)))))
      (pss_one (ps_ret pe_bl))
      pss_nil)
      (pss_cons (ps_set (i := 10) nd rfl (Or.inl rfl) (pe_is D_law_terms (hr.mono (by decide)) rfl pass0 (pa_cons (pv 1) (pa_cons (pv 3) pa_nil))))
      (pss_cons (ps_set (i := 11) nd rfl (Or.inl rfl) (pe_is D_law_least (hr.mono (by decide)) rfl pass0 (pa_cons (pv 4) (pa_cons (pv 10) pa_nil))))
      (pss_cons (ps_if (pt_not (pt_val (pe_is D_law_number (hr.mono (by decide)) rfl pass0 (pa_cons (pe_is D_least_sum (hr.mono (by decide)) rfl pass0 (pa_cons (pv 5) (pa_cons (pv 10) pa_nil))) (pa_cons (pv 11) pa_nil)))))
      (pss_one (ps_ret pe_bl))
      pss_nil)
      (pss_cons (ps_set (i := 12) nd rfl (Or.inl rfl) (pe_tup (pa_cons pe_str (pa_cons (pv 10) (pa_cons (pe_op op_sub (pe_op op_add (pv 11) (pe_is D_law_draw (hr.mono (by decide)) rfl pass0 (pa_cons (pv 1) (pa_cons pe_int pa_nil)))) pe_int) pa_nil)))))
      (pss_cons (ps_if (pt_not (pt_val (pe_is D_law_same (hr.mono (by decide)) rfl pass0 (pa_cons (pe_is D_row_consistent (hr.mono (by decide)) rfl pass0 (pa_cons (pv 5) (pa_cons (pv 12) pa_nil))) (pa_cons (pe_cmpR (eqD K hr) (pe_is D_law_bad_row (hr.mono (by decide)) rfl pass0 (pa_cons (pv 4) (pa_cons (pv 12) pa_nil))) (pe_lst pa_nil) (nomark _)) pa_nil)))))
      (pss_one (ps_ret pe_bl))
      pss_nil)
      (pss_cons (ps_set (i := 13) nd rfl (Or.inl rfl) (pe_lst pa_nil))
      (pss_cons (ps_for PassesOwn.never rfl (pi_range1 rfl B.n_range (pa_cons (pe_is D_law_draw (hr.mono (by decide)) rfl pass0 (pa_cons (pv 1) (pa_cons pe_int pa_nil))) pa_nil)) (pg_name (i := 14) nd rfl (Or.inl rfl))
      (pss_one (ps_if (PW.pt (pw_and (pt_cmpR op_gt (pe_callB (cgLen K) (by rfl) B.n_len PySem.boot_len (pa_cons (pv 13) pa_nil)) pe_int (nomark _)) (pw_and1 (pt_cmpR op_eq (pe_is D_law_draw (hr.mono (by decide)) rfl pass0 (pa_cons (pv 1) (pa_cons pe_int pa_nil))) pe_int (nomark _)))))
      (pss_one (ps_expr (pe_bm PySem.F.plainAttrs_list PySem.F.slot_list_append PySem.F.type_list_append mt_append (pv 13) (pa_cons (pe_ix (ixL K) (pv 13) pe_int (fun _ _ => rfl)) pa_nil))))
      (pss_cons (ps_set (i := 15) nd rfl (Or.inl rfl) (pe_is D_law_draw (hr.mono (by decide)) rfl pass0 (pa_cons (pv 1) (pa_cons (pv 3) pa_nil))))
      (pss_cons (ps_set (i := 16) nd rfl (Or.inl rfl) (pe_ix (ixL K) (pe_lst (pa_cons pe_str (pa_cons pe_str (pa_cons pe_str (pa_cons pe_str pa_nil))))) (pe_is D_law_draw (hr.mono (by decide)) rfl pass0 (pa_cons (pv 1) (pa_cons pe_int pa_nil))) (fun _ _ => rfl)))
      (pss_one (ps_expr (pe_bm PySem.F.plainAttrs_list PySem.F.slot_list_append PySem.F.type_list_append mt_append (pv 13) (pa_cons (pe_tup (pa_cons (pv 15) (pa_cons (pv 16) (pa_cons (pe_op op_sub (pe_op op_add (pe_ix (ixL K) (pe_ix (ixL K) (pv 4) (pe_is D_law_draw (hr.mono (by decide)) rfl pass0 (pa_cons (pv 1) (pa_cons pe_int pa_nil))) (fun _ _ => rfl)) (pv 15) (fun _ _ => rfl)) (pe_is D_law_draw (hr.mono (by decide)) rfl pass0 (pa_cons (pv 1) (pa_cons pe_int pa_nil)))) pe_int) pa_nil)))) pa_nil)))))))))
      (pss_cons (ps_set (i := 17) nd rfl (Or.inl rfl) (pe_tup (pa_cons pe_str (pa_cons (pe_callTy (cgTuple K) (by rfl) B.n_tuple (by decide +kernel) (pa_cons (pv 13) pa_nil)) pa_nil))))
      (pss_cons (ps_if (pt_not (pt_val (pe_is D_law_same (hr.mono (by decide)) rfl pass0 (pa_cons (pe_is D_clause_consistent (hr.mono (by decide)) rfl pass0 (pa_cons (pv 5) (pa_cons (pv 17) pa_nil))) (pa_cons (pe_cmpR (eqD K hr) (pe_is D_law_bad_clause (hr.mono (by decide)) rfl pass0 (pa_cons (pv 4) (pa_cons (pv 17) pa_nil))) (pe_lst pa_nil) (nomark _)) pa_nil)))))
      (pss_one (ps_ret pe_bl))
      pss_nil)
      (pss_one (ps_ret (pe_cmpR op_eq (pe_callB (cg_repr gg hr) (by rfl) B.n_repr (by decide +kernel) (pa_cons (pv 5) pa_nil)) (pv 6) (nomark _))))))))))))))))))))))))))), ?_⟩
    try dsimp only [L2.cxOf, L2.Cx.nox, L2.Cx.wish]
    rw [st_law]
    walk_at "cg"
    refine ⟨a, ns, rfl, hS, fun t c H1 ht hc T1 k1 => ?_⟩
    walk_at "cg"
    refine ⟨t, c, 4, 7, 0, rfl, T1, by decide, by decide, by decide, by decide, by decide, by decide, fun wa M H2 W2 ok sm fw T2 k2 => ?_⟩
    obtain ⟨pg, w1, w2⟩ := W2.w
    obtain ⟨r1, w3, w4⟩ := W2.u
    have nut : wa.u ≠ t := Tp.nef (fw wa.u (by simp [WA.all])) T1
    have n1 := ok.n0
    have n4 : M.us.length ≤ 4 := by have := sm.n; omega
    have hrl := mapLenP w4
    have ub : ∀ u ∈ M.us, -2 ≤ u.2.1 ∧ u.2.1 ≤ u.2.2 ∧ u.2.2 ≤ 8 := fun u hu => by
      have s1 := sm.u u hu
      have s2 := (ok.un u hu).2.2
      omega
    clear k1 k2 fw T1
    walk_at "cg"
    refine ⟨t, c, wa.u, r1, M.us, rfl, T2, w3, nut, w4, by omega, (fun u hu => by have := ub u hu; omega), fun p q1 q2 los his H3 B3 fp f1 f2 hlen sd T3 k3 => ?_⟩
    have npt : p ≠ t := Tp.nef fp T2
    have n1t : q1 ≠ t := Tp.nef f1 T2
    have n2t : q2 ≠ t := Tp.nef f2 T2
    have bw : ∀ v : Int, 0 ≤ v → v < M.us.length → -2 ≤ at_ los v ∧ at_ los v ≤ at_ his v ∧ at_ his v ≤ 8 := fun v h0 h1 => by
      obtain ⟨u, hu⟩ : ∃ u, M.us[v.toNat]? = some u := ⟨_, List.getElem?_eq_getElem (by omega)⟩
      have s1 := sd.at hlen hu
      have s2 := ub u (List.mem_of_getElem? hu)
      rw [Int.toNat_of_nonneg h0] at s1
      omega
    have BW : BxW M.us.length los his := ⟨hlen, by rw [← sd.1]; exact hlen, fun v h0 h1 => by have := bw v h0 h1; omega⟩
    have wd : ∀ v : Int, 0 ≤ v → v < M.us.length → at_ his v - at_ los v ≤ 1000 := fun v h0 h1 => by have := bw v h0 h1; omega
    have memb : ∀ (xs : List Int), xs.length = M.us.length → (∀ v : Int, 0 ≤ v → v < M.us.length → -1000 ≤ at_ xs v ∧ at_ xs v ≤ 1000) → ∀ x ∈ xs, -1000 ≤ x ∧ x ≤ 1000 := fun xs hx hb x hm => by
      obtain ⟨j, hj⟩ := List.getElem?_of_mem hm
      have hjl := (List.getElem?_eq_some_iff.mp hj).1
      have := hb j (by omega) (by omega)
      unfold at_ at this
      rw [Int.toNat_natCast, List.getD_eq_getElem?_getD, hj] at this
      exact this
    have bl := memb los hlen (fun v h0 h1 => by have := bw v h0 h1; omega)
    have bh := memb his (by rw [← sd.1]; exact hlen) (fun v h0 h1 => by have := bw v h0 h1; omega)
    have ml : los.length ≤ 4 := by omega
    have mh : his.length ≤ 4 := by rw [← sd.1]; omega
    rw [hrl]
    clear w1 w2 w3 w4 W2 k3 T2 fp f1 f2 memb sd ub sm ok hrl
    generalize hm : M.us.length = m at *
    clear hm M nut
    have e10 := B3.b
    have e11 := B3.l
    have e12 := B3.h
    walk_at "cg"
    rename_i p4 H4 hp4 s4 k4 p5 H5 hp5 s5 k5 p6 H6 hp6 s6 k6
    have K6 := Kp.tr0 k6 (Kp.tr0 k5 k4)
    have T6 := T3.kp0 K6
    have B6 := B3.kp0 K6
    have S6 : BoxS K H6 p6 p4 p5 los his true := ⟨s6, fun _ => ⟨(Kp.tr0 k6 k5).tup s4, k6.tup s5⟩, fun e => by cases e⟩
    have n4t : p4 ≠ t := Tp.nef hp4 T3
    have n5t : p5 ≠ t := Tp.nef hp5 (T3.kp0 k4)
    clear k4 k5 k6 K6 s4 s5 s6 T3 B3 e10 e11 e12 hp4 hp5 hp6
    refine ⟨fun σ' H' => ∃ (pt x1 x2 : Addr) (b : Bool), σ' = [some (.ref a), some (.ref t), some (.ref wa.u), some (.int (m : Int)), some (.ref p), some (.ref pt), none, none, none, none, none, none, none, none, none, none, none, none, none] ∧ BoxS K H' pt x1 x2 los his b ∧ x1 ≠ t ∧ x2 ≠ t ∧ Tp t c H' ∧ BxL H' p q1 q2 los his, ?_, ?_⟩
    · walk_at "cg"
      rename_i d7 H7 d70 d71 T7 k7
      have B7 := B6.kp1 k7 npt n1t n2t
      have S7 := S6.kp1 k7 n4t n5t
      clear k7 B6 S6 T6
      refine if_S (fun g => ?_) (fun g => ?_)
      · have e0 := B7.b
        walk_at "cg"
        refine r_listL (SqL.of B7.l) fun l8 H8 hl8 e8 k8 => ?_
        have e08 := k8.get0 e0
        walk_at "cg"
        refine r_listL (SqL.of (k8.get0 B7.h)) fun l9 H9 hl9 e9 k9 => ?_
        walk_at "cg"
        rename_i p10 H10 hp10 s10 k10
        have K10 := Kp.tr0 k10 (Kp.tr0 k9 k8)
        exact ⟨p10, l8, l9, false, rfl, ⟨s10, (fun e => by cases e), fun _ => ⟨(Kp.tr0 k10 k9).get0 e8, k10.get0 e9⟩⟩, Tp.nef hl8 T7, Tp.nef hl9 (T7.kp0 k8), T7.kp0 K10, B7.kp0 K10⟩
      · walk_at "cg"
        exact ⟨p6, p4, p5, true, rfl, S7, n4t, n5t, T7, B7⟩
    clear T6 B6 S6 n4t n5t
    rintro σ' H7 ⟨pt, x1, x2, b, rfl, S7, m1t, m2t, T7, B7⟩
    walk_at "cg"
    refine r_repr S7.dp (bxD_shw (seqD_shw ml bl) (seqD_shw mh bh)) (by decide) (bxD_dep _ _ _) ?_
    have mb : LtB (m : Int) := .of (by omega)
    walk_at "cg"
    rename_i d8 H8 d80 d81 T8 k8 l9 H9 hl9 e9 k9 d10 H10 d100 d101 T10 k10
    have n9t : l9 ≠ t := Tp.nef hl9 T8
    refine ix_rel4 (k10.get1 n9t e9) d100 d101 fun r => ?_
    have K10 := Kp.tr1 k10 (Kp.tr0 k9 k8)
    have S10 := S7.kp1 K10 m1t m2t
    have B10 := B7.kp1 K10 npt n1t n2t
    clear k8 k9 k10 K10 e9 hl9 T7 T8 S7 B7
    have e10 := B10.b
    have ea := atS d80 (by rw [BW.a]; exact d81)
    have bd8 := bw d8 d80 d81
    walk_at "cg"
    rename_i p11 H11 hp11 s11 k11
    refine r_ixL (k11.get0 B10.l) ea ?_
    walk_at "cg"
    rename_i d12 H12 d120 d121 T12 k12 p13 H13 hp13 s13 k13
    have K13 := Kp.tr0 k13 (Kp.tr1 k12 (Kp.tr0 k11 (Tp.base T10)))
    have S13 := S10.kp1 K13 m1t m2t
    have B13 := B10.kp1 K13 npt n1t n2t
    have T13 := T12.kp0 k13
    have L13 : LitAt K H13 p13 d8 r (at_ los d8 + d12 - 1) := s13
    generalize hav : at_ los d8 + d12 - 1 = av at L13 s13
    have bav : -100 ≤ av ∧ av ≤ 100 := by omega
    clear k11 k12 k13 K13 s11 hp11 hp13 T10 T12 S10 B10 e10 ea
    walk_at "cg"
    refine ⟨p, q1, q2, m, los, his, d8, rfl, B13, BW, d80, d81, fun l14 H14 hl14 e14 k14 => ?_⟩
    have rl : (rgI (at_ los d8) (at_ his d8 + 1)).length ≤ 1001 := by rw [rgI_len]; omega
    have L14 := k14.tup L13
    walk_at "cg"
    refine lcL_b (K := K) (xs := (rgI (at_ los d8) (at_ his d8 + 1)).map V.int) (as := rgI (at_ los d8) (at_ his d8 + 1)) (d := PyData.int) e14 (imInts _) (fun x => r.h x av) (by omega) (fun j x y H5 R R' ha k5 hxa q5 => ?_) (fun D0 H15 hD eD k15 => ?_)
    · cases hxa
      have L5 := k5.tup L14
      walk_at "cg"
      exact q5 _ .refl
    have K15 := Kp.tr0 k15 k14
    have S15 := S13.kp0 K15
    have B15 := B13.kp0 K15
    have T15 := T13.kp0 K15
    have L15 := K15.tup L13
    clear k14 k15 K15 e14 hl14 L14 S13 B13 T13 L13 s13 rl
    walk_at "cg"
    refine ⟨pt, x1, x2, p13, m, los, his, ⟨d8, r, av⟩, rfl, S15.pp, BW, L15, d80, d81, fun H16 k16 => ?_⟩
    walk_at "cg"
    refine r_inL (k16.get0 eD) rfl (flat_bls _) (inV_true _) ?_
    rw [poss_ex bd8.2.1 ⟨d8, r, av⟩]
    walk_at "cg"
    refine ⟨pt, x1, x2, p13, m, los, his, ⟨d8, r, av⟩, rfl, S15.pp.kp0 k16, BW, k16.tup L15, d80, d81, fun H17 k17 => ?_⟩
    have K17 := Kp.tr0 k17 k16
    walk_at "cg"
    refine r_inL (K17.get0 eD) rfl (flat_bls _) (inV_false _) ?_
    rw [sure_all bd8.2.1 d8 r av]
    walk_at "cg"
    refine ⟨pt, x1, x2, p13, m, los, his, ⟨d8, r, av⟩, rfl, S15.pp.kp0 K17, BW, K17.tup L15, d80, d81, fun H18 k18 => ?_⟩
    have K18 := Kp.tr0 k18 K17
    walk_at "cg"
    refine ⟨p, q1, q2, p13, m, los, his, ⟨d8, r, av⟩, rfl, B15.kp0 K18, BW, K18.tup L15, d80, d81, fun l19 refs19 ds19 H19 e19 A19 sh19 n19 k19 => ?_⟩
    have K19 := Kp.tr0 k19 K18
    have S19 := S15.kp0 K19
    have B19 := B15.kp0 K19
    have T19 := T15.kp0 K19
    have e0 : decide ((refs19.length : Int) = 0) = decide (endsL (at_ los d8) (at_ his d8) ⟨d8, r, av⟩ = []) := by
      rw [Bool.eq_iff_iff, decide_eq_true_eq, decide_eq_true_eq, ← n19, ← List.length_eq_zero_iff, ← A19.length]
      omega
    walk_at "cg"
    rw [e0]
    clear k16 k17 k18 k19 K17 K18 K19 e19 A19 sh19 n19 e0 S15 B15 T15 L15 eD hD
    walk_at "cg"
    refine ⟨t, c, _, rfl, T19, by omega, by omega, fun pts ts H20 I20 tl T20 k20 => ?_⟩
    have S20 := S19.kp1 k20 m1t m2t
    have B20 := B19.kp1 k20 npt n1t n2t
    have tw : tmW m ts := ⟨by have := tl.2.2; omega, fun z hz => by have := tl.1 z hz; omega⟩
    clear k20 S19 B19 T19
    walk_at "cg"
    refine ⟨p, q1, q2, pts, m, los, his, ts, rfl, B20, BW, wd, I20, tw, fun H21 k21 => ?_⟩
    walk_at "cg"
    refine ⟨pt, x1, x2, pts, m, los, his, ts, rfl, S20.pp.kp0 k21, BW, k21.im I20, tw, fun H22 k22 => ?_⟩
    have K22 := Kp.tr0 k22 k21
    have S22 := S20.kp0 K22
    have B22 := B20.kp0 K22
    have T22 := T20.kp0 K22
    have I22 := K22.im I20
    clear k21 k22 K22 S20 B20 T20 I20
    walk_at "cg"
    refine ⟨_, _, rfl, ?_⟩
    walk_at "cg"
    rename_i d23 H23 d230 d231 T23 k23 p24 H24 hp24 s24 k24
    have K24 := Kp.tr0 k24 k23
    have F24 : FactAt K H24 p24 (.row ts (lsB los his ts + d23 - 2)) := row_mk s24 (K24.im I22)
    have S24 := S22.kp1 K24 m1t m2t
    have B24 := B22.kp1 K24 npt n1t n2t
    have T24 := T23.kp0 k24
    generalize lsB los his ts + d23 - 2 = rhs at F24
    clear k23 k24 K24 s24 hp24 S22 B22 T22 T23 I22
    walk_at "cg"
    refine ⟨pt, x1, x2, p24, m, los, his, ts, rhs, rfl, S24.pp, BW, F24, tw, fun H25 k25 => ?_⟩
    walk_at "cg"
    refine ⟨p, q1, q2, p24, m, los, his, ts, rhs, rfl, B24.kp0 k25, BW, wd, k25.im F24, tw, fun y D H26 dp rs k26 => ?_⟩
    have K26 := Kp.tr0 k26 k25
    have S26 := S24.kp0 K26
    have B26 := B24.kp0 K26
    have T26 := T24.kp0 K26
    clear k25 k26 K26 S24 B24 T24 F24
    walk_at "cg"
    rename_i l27 H27 hl27 e27 k27
    refine r_eqRs (Dp.kpD k27 dp) rs e27 ?_
    have S27 := S26.kp0 k27
    have B27 := B26.kp0 k27
    have T27 := T26.kp0 k27
    clear k27 dp S26 B26 T26 e27 hl27 rs
    walk_at "cg"
    rename_i l28 H28 hl28 e28 k28 d29 H29 d290 d291 T29 k29
    have nlt : l28 ≠ t := Tp.nef hl28 T27
    have nlc : l28 ≠ c := Tp.nefc hl28 T27
    have e29 := k29.get1 nlt e28
    have K29 := Kp.tr1 k29 (Kp.tr0 k28 (Tp.base T27))
    have S29 := S27.kp1 K29 m1t m2t
    have B29 := B27.kp1 K29 npt n1t n2t
    have nlx : ∀ x9, x9 = x1 ∨ x9 = x2 → H27 x9 ≠ none → x9 ≠ l28 := fun x9 _ h e => h (by rw [e]; exact hl28)
    have npl : p ≠ l28 := ne_newL hl28 B27.b
    have n1l : q1 ≠ l28 := ne_newL hl28 B27.l
    have n2l : q2 ≠ l28 := ne_newL hl28 B27.h
    have m1l : b = false → x1 ≠ l28 := fun e => ne_newL hl28 (S27.l e).1
    have m2l : b = false → x2 ≠ l28 := fun e => ne_newL hl28 (S27.l e).2
    have SK : ∀ {H' H2 : Hp}, BoxS K H' pt x1 x2 los his b → Kp [l28] H' H2 → BoxS K H2 pt x1 x2 los his b := fun h k => ⟨k.tup h.s, fun e => ⟨k.tup (h.t e).1, k.tup (h.t e).2⟩, fun e => ⟨k.get1 (m1l e) (h.l e).1, k.get1 (m2l e) (h.l e).2⟩⟩
    clear k28 k29 K29 e28 T27 S27 B27 nlx
    refine r_forR (fun i σ' H' => ∃ (refs : List V) (ls : List Lit) (y14 y15 y16 : Option V), σ' = [some (.ref a), some (.ref t), some (.ref wa.u), some (.int (m : Int)), some (.ref p), some (.ref pt), some (.str (bxD b los his).shown), some (.ref p13), some (.int av), some (.ref D0), some (.ref pts), some (.int (lsB los his ts)), some (.ref p24), some (.ref l28), y14, y15, y16, none, none] ∧ H' l28 = some (.lst refs) ∧ ImAll K H' refs (ls.map Lit.d) ∧ ls.length ≤ i ∧ (∀ l ∈ ls, 0 ≤ l.v ∧ l.v < m) ∧ BoxS K H' pt x1 x2 los his b ∧ BxL H' p q1 q2 los his ∧ Tp t c H') ⟨[], [], _, _, _, rfl, e29, .nil, by simp, (fun l hl => by cases hl), S29, B29, T29⟩ ?_ ?_
    · clear S29 B29 T29 e29
      rintro i σ' H30 hi ⟨refs, ls, y14, y15, y16, rfl, e30, A30, l30, v30, S30, B30, T30⟩
      have hrl := mapLenP A30
      have hi : i < 5 := by omega
      have app : ∀ (H' H2 : Hp) (px : Addr) (l : Lit), H' l28 = some (.lst refs) → ImAll K H' refs (ls.map Lit.d) → Im K H' (.ref px) l.d → 0 ≤ l.v → l.v < m → BoxS K H' pt x1 x2 los his b → BxL H' p q1 q2 los his → Tp t c H' → H2 l28 = some (.lst (refs ++ [.ref px])) → Kp [l28] H' H2 → ∀ (y14 y15 y16 : Option V), ∃ (refs : List V) (ls : List Lit) (z14 z15 z16 : Option V), ([some (.ref a), some (.ref t), some (.ref wa.u), some (.int (m : Int)), some (.ref p), some (.ref pt), some (.str (bxD b los his).shown), some (.ref p13), some (.int av), some (.ref D0), some (.ref pts), some (.int (lsB los his ts)), some (.ref p24), some (.ref l28), y14, y15, y16, none, none] : St) = [some (.ref a), some (.ref t), some (.ref wa.u), some (.int (m : Int)), some (.ref p), some (.ref pt), some (.str (bxD b los his).shown), some (.ref p13), some (.int av), some (.ref D0), some (.ref pts), some (.int (lsB los his ts)), some (.ref p24), some (.ref l28), z14, z15, z16, none, none] ∧ H2 l28 = some (.lst refs) ∧ ImAll K H2 refs (ls.map Lit.d) ∧ ls.length ≤ i + 1 ∧ (∀ l ∈ ls, 0 ≤ l.v ∧ l.v < m) ∧ BoxS K H2 pt x1 x2 los his b ∧ BxL H2 p q1 q2 los his ∧ Tp t c H2 := fun H' H2 px l _ A I v0 v1 S B T e k y14 y15 y16 =>
        ⟨_, ls ++ [l], y14, y15, y16, rfl, e, by rw [List.map_append]; exact (k.imAll A).snoc (k.im I), by simp; omega, fun l' hl' => by
          rcases List.mem_append.mp hl' with h | h
          · exact v30 l' h
          · rw [List.mem_singleton] at h
            rw [h]
            exact ⟨v0, v1⟩, SK S k, B.kp1 k npl n1l n2l, T.kp1 k nlt.symm nlc.symm⟩
      have mb : LtB (m : Int) := .of (by omega)
      walk_at "cg"
      refine if_S (fun g => ?_) (fun g => ?_)
      · walk_at "cg"
        rename_i d31 H31 d310 d311 T31 k31
        have e31 := k31.get1 nlt e30
        have A31 := k31.imAll A30
        have S31 := S30.kp1 k31 m1t m2t
        have B31 := B30.kp1 k31 npt n1t n2t
        clear k31 e30 A30 S30 B30 T30
        refine if_S (fun g2 => ?_) (fun g2 => ?_)
        · obtain ⟨l0, hl0⟩ : ∃ l0, ls[0]? = some l0 := ⟨_, List.getElem?_eq_getElem (by omega)⟩
          obtain ⟨x9, a1, I9⟩ := mapGetJ A31 hl0
          obtain ⟨px, rfl⟩ := Im.isRef (show Im K H31 x9 (.tuple _) from I9)
          have v0 := v30 l0 (List.mem_of_getElem? hl0)
          walk_at "cg"
          refine r_ixL e31 a1 ?_
          walk_at "cg"
          rename_i H38 e38 k38
          exact app _ _ _ l0 e31 A31 I9 v0.1 v0.2 S31 B31 T31 e38 k38 _ _ _
        · clear d310 d311
          walk_at "cg"
          rename_i d32 H32 d320 d321 T32 k32 l33 H33 hl33 e33 k33 d34 H34 d340 d341 T34 k34
          refine ix_rel4 (k34.get1 (Tp.nef hl33 T32) e33) d340 d341 fun r9 => ?_
          have K34 := Kp.tr1 k34 (Kp.tr0 k33 k32)
          have e34 := K34.get1 nlt e31
          have A34 := K34.imAll A31
          have S34 := S31.kp1 K34 m1t m2t
          have B34 := B31.kp1 K34 npt n1t n2t
          clear k32 k33 k34 K34 e33 hl33 e31 A31 S31 B31 T31 T32
          have eb := B34.b
          walk_at "cg"
          rename_i d35 H35 d350 d351 T35 k35
          have B35 := B34.kp1 k35 npt n1t n2t
          obtain ⟨q9, ns9, a1, a2, a3, a4⟩ : ∃ q9 ns9, atI [V.ref q1, V.ref q2] d35 = some (.ref q9) ∧ H35 q9 = some (.lst (List.map V.int ns9)) ∧ d32 < ns9.length ∧ q9 ≠ t := by
            have hd : d35 = 0 ∨ d35 = 1 := by omega
            rcases hd with rfl | rfl
            · exact ⟨q1, los, rfl, B35.l, by rw [BW.a]; exact d321, n1t⟩
            · exact ⟨q2, his, rfl, B35.h, by rw [BW.b]; exact d321, n2t⟩
          refine r_ixL B35.b a1 ?_
          walk_at "cg"
          refine r_ixL a2 (atS d320 a3) ?_
          walk_at "cg"
          rename_i d36 H36 d360 d361 T36 k36 p37 H37 hp37 s37 k37 H38 e38 k38
          have K37 := Kp.tr0 k37 (Kp.tr1 k36 k35)
          have e37 := K37.get1 nlt e34
          have A37 := K37.imAll A34
          have S37 := S34.kp1 K37 m1t m2t
          have B37 := B34.kp1 K37 npt n1t n2t
          have T37 := T36.kp0 k37
          have I37 := litI (l := ⟨d32, r9, at_ ns9 d32 + d36 - 2⟩) s37
          exact app _ _ _ _ e37 A37 I37 d320 d321 S37 B37 T37 e38 k38 _ _ _
      · have e31 := e30
        have A31 := A30
        have S31 := S30
        have B31 := B30
        have T31 := T30
        clear e30 A30 S30 B30 T30
        walk_at "cg"
        rename_i d32 H32 d320 d321 T32 k32 l33 H33 hl33 e33 k33 d34 H34 d340 d341 T34 k34
        refine ix_rel4 (k34.get1 (Tp.nef hl33 T32) e33) d340 d341 fun r9 => ?_
        have K34 := Kp.tr1 k34 (Kp.tr0 k33 k32)
        have e34 := K34.get1 nlt e31
        have A34 := K34.imAll A31
        have S34 := S31.kp1 K34 m1t m2t
        have B34 := B31.kp1 K34 npt n1t n2t
        clear k32 k33 k34 K34 e33 hl33 e31 A31 S31 B31 T31 T32
        have eb := B34.b
        walk_at "cg"
        rename_i d35 H35 d350 d351 T35 k35
        have B35 := B34.kp1 k35 npt n1t n2t
        obtain ⟨q9, ns9, a1, a2, a3, a4⟩ : ∃ q9 ns9, atI [V.ref q1, V.ref q2] d35 = some (.ref q9) ∧ H35 q9 = some (.lst (List.map V.int ns9)) ∧ d32 < ns9.length ∧ q9 ≠ t := by
          have hd : d35 = 0 ∨ d35 = 1 := by omega
          rcases hd with rfl | rfl
          · exact ⟨q1, los, rfl, B35.l, by rw [BW.a]; exact d321, n1t⟩
          · exact ⟨q2, his, rfl, B35.h, by rw [BW.b]; exact d321, n2t⟩
        refine r_ixL B35.b a1 ?_
        walk_at "cg"
        refine r_ixL a2 (atS d320 a3) ?_
        walk_at "cg"
        rename_i d36 H36 d360 d361 T36 k36 p37 H37 hp37 s37 k37 H38 e38 k38
        have K37 := Kp.tr0 k37 (Kp.tr1 k36 k35)
        have e37 := K37.get1 nlt e34
        have A37 := K37.imAll A34
        have S37 := S34.kp1 K37 m1t m2t
        have B37 := B34.kp1 K37 npt n1t n2t
        have T37 := T36.kp0 k37
        have I37 := litI (l := ⟨d32, r9, at_ ns9 d32 + d36 - 2⟩) s37
        exact app _ _ _ _ e37 A37 I37 d320 d321 S37 B37 T37 e38 k38 _ _ _
    · clear S29 B29 T29 e29
      rintro σ' H30 ⟨refs, ls, y14, y15, y16, rfl, e30, A30, l30, v30, S30, B30, T30⟩
      walk_at "cg"
      rename_i p31 H31 hp31 s31 k31 p32 H32 hp32 s32 k32
      have K32 := Kp.tr0 k32 k31
      have F32 : FactAt K H32 p32 (.any ls) := any_mk s32 (.tup (k32.tup s31) (K32.imAll A30))
      have S32 := S30.kp0 K32
      have B32 := B30.kp0 K32
      clear k31 k32 K32 s31 s32 hp31 hp32 e30 A30 S30 B30 T30
      walk_at "cg"
      refine ⟨pt, x1, x2, p32, m, los, his, ls, rfl, S32.pp, BW, F32, by omega, v30, fun H33 k33 => ?_⟩
      walk_at "cg"
      refine ⟨p, q1, q2, p32, m, los, his, ls, rfl, B32.kp0 k33, BW, wd, k33.im F32, by omega, v30, fun y D H34 dp rs k34 => ?_⟩
      have S34 := S32.kp0 (Kp.tr0 k34 k33)
      clear k33 k34 S32 B32 F32
      walk_at "cg"
      rename_i l35 H35 hl35 e35 k35
      refine r_eqRs (Dp.kpD k35 dp) rs e35 ?_
      have S35 := S34.kp0 k35
      clear k35 dp S34 e35 hl35 rs
      walk_at "cg"
      refine r_repr S35.dp (bxD_shw (seqD_shw ml bl) (seqD_shw mh bh)) (by decide) (bxD_dep _ _ _) ?_
      walk_at "cg"
      rw [decide_eq_true (show (_ : Str) = _ from rfl)]
      exact q _
end

theorem all_mk {l : PySem.W.OpenLaw} {w : World} {K : PySem.W.Frag} {h : Heap} {mg : Str → Option Value} {fa : Addr} (X : K.In h) (G : h.Ns mainGlobals mg) (hfa : mg "law" = some (.ref fa))
    {od_negated an_negated : Option Addr} {sl_negated : Array (Option Value)} {f_negated : Addr} {oc_negated kV_negated dc_negated pm_negated cd_negated ct_negated : Value}
    {od_is_possible an_is_possible : Option Addr} {sl_is_possible : Array (Option Value)} {f_is_possible : Addr} {oc_is_possible kV_is_possible dc_is_possible pm_is_possible cd_is_possible ct_is_possible : Value}
    {od_is_sure an_is_sure : Option Addr} {sl_is_sure : Array (Option Value)} {f_is_sure : Addr} {oc_is_sure kV_is_sure dc_is_sure pm_is_sure cd_is_sure ct_is_sure : Value}
    {od_least_sum an_least_sum : Option Addr} {sl_least_sum : Array (Option Value)} {f_least_sum : Addr} {oc_least_sum kV_least_sum dc_least_sum pm_least_sum cd_least_sum ct_least_sum : Value}
    {od_ends_wanted an_ends_wanted : Option Addr} {sl_ends_wanted : Array (Option Value)} {f_ends_wanted : Addr} {oc_ends_wanted kV_ends_wanted dc_ends_wanted pm_ends_wanted cd_ends_wanted ct_ends_wanted : Value}
    {od_keeps an_keeps : Option Addr} {sl_keeps : Array (Option Value)} {f_keeps : Addr} {oc_keeps kV_keeps dc_keeps pm_keeps cd_keeps ct_keeps : Value}
    {od_row_ends an_row_ends : Option Addr} {sl_row_ends : Array (Option Value)} {f_row_ends : Addr} {oc_row_ends kV_row_ends dc_row_ends pm_row_ends cd_row_ends ct_row_ends : Value}
    {od_clause_ends an_clause_ends : Option Addr} {sl_clause_ends : Array (Option Value)} {f_clause_ends : Addr} {oc_clause_ends kV_clause_ends dc_clause_ends pm_clause_ends cd_clause_ends ct_clause_ends : Value}
    {od_row_consistent an_row_consistent : Option Addr} {sl_row_consistent : Array (Option Value)} {f_row_consistent : Addr} {oc_row_consistent kV_row_consistent dc_row_consistent pm_row_consistent cd_row_consistent ct_row_consistent : Value}
    {od_clause_consistent an_clause_consistent : Option Addr} {sl_clause_consistent : Array (Option Value)} {f_clause_consistent : Addr} {oc_clause_consistent kV_clause_consistent dc_clause_consistent pm_clause_consistent cd_clause_consistent ct_clause_consistent : Value}
    {od_law_draw an_law_draw : Option Addr} {sl_law_draw : Array (Option Value)} {f_law_draw : Addr} {oc_law_draw kV_law_draw dc_law_draw pm_law_draw cd_law_draw ct_law_draw : Value}
    {od_law_tape an_law_tape : Option Addr} {sl_law_tape : Array (Option Value)} {f_law_tape : Addr} {oc_law_tape kV_law_tape dc_law_tape pm_law_tape cd_law_tape ct_law_tape : Value}
    {od_law_terms an_law_terms : Option Addr} {sl_law_terms : Array (Option Value)} {f_law_terms : Addr} {oc_law_terms kV_law_terms dc_law_terms pm_law_terms cd_law_terms ct_law_terms : Value}
    {od_law_literal an_law_literal : Option Addr} {sl_law_literal : Array (Option Value)} {f_law_literal : Addr} {oc_law_literal kV_law_literal dc_law_literal pm_law_literal cd_law_literal ct_law_literal : Value}
    {od_law_some an_law_some : Option Addr} {sl_law_some : Array (Option Value)} {f_law_some : Addr} {oc_law_some kV_law_some dc_law_some pm_law_some cd_law_some ct_law_some : Value}
    {od_law_body an_law_body : Option Addr} {sl_law_body : Array (Option Value)} {f_law_body : Addr} {oc_law_body kV_law_body dc_law_body pm_law_body cd_law_body ct_law_body : Value}
    {od_law_world an_law_world : Option Addr} {sl_law_world : Array (Option Value)} {f_law_world : Addr} {oc_law_world kV_law_world dc_law_world pm_law_world cd_law_world ct_law_world : Value}
    {od_law_rel an_law_rel : Option Addr} {sl_law_rel : Array (Option Value)} {f_law_rel : Addr} {oc_law_rel kV_law_rel dc_law_rel pm_law_rel cd_law_rel ct_law_rel : Value}
    {od_law_same an_law_same : Option Addr} {sl_law_same : Array (Option Value)} {f_law_same : Addr} {oc_law_same kV_law_same dc_law_same pm_law_same cd_law_same ct_law_same : Value}
    {od_law_number an_law_number : Option Addr} {sl_law_number : Array (Option Value)} {f_law_number : Addr} {oc_law_number kV_law_number dc_law_number pm_law_number cd_law_number ct_law_number : Value}
    {od_law_box an_law_box : Option Addr} {sl_law_box : Array (Option Value)} {f_law_box : Addr} {oc_law_box kV_law_box dc_law_box pm_law_box cd_law_box ct_law_box : Value}
    {od_law_values an_law_values : Option Addr} {sl_law_values : Array (Option Value)} {f_law_values : Addr} {oc_law_values kV_law_values dc_law_values pm_law_values cd_law_values ct_law_values : Value}
    {od_law_least an_law_least : Option Addr} {sl_law_least : Array (Option Value)} {f_law_least : Addr} {oc_law_least kV_law_least dc_law_least pm_law_least cd_law_least ct_law_least : Value}
    {od_law_bad_row an_law_bad_row : Option Addr} {sl_law_bad_row : Array (Option Value)} {f_law_bad_row : Addr} {oc_law_bad_row kV_law_bad_row dc_law_bad_row pm_law_bad_row cd_law_bad_row ct_law_bad_row : Value}
    {od_law_bad_keep an_law_bad_keep : Option Addr} {sl_law_bad_keep : Array (Option Value)} {f_law_bad_keep : Addr} {oc_law_bad_keep kV_law_bad_keep dc_law_bad_keep pm_law_bad_keep cd_law_bad_keep ct_law_bad_keep : Value}
    {od_law_bad_clause an_law_bad_clause : Option Addr} {sl_law_bad_clause : Array (Option Value)} {f_law_bad_clause : Addr} {oc_law_bad_clause kV_law_bad_clause dc_law_bad_clause pm_law_bad_clause cd_law_bad_clause ct_law_bad_clause : Value}
    {od_law an_law : Option Addr} {sl_law : Array (Option Value)} {f_law : Addr} {oc_law kV_law dc_law pm_law cd_law ct_law : Value}
    (a_negated : PySem.W.nsIn K mainGlobals "negated" = some (some (.ref f_negated))) (l_negated : K.lookup f_negated = some ⟨oc_negated, od_negated, .func (PySem.W.fnOf "negated" "negated" (defArgs s_negated) (defBody s_negated) (defScope s_negated) .none kV_negated dc_negated pm_negated an_negated cd_negated ct_negated), sl_negated⟩) (c_negated : PySem.W.codeIn K cd_negated "negated" = true) (k_negated : PySem.W.keepIn K (.ref f_negated) = true)
    (a_is_possible : PySem.W.nsIn K mainGlobals "is_possible" = some (some (.ref f_is_possible))) (l_is_possible : K.lookup f_is_possible = some ⟨oc_is_possible, od_is_possible, .func (PySem.W.fnOf "is_possible" "is_possible" (defArgs s_is_possible) (defBody s_is_possible) (defScope s_is_possible) .none kV_is_possible dc_is_possible pm_is_possible an_is_possible cd_is_possible ct_is_possible), sl_is_possible⟩) (c_is_possible : PySem.W.codeIn K cd_is_possible "is_possible" = true) (k_is_possible : PySem.W.keepIn K (.ref f_is_possible) = true)
    (a_is_sure : PySem.W.nsIn K mainGlobals "is_sure" = some (some (.ref f_is_sure))) (l_is_sure : K.lookup f_is_sure = some ⟨oc_is_sure, od_is_sure, .func (PySem.W.fnOf "is_sure" "is_sure" (defArgs s_is_sure) (defBody s_is_sure) (defScope s_is_sure) .none kV_is_sure dc_is_sure pm_is_sure an_is_sure cd_is_sure ct_is_sure), sl_is_sure⟩) (c_is_sure : PySem.W.codeIn K cd_is_sure "is_sure" = true) (k_is_sure : PySem.W.keepIn K (.ref f_is_sure) = true)
    (a_least_sum : PySem.W.nsIn K mainGlobals "least_sum" = some (some (.ref f_least_sum))) (l_least_sum : K.lookup f_least_sum = some ⟨oc_least_sum, od_least_sum, .func (PySem.W.fnOf "least_sum" "least_sum" (defArgs s_least_sum) (defBody s_least_sum) (defScope s_least_sum) .none kV_least_sum dc_least_sum pm_least_sum an_least_sum cd_least_sum ct_least_sum), sl_least_sum⟩) (c_least_sum : PySem.W.codeIn K cd_least_sum "least_sum" = true) (k_least_sum : PySem.W.keepIn K (.ref f_least_sum) = true)
    (a_ends_wanted : PySem.W.nsIn K mainGlobals "ends_wanted" = some (some (.ref f_ends_wanted))) (l_ends_wanted : K.lookup f_ends_wanted = some ⟨oc_ends_wanted, od_ends_wanted, .func (PySem.W.fnOf "ends_wanted" "ends_wanted" (defArgs s_ends_wanted) (defBody s_ends_wanted) (defScope s_ends_wanted) .none kV_ends_wanted dc_ends_wanted pm_ends_wanted an_ends_wanted cd_ends_wanted ct_ends_wanted), sl_ends_wanted⟩) (c_ends_wanted : PySem.W.codeIn K cd_ends_wanted "ends_wanted" = true) (k_ends_wanted : PySem.W.keepIn K (.ref f_ends_wanted) = true)
    (a_keeps : PySem.W.nsIn K mainGlobals "keeps" = some (some (.ref f_keeps))) (l_keeps : K.lookup f_keeps = some ⟨oc_keeps, od_keeps, .func (PySem.W.fnOf "keeps" "keeps" (defArgs s_keeps) (defBody s_keeps) (defScope s_keeps) .none kV_keeps dc_keeps pm_keeps an_keeps cd_keeps ct_keeps), sl_keeps⟩) (c_keeps : PySem.W.codeIn K cd_keeps "keeps" = true) (k_keeps : PySem.W.keepIn K (.ref f_keeps) = true)
    (a_row_ends : PySem.W.nsIn K mainGlobals "row_ends" = some (some (.ref f_row_ends))) (l_row_ends : K.lookup f_row_ends = some ⟨oc_row_ends, od_row_ends, .func (PySem.W.fnOf "row_ends" "row_ends" (defArgs s_row_ends) (defBody s_row_ends) (defScope s_row_ends) .none kV_row_ends dc_row_ends pm_row_ends an_row_ends cd_row_ends ct_row_ends), sl_row_ends⟩) (c_row_ends : PySem.W.codeIn K cd_row_ends "row_ends" = true) (k_row_ends : PySem.W.keepIn K (.ref f_row_ends) = true)
    (a_clause_ends : PySem.W.nsIn K mainGlobals "clause_ends" = some (some (.ref f_clause_ends))) (l_clause_ends : K.lookup f_clause_ends = some ⟨oc_clause_ends, od_clause_ends, .func (PySem.W.fnOf "clause_ends" "clause_ends" (defArgs s_clause_ends) (defBody s_clause_ends) (defScope s_clause_ends) .none kV_clause_ends dc_clause_ends pm_clause_ends an_clause_ends cd_clause_ends ct_clause_ends), sl_clause_ends⟩) (c_clause_ends : PySem.W.codeIn K cd_clause_ends "clause_ends" = true) (k_clause_ends : PySem.W.keepIn K (.ref f_clause_ends) = true)
    (a_row_consistent : PySem.W.nsIn K mainGlobals "row_consistent" = some (some (.ref f_row_consistent))) (l_row_consistent : K.lookup f_row_consistent = some ⟨oc_row_consistent, od_row_consistent, .func (PySem.W.fnOf "row_consistent" "row_consistent" (defArgs s_row_consistent) (defBody s_row_consistent) (defScope s_row_consistent) .none kV_row_consistent dc_row_consistent pm_row_consistent an_row_consistent cd_row_consistent ct_row_consistent), sl_row_consistent⟩) (c_row_consistent : PySem.W.codeIn K cd_row_consistent "row_consistent" = true) (k_row_consistent : PySem.W.keepIn K (.ref f_row_consistent) = true)
    (a_clause_consistent : PySem.W.nsIn K mainGlobals "clause_consistent" = some (some (.ref f_clause_consistent))) (l_clause_consistent : K.lookup f_clause_consistent = some ⟨oc_clause_consistent, od_clause_consistent, .func (PySem.W.fnOf "clause_consistent" "clause_consistent" (defArgs s_clause_consistent) (defBody s_clause_consistent) (defScope s_clause_consistent) .none kV_clause_consistent dc_clause_consistent pm_clause_consistent an_clause_consistent cd_clause_consistent ct_clause_consistent), sl_clause_consistent⟩) (c_clause_consistent : PySem.W.codeIn K cd_clause_consistent "clause_consistent" = true) (k_clause_consistent : PySem.W.keepIn K (.ref f_clause_consistent) = true)
    (a_law_draw : PySem.W.nsIn K mainGlobals "_law_draw" = some (some (.ref f_law_draw))) (l_law_draw : K.lookup f_law_draw = some ⟨oc_law_draw, od_law_draw, .func (PySem.W.fnOf "_law_draw" "_law_draw" (defArgs s_law_draw) (defBody s_law_draw) (defScope s_law_draw) .none kV_law_draw dc_law_draw pm_law_draw an_law_draw cd_law_draw ct_law_draw), sl_law_draw⟩) (c_law_draw : PySem.W.codeIn K cd_law_draw "_law_draw" = true) (k_law_draw : PySem.W.keepIn K (.ref f_law_draw) = true)
    (a_law_tape : PySem.W.nsIn K mainGlobals "_law_tape" = some (some (.ref f_law_tape))) (l_law_tape : K.lookup f_law_tape = some ⟨oc_law_tape, od_law_tape, .func (PySem.W.fnOf "_law_tape" "_law_tape" (defArgs s_law_tape) (defBody s_law_tape) (defScope s_law_tape) .none kV_law_tape dc_law_tape pm_law_tape an_law_tape cd_law_tape ct_law_tape), sl_law_tape⟩) (c_law_tape : PySem.W.codeIn K cd_law_tape "_law_tape" = true) (k_law_tape : PySem.W.keepIn K (.ref f_law_tape) = true)
    (a_law_terms : PySem.W.nsIn K mainGlobals "_law_terms" = some (some (.ref f_law_terms))) (l_law_terms : K.lookup f_law_terms = some ⟨oc_law_terms, od_law_terms, .func (PySem.W.fnOf "_law_terms" "_law_terms" (defArgs s_law_terms) (defBody s_law_terms) (defScope s_law_terms) .none kV_law_terms dc_law_terms pm_law_terms an_law_terms cd_law_terms ct_law_terms), sl_law_terms⟩) (c_law_terms : PySem.W.codeIn K cd_law_terms "_law_terms" = true) (k_law_terms : PySem.W.keepIn K (.ref f_law_terms) = true)
    (a_law_literal : PySem.W.nsIn K mainGlobals "_law_literal" = some (some (.ref f_law_literal))) (l_law_literal : K.lookup f_law_literal = some ⟨oc_law_literal, od_law_literal, .func (PySem.W.fnOf "_law_literal" "_law_literal" (defArgs s_law_literal) (defBody s_law_literal) (defScope s_law_literal) .none kV_law_literal dc_law_literal pm_law_literal an_law_literal cd_law_literal ct_law_literal), sl_law_literal⟩) (c_law_literal : PySem.W.codeIn K cd_law_literal "_law_literal" = true) (k_law_literal : PySem.W.keepIn K (.ref f_law_literal) = true)
    (a_law_some : PySem.W.nsIn K mainGlobals "_law_some" = some (some (.ref f_law_some))) (l_law_some : K.lookup f_law_some = some ⟨oc_law_some, od_law_some, .func (PySem.W.fnOf "_law_some" "_law_some" (defArgs s_law_some) (defBody s_law_some) (defScope s_law_some) .none kV_law_some dc_law_some pm_law_some an_law_some cd_law_some ct_law_some), sl_law_some⟩) (c_law_some : PySem.W.codeIn K cd_law_some "_law_some" = true) (k_law_some : PySem.W.keepIn K (.ref f_law_some) = true)
    (a_law_body : PySem.W.nsIn K mainGlobals "_law_body" = some (some (.ref f_law_body))) (l_law_body : K.lookup f_law_body = some ⟨oc_law_body, od_law_body, .func (PySem.W.fnOf "_law_body" "_law_body" (defArgs s_law_body) (defBody s_law_body) (defScope s_law_body) .none kV_law_body dc_law_body pm_law_body an_law_body cd_law_body ct_law_body), sl_law_body⟩) (c_law_body : PySem.W.codeIn K cd_law_body "_law_body" = true) (k_law_body : PySem.W.keepIn K (.ref f_law_body) = true)
    (a_law_world : PySem.W.nsIn K mainGlobals "_law_world" = some (some (.ref f_law_world))) (l_law_world : K.lookup f_law_world = some ⟨oc_law_world, od_law_world, .func (PySem.W.fnOf "_law_world" "_law_world" (defArgs s_law_world) (defBody s_law_world) (defScope s_law_world) .none kV_law_world dc_law_world pm_law_world an_law_world cd_law_world ct_law_world), sl_law_world⟩) (c_law_world : PySem.W.codeIn K cd_law_world "_law_world" = true) (k_law_world : PySem.W.keepIn K (.ref f_law_world) = true)
    (a_law_rel : PySem.W.nsIn K mainGlobals "_law_rel" = some (some (.ref f_law_rel))) (l_law_rel : K.lookup f_law_rel = some ⟨oc_law_rel, od_law_rel, .func (PySem.W.fnOf "_law_rel" "_law_rel" (defArgs s_law_rel) (defBody s_law_rel) (defScope s_law_rel) .none kV_law_rel dc_law_rel pm_law_rel an_law_rel cd_law_rel ct_law_rel), sl_law_rel⟩) (c_law_rel : PySem.W.codeIn K cd_law_rel "_law_rel" = true) (k_law_rel : PySem.W.keepIn K (.ref f_law_rel) = true)
    (a_law_same : PySem.W.nsIn K mainGlobals "_law_same" = some (some (.ref f_law_same))) (l_law_same : K.lookup f_law_same = some ⟨oc_law_same, od_law_same, .func (PySem.W.fnOf "_law_same" "_law_same" (defArgs s_law_same) (defBody s_law_same) (defScope s_law_same) .none kV_law_same dc_law_same pm_law_same an_law_same cd_law_same ct_law_same), sl_law_same⟩) (c_law_same : PySem.W.codeIn K cd_law_same "_law_same" = true) (k_law_same : PySem.W.keepIn K (.ref f_law_same) = true)
    (a_law_number : PySem.W.nsIn K mainGlobals "_law_number" = some (some (.ref f_law_number))) (l_law_number : K.lookup f_law_number = some ⟨oc_law_number, od_law_number, .func (PySem.W.fnOf "_law_number" "_law_number" (defArgs s_law_number) (defBody s_law_number) (defScope s_law_number) .none kV_law_number dc_law_number pm_law_number an_law_number cd_law_number ct_law_number), sl_law_number⟩) (c_law_number : PySem.W.codeIn K cd_law_number "_law_number" = true) (k_law_number : PySem.W.keepIn K (.ref f_law_number) = true)
    (a_law_box : PySem.W.nsIn K mainGlobals "_law_box" = some (some (.ref f_law_box))) (l_law_box : K.lookup f_law_box = some ⟨oc_law_box, od_law_box, .func (PySem.W.fnOf "_law_box" "_law_box" (defArgs s_law_box) (defBody s_law_box) (defScope s_law_box) .none kV_law_box dc_law_box pm_law_box an_law_box cd_law_box ct_law_box), sl_law_box⟩) (c_law_box : PySem.W.codeIn K cd_law_box "_law_box" = true) (k_law_box : PySem.W.keepIn K (.ref f_law_box) = true)
    (a_law_values : PySem.W.nsIn K mainGlobals "_law_values" = some (some (.ref f_law_values))) (l_law_values : K.lookup f_law_values = some ⟨oc_law_values, od_law_values, .func (PySem.W.fnOf "_law_values" "_law_values" (defArgs s_law_values) (defBody s_law_values) (defScope s_law_values) .none kV_law_values dc_law_values pm_law_values an_law_values cd_law_values ct_law_values), sl_law_values⟩) (c_law_values : PySem.W.codeIn K cd_law_values "_law_values" = true) (k_law_values : PySem.W.keepIn K (.ref f_law_values) = true)
    (a_law_least : PySem.W.nsIn K mainGlobals "_law_least" = some (some (.ref f_law_least))) (l_law_least : K.lookup f_law_least = some ⟨oc_law_least, od_law_least, .func (PySem.W.fnOf "_law_least" "_law_least" (defArgs s_law_least) (defBody s_law_least) (defScope s_law_least) .none kV_law_least dc_law_least pm_law_least an_law_least cd_law_least ct_law_least), sl_law_least⟩) (c_law_least : PySem.W.codeIn K cd_law_least "_law_least" = true) (k_law_least : PySem.W.keepIn K (.ref f_law_least) = true)
    (a_law_bad_row : PySem.W.nsIn K mainGlobals "_law_bad_row" = some (some (.ref f_law_bad_row))) (l_law_bad_row : K.lookup f_law_bad_row = some ⟨oc_law_bad_row, od_law_bad_row, .func (PySem.W.fnOf "_law_bad_row" "_law_bad_row" (defArgs s_law_bad_row) (defBody s_law_bad_row) (defScope s_law_bad_row) .none kV_law_bad_row dc_law_bad_row pm_law_bad_row an_law_bad_row cd_law_bad_row ct_law_bad_row), sl_law_bad_row⟩) (c_law_bad_row : PySem.W.codeIn K cd_law_bad_row "_law_bad_row" = true) (k_law_bad_row : PySem.W.keepIn K (.ref f_law_bad_row) = true)
    (a_law_bad_keep : PySem.W.nsIn K mainGlobals "_law_bad_keep" = some (some (.ref f_law_bad_keep))) (l_law_bad_keep : K.lookup f_law_bad_keep = some ⟨oc_law_bad_keep, od_law_bad_keep, .func (PySem.W.fnOf "_law_bad_keep" "_law_bad_keep" (defArgs s_law_bad_keep) (defBody s_law_bad_keep) (defScope s_law_bad_keep) .none kV_law_bad_keep dc_law_bad_keep pm_law_bad_keep an_law_bad_keep cd_law_bad_keep ct_law_bad_keep), sl_law_bad_keep⟩) (c_law_bad_keep : PySem.W.codeIn K cd_law_bad_keep "_law_bad_keep" = true) (k_law_bad_keep : PySem.W.keepIn K (.ref f_law_bad_keep) = true)
    (a_law_bad_clause : PySem.W.nsIn K mainGlobals "_law_bad_clause" = some (some (.ref f_law_bad_clause))) (l_law_bad_clause : K.lookup f_law_bad_clause = some ⟨oc_law_bad_clause, od_law_bad_clause, .func (PySem.W.fnOf "_law_bad_clause" "_law_bad_clause" (defArgs s_law_bad_clause) (defBody s_law_bad_clause) (defScope s_law_bad_clause) .none kV_law_bad_clause dc_law_bad_clause pm_law_bad_clause an_law_bad_clause cd_law_bad_clause ct_law_bad_clause), sl_law_bad_clause⟩) (c_law_bad_clause : PySem.W.codeIn K cd_law_bad_clause "_law_bad_clause" = true) (k_law_bad_clause : PySem.W.keepIn K (.ref f_law_bad_clause) = true)
    (a_law : PySem.W.nsIn K mainGlobals "law" = some (some (.ref f_law))) (l_law : K.lookup f_law = some ⟨oc_law, od_law, .func (PySem.W.fnOf "law" "law" (defArgs s_law) (defBody s_law) (defScope s_law) .none kV_law dc_law pm_law an_law cd_law ct_law), sl_law⟩) (c_law : PySem.W.codeIn K cd_law "law" = true) (k_law : PySem.W.keepIn K (.ref f_law) = true)
    (z_len : PySem.W.nsIn K mainGlobals "len" = some none)
    (z_int : PySem.W.nsIn K mainGlobals "int" = some none)
    (z_list : PySem.W.nsIn K mainGlobals "list" = some none)
    (z_tuple : PySem.W.nsIn K mainGlobals "tuple" = some none)
    (z_range : PySem.W.nsIn K mainGlobals "range" = some none)
    (z_isinstance : PySem.W.nsIn K mainGlobals "isinstance" = some none)
    (z_bool : PySem.W.nsIn K mainGlobals "bool" = some none)
    (z_str : PySem.W.nsIn K mainGlobals "str" = some none)
    (z_min : PySem.W.nsIn K mainGlobals "min" = some none)
    (z_max : PySem.W.nsIn K mainGlobals "max" = some none)
    (z_repr : PySem.W.nsIn K mainGlobals "repr" = some none)
    : ∃ fd : FuncData, (∀ (s : Shared) (v : Value), BindsTo s fd ⟨[v], []⟩ [("_law_script", v)]) ∧ ∀ base : Heap, K.In base → base.Ns mainGlobals mg → FnOkG l.prog w K mg base CX0 5 fa fd ["_law_script"] ((spLaw K)) := by
  have e := hfa.symm.trans (PySem.W.mg_of X G a_law)
  cases e
  have B : Bi K mg := { n_len := PySem.W.mg_none_of X G z_len, n_int := PySem.W.mg_none_of X G z_int, n_list := PySem.W.mg_none_of X G z_list, n_tuple := PySem.W.mg_none_of X G z_tuple, n_range := PySem.W.mg_none_of X G z_range, n_isinstance := PySem.W.mg_none_of X G z_isinstance, n_bool := PySem.W.mg_none_of X G z_bool, n_str := PySem.W.mg_none_of X G z_str, n_min := PySem.W.mg_none_of X G z_min, n_max := PySem.W.mg_none_of X G z_max, n_repr := PySem.W.mg_none_of X G z_repr }
  have F_negated := fun_mk (st := s_negated) l_negated c_negated k_negated
  have b_negated := F_negated.binds (ps := ["literal"]) fun _ _ _ _ _ _ us hl => match us, hl with | [_], _ => rfl
  have F_is_possible := fun_mk (st := s_is_possible) l_is_possible c_is_possible k_is_possible
  have b_is_possible := F_is_possible.binds (ps := ["box", "literal"]) fun _ _ _ _ _ _ us hl => match us, hl with | [_, _], _ => rfl
  have F_is_sure := fun_mk (st := s_is_sure) l_is_sure c_is_sure k_is_sure
  have b_is_sure := F_is_sure.binds (ps := ["box", "literal"]) fun _ _ _ _ _ _ us hl => match us, hl with | [_, _], _ => rfl
  have F_least_sum := fun_mk (st := s_least_sum) l_least_sum c_least_sum k_least_sum
  have b_least_sum := F_least_sum.binds (ps := ["box", "terms"]) fun _ _ _ _ _ _ us hl => match us, hl with | [_, _], _ => rfl
  have F_ends_wanted := fun_mk (st := s_ends_wanted) l_ends_wanted c_ends_wanted k_ends_wanted
  have b_ends_wanted := F_ends_wanted.binds (ps := ["box", "literal"]) fun _ _ _ _ _ _ us hl => match us, hl with | [_, _], _ => rfl
  have F_keeps := fun_mk (st := s_keeps) l_keeps c_keeps k_keeps
  have b_keeps := F_keeps.binds (ps := ["box", "literal"]) fun _ _ _ _ _ _ us hl => match us, hl with | [_, _], _ => rfl
  have F_row_ends := fun_mk (st := s_row_ends) l_row_ends c_row_ends k_row_ends
  have b_row_ends := F_row_ends.binds (ps := ["box", "row"]) fun _ _ _ _ _ _ us hl => match us, hl with | [_, _], _ => rfl
  have F_clause_ends := fun_mk (st := s_clause_ends) l_clause_ends c_clause_ends k_clause_ends
  have b_clause_ends := F_clause_ends.binds (ps := ["box", "clause"]) fun _ _ _ _ _ _ us hl => match us, hl with | [_, _], _ => rfl
  have F_row_consistent := fun_mk (st := s_row_consistent) l_row_consistent c_row_consistent k_row_consistent
  have b_row_consistent := F_row_consistent.binds (ps := ["box", "row"]) fun _ _ _ _ _ _ us hl => match us, hl with | [_, _], _ => rfl
  have F_clause_consistent := fun_mk (st := s_clause_consistent) l_clause_consistent c_clause_consistent k_clause_consistent
  have b_clause_consistent := F_clause_consistent.binds (ps := ["box", "clause"]) fun _ _ _ _ _ _ us hl => match us, hl with | [_, _], _ => rfl
  have F_law_draw := fun_mk (st := s_law_draw) l_law_draw c_law_draw k_law_draw
  have b_law_draw := F_law_draw.binds (ps := ["_law_tape_here", "_law_many"]) fun _ _ _ _ _ _ us hl => match us, hl with | [_, _], _ => rfl
  have F_law_tape := fun_mk (st := s_law_tape) l_law_tape c_law_tape k_law_tape
  have b_law_tape := F_law_tape.binds (ps := ["_law_script"]) fun _ _ _ _ _ _ us hl => match us, hl with | [_], _ => rfl
  have F_law_terms := fun_mk (st := s_law_terms) l_law_terms c_law_terms k_law_terms
  have b_law_terms := F_law_terms.binds (ps := ["_law_tape_here", "_law_many"]) fun _ _ _ _ _ _ us hl => match us, hl with | [_, _], _ => rfl
  have F_law_literal := fun_mk (st := s_law_literal) l_law_literal c_law_literal k_law_literal
  have b_law_literal := F_law_literal.binds (ps := ["_law_tape_here", "_law_many"]) fun _ _ _ _ _ _ us hl => match us, hl with | [_, _], _ => rfl
  have F_law_some := fun_mk (st := s_law_some) l_law_some c_law_some k_law_some
  have b_law_some := F_law_some.binds (ps := ["_law_tape_here", "_law_many", "_law_least_here"]) fun _ _ _ _ _ _ us hl => match us, hl with | [_, _, _], _ => rfl
  have F_law_body := fun_mk (st := s_law_body) l_law_body c_law_body k_law_body
  have b_law_body := F_law_body.binds (ps := ["_law_tape_here", "_law_many"]) fun _ _ _ _ _ _ us hl => match us, hl with | [_, _], _ => rfl
  have F_law_world := fun_mk (st := s_law_world) l_law_world c_law_world k_law_world
  have b_law_world := F_law_world.binds (ps := ["_law_tape_here", "_law_most", "_law_width", "_law_bodies"]) fun _ _ _ _ _ _ us hl => match us, hl with | [_, _, _, _], _ => rfl
  have F_law_rel := fun_mk (st := s_law_rel) l_law_rel c_law_rel k_law_rel
  have b_law_rel := F_law_rel.binds (ps := ["_law_relation", "_law_left", "_law_right"]) fun _ _ _ _ _ _ us hl => match us, hl with | [_, _, _], _ => rfl
  have F_law_same := fun_mk (st := s_law_same) l_law_same c_law_same k_law_same
  have b_law_same := F_law_same.binds (ps := ["_law_answer", "_law_due"]) fun _ _ _ _ _ _ us hl => match us, hl with | [_, _], _ => rfl
  have F_law_number := fun_mk (st := s_law_number) l_law_number c_law_number k_law_number
  have b_law_number := F_law_number.binds (ps := ["_law_answer", "_law_due"]) fun _ _ _ _ _ _ us hl => match us, hl with | [_, _], _ => rfl
  have F_law_box := fun_mk (st := s_law_box) l_law_box c_law_box k_law_box
  have b_law_box := F_law_box.binds (ps := ["_law_tape_here", "_law_unknowns"]) fun _ _ _ _ _ _ us hl => match us, hl with | [_, _], _ => rfl
  have F_law_values := fun_mk (st := s_law_values) l_law_values c_law_values k_law_values
  have b_law_values := F_law_values.binds (ps := ["_law_box_here", "_law_v"]) fun _ _ _ _ _ _ us hl => match us, hl with | [_, _], _ => rfl
  have F_law_least := fun_mk (st := s_law_least) l_law_least c_law_least k_law_least
  have b_law_least := F_law_least.binds (ps := ["_law_box_here", "_law_terms_here"]) fun _ _ _ _ _ _ us hl => match us, hl with | [_, _], _ => rfl
  have F_law_bad_row := fun_mk (st := s_law_bad_row) l_law_bad_row c_law_bad_row k_law_bad_row
  have b_law_bad_row := F_law_bad_row.binds (ps := ["_law_box_here", "_law_row"]) fun _ _ _ _ _ _ us hl => match us, hl with | [_, _], _ => rfl
  have F_law_bad_keep := fun_mk (st := s_law_bad_keep) l_law_bad_keep c_law_bad_keep k_law_bad_keep
  have b_law_bad_keep := F_law_bad_keep.binds (ps := ["_law_box_here", "_law_literal_here"]) fun _ _ _ _ _ _ us hl => match us, hl with | [_, _], _ => rfl
  have F_law_bad_clause := fun_mk (st := s_law_bad_clause) l_law_bad_clause c_law_bad_clause k_law_bad_clause
  have b_law_bad_clause := F_law_bad_clause.binds (ps := ["_law_box_here", "_law_clause"]) fun _ _ _ _ _ _ us hl => match us, hl with | [_, _], _ => rfl
  refine ⟨PySem.W.fnOf "law" "law" (defArgs s_law) (defBody s_law) (defScope s_law) .none kV_law dc_law pm_law an_law cd_law ct_law, fun s v => .of_eq rfl, fun base _ _ => ?_⟩
  have D_negated : Is l.prog w K mg base CX0 1 "negated" ["literal"] (spNeg K) := ⟨_, _, ok_negated F_negated B , PySem.W.mg_of X G a_negated, k_negated, b_negated⟩
  have D_is_possible : Is l.prog w K mg base CX0 1 "is_possible" ["box", "literal"] (spPoss K) := ⟨_, _, ok_is_possible F_is_possible B , PySem.W.mg_of X G a_is_possible, k_is_possible, b_is_possible⟩
  have D_is_sure : Is l.prog w K mg base CX0 2 "is_sure" ["box", "literal"] (spSure K) := ⟨_, _, ok_is_sure F_is_sure B D_is_possible D_negated, PySem.W.mg_of X G a_is_sure, k_is_sure, b_is_sure⟩
  have D_least_sum : Is l.prog w K mg base CX0 1 "least_sum" ["box", "terms"] (spLeastS K) := ⟨_, _, ok_least_sum F_least_sum B , PySem.W.mg_of X G a_least_sum, k_least_sum, b_least_sum⟩
  have D_ends_wanted : Is l.prog w K mg base CX0 1 "ends_wanted" ["box", "literal"] (spEndsW K) := ⟨_, _, ok_ends_wanted F_ends_wanted B , PySem.W.mg_of X G a_ends_wanted, k_ends_wanted, b_ends_wanted⟩
  have D_keeps : Is l.prog w K mg base CX0 2 "keeps" ["box", "literal"] (spKeeps K) := ⟨_, _, ok_keeps F_keeps B D_ends_wanted, PySem.W.mg_of X G a_keeps, k_keeps, b_keeps⟩
  have D_row_ends : Is l.prog w K mg base CX0 2 "row_ends" ["box", "row"] (spRowE K) := ⟨_, _, ok_row_ends F_row_ends B D_least_sum D_ends_wanted, PySem.W.mg_of X G a_row_ends, k_row_ends, b_row_ends⟩
  have D_clause_ends : Is l.prog w K mg base CX0 2 "clause_ends" ["box", "clause"] (spClauseE K) := ⟨_, _, ok_clause_ends F_clause_ends B D_ends_wanted D_is_possible, PySem.W.mg_of X G a_clause_ends, k_clause_ends, b_clause_ends⟩
  have D_row_consistent : Is l.prog w K mg base CX0 3 "row_consistent" ["box", "row"] (spRowC K) := ⟨_, _, ok_row_consistent F_row_consistent B D_row_ends, PySem.W.mg_of X G a_row_consistent, k_row_consistent, b_row_consistent⟩
  have D_clause_consistent : Is l.prog w K mg base CX0 3 "clause_consistent" ["box", "clause"] (spClauseC K) := ⟨_, _, ok_clause_consistent F_clause_consistent B D_clause_ends, PySem.W.mg_of X G a_clause_consistent, k_clause_consistent, b_clause_consistent⟩
  have D_law_draw : Is l.prog w K mg base CX0 1 "_law_draw" ["_law_tape_here", "_law_many"] spDraw := ⟨_, _, ok_law_draw F_law_draw B , PySem.W.mg_of X G a_law_draw, k_law_draw, b_law_draw⟩
  have D_law_tape : Is l.prog w K mg base CX0 1 "_law_tape" ["_law_script"] (spTape K) := ⟨_, _, ok_law_tape F_law_tape B , PySem.W.mg_of X G a_law_tape, k_law_tape, b_law_tape⟩
  have D_law_terms : Is l.prog w K mg base CX0 2 "_law_terms" ["_law_tape_here", "_law_many"] (spLawTerms K) := ⟨_, _, ok_law_terms F_law_terms B D_law_draw, PySem.W.mg_of X G a_law_terms, k_law_terms, b_law_terms⟩
  have D_law_literal : Is l.prog w K mg base CX0 2 "_law_literal" ["_law_tape_here", "_law_many"] (spLawLiteral K) := ⟨_, _, ok_law_literal F_law_literal B D_law_draw, PySem.W.mg_of X G a_law_literal, k_law_literal, b_law_literal⟩
  have D_law_some : Is l.prog w K mg base CX0 2 "_law_some" ["_law_tape_here", "_law_many", "_law_least_here"] (spLawSome K) := ⟨_, _, ok_law_some F_law_some B D_law_draw, PySem.W.mg_of X G a_law_some, k_law_some, b_law_some⟩
  have D_law_body : Is l.prog w K mg base CX0 3 "_law_body" ["_law_tape_here", "_law_many"] (spLawBody K) := ⟨_, _, ok_law_body F_law_body B D_law_draw D_law_literal D_law_terms D_law_some, PySem.W.mg_of X G a_law_body, k_law_body, b_law_body⟩
  have D_law_world : Is l.prog w K mg base CX0 4 "_law_world" ["_law_tape_here", "_law_most", "_law_width", "_law_bodies"] (spWorld K) := ⟨_, _, ok_law_world F_law_world B D_law_terms D_law_draw D_law_body, PySem.W.mg_of X G a_law_world, k_law_world, b_law_world⟩
  have D_law_rel : Is l.prog w K mg base CX0 1 "_law_rel" ["_law_relation", "_law_left", "_law_right"] spRel := ⟨_, _, ok_law_rel F_law_rel B , PySem.W.mg_of X G a_law_rel, k_law_rel, b_law_rel⟩
  have D_law_same : Is l.prog w K mg base CX0 1 "_law_same" ["_law_answer", "_law_due"] spSame := ⟨_, _, ok_law_same F_law_same B , PySem.W.mg_of X G a_law_same, k_law_same, b_law_same⟩
  have D_law_number : Is l.prog w K mg base CX0 1 "_law_number" ["_law_answer", "_law_due"] spNum66 := ⟨_, _, ok_law_number F_law_number B , PySem.W.mg_of X G a_law_number, k_law_number, b_law_number⟩
  have D_law_box : Is l.prog w K mg base CX0 2 "_law_box" ["_law_tape_here", "_law_unknowns"] (spBox66 K) := ⟨_, _, ok_law_box F_law_box B D_law_draw, PySem.W.mg_of X G a_law_box, k_law_box, b_law_box⟩
  have D_law_values : Is l.prog w K mg base CX0 1 "_law_values" ["_law_box_here", "_law_v"] (spValues K) := ⟨_, _, ok_law_values F_law_values B , PySem.W.mg_of X G a_law_values, k_law_values, b_law_values⟩
  have D_law_least : Is l.prog w K mg base CX0 2 "_law_least" ["_law_box_here", "_law_terms_here"] (spLLeast66 K) := ⟨_, _, ok_law_least F_law_least B D_law_values, PySem.W.mg_of X G a_law_least, k_law_least, b_law_least⟩
  have D_law_bad_row : Is l.prog w K mg base CX0 3 "_law_bad_row" ["_law_box_here", "_law_row"] (spBadRow K) := ⟨_, _, ok_law_bad_row F_law_bad_row B D_law_least D_law_values, PySem.W.mg_of X G a_law_bad_row, k_law_bad_row, b_law_bad_row⟩
  have D_law_bad_keep : Is l.prog w K mg base CX0 1 "_law_bad_keep" ["_law_box_here", "_law_literal_here"] (spBadKeep K) := ⟨_, _, ok_law_bad_keep F_law_bad_keep B , PySem.W.mg_of X G a_law_bad_keep, k_law_bad_keep, b_law_bad_keep⟩
  have D_law_bad_clause : Is l.prog w K mg base CX0 2 "_law_bad_clause" ["_law_box_here", "_law_clause"] (spBadClause K) := ⟨_, _, ok_law_bad_clause F_law_bad_clause B D_law_bad_keep D_law_rel D_law_values, PySem.W.mg_of X G a_law_bad_clause, k_law_bad_clause, b_law_bad_clause⟩
  exact ok_law (fun_mk (st := s_law) l_law c_law k_law) B D_law_tape D_law_box D_law_terms D_law_least D_law_world D_law_draw D_law_rel D_law_same D_law_number D_law_values D_is_possible D_is_sure D_keeps D_least_sum D_row_consistent D_clause_consistent D_law_bad_row D_law_bad_clause D_law_bad_keep
theorem walk {l : PySem.W.OpenLaw} {q : Program} {loose : List Str} {XP : (Str → Option Value) → Heap → Prop} {YP : World → Heap → Prop} {d : DefRec} {K : Params → PySem.W.Frag} (hn : l.most = some 63) (hdf : d.params.defaults = [])
    (hY : ∀ (w : World) (h : Heap), YP w h → (K w.params).In h)
    (F : ∀ (w : World) (mg : Str → Option Value) (fa : Addr) (h : Heap), (K w.params).In h → h.Ns mainGlobals mg → mg d.name = some (.ref fa) →
      ∃ fd : FuncData, (∀ (s : Shared) (u : Value), BindsTo s fd ⟨[u], []⟩ [("_law_script", u)]) ∧ ∀ base : Heap, (K w.params).In base → base.Ns mainGlobals mg → FnOkG l.prog w (K w.params) mg base CX0 5 fa fd ["_law_script"] (spLaw (K w.params))) :
    PySem.W.WalkO q loose XP YP l.row.toRowW d [] (fun f vs => PySem.call f vs) :=
  walk_ofG (n := 63) (k := 5) (x := "_law_script") (sp := fun w => spLaw (K w.params)) hn (by decide) hdf ⟨rfl, by decide, by decide⟩ hY F (fun _ _ a ns hl _ hS => ⟨a, ns, rfl, hS, hl, fun _ => rfl⟩)
end CG

open PySem PySem.W PyProof.Rows in
set_option maxRecDepth 100000 in
set_option maxHeartbeats 0 in
theorem PySem.Challenge.cw_commonground_k66_consistent_with_facts_holds : PySem.Challenge.rw_commonground_k66_consistent_with_facts.Holds := by
  w_on; o_law; k_head; (case hw => w_witness2)
  k_fill
  refine CG.walk (l := PySem.Challenge.rw_commonground_k66_consistent_with_facts) rfl rfl (fun w h Y => PySem.W.kIn_of Y) ?F
  case F =>
    intro w mg fa h KX G hmg
    refine' CG.all_mk KX G hmg ?a_negated ?l_negated ?c_negated ?k_negated ?a_is_possible ?l_is_possible ?c_is_possible ?k_is_possible ?a_is_sure ?l_is_sure ?c_is_sure ?k_is_sure ?a_least_sum ?l_least_sum ?c_least_sum ?k_least_sum ?a_ends_wanted ?l_ends_wanted ?c_ends_wanted ?k_ends_wanted ?a_keeps ?l_keeps ?c_keeps ?k_keeps ?a_row_ends ?l_row_ends ?c_row_ends ?k_row_ends ?a_clause_ends ?l_clause_ends ?c_clause_ends ?k_clause_ends ?a_row_consistent ?l_row_consistent ?c_row_consistent ?k_row_consistent ?a_clause_consistent ?l_clause_consistent ?c_clause_consistent ?k_clause_consistent ?a_law_draw ?l_law_draw ?c_law_draw ?k_law_draw ?a_law_tape ?l_law_tape ?c_law_tape ?k_law_tape ?a_law_terms ?l_law_terms ?c_law_terms ?k_law_terms ?a_law_literal ?l_law_literal ?c_law_literal ?k_law_literal ?a_law_some ?l_law_some ?c_law_some ?k_law_some ?a_law_body ?l_law_body ?c_law_body ?k_law_body ?a_law_world ?l_law_world ?c_law_world ?k_law_world ?a_law_rel ?l_law_rel ?c_law_rel ?k_law_rel ?a_law_same ?l_law_same ?c_law_same ?k_law_same ?a_law_number ?l_law_number ?c_law_number ?k_law_number ?a_law_box ?l_law_box ?c_law_box ?k_law_box ?a_law_values ?l_law_values ?c_law_values ?k_law_values ?a_law_least ?l_law_least ?c_law_least ?k_law_least ?a_law_bad_row ?l_law_bad_row ?c_law_bad_row ?k_law_bad_row ?a_law_bad_keep ?l_law_bad_keep ?c_law_bad_keep ?k_law_bad_keep ?a_law_bad_clause ?l_law_bad_clause ?c_law_bad_clause ?k_law_bad_clause ?a_law ?l_law ?c_law ?k_law ?z_len ?z_int ?z_list ?z_tuple ?z_range ?z_isinstance ?z_bool ?z_str ?z_min ?z_max ?z_repr
    (case a_negated => k_is)
    (case l_negated => k_is)
    (case c_negated => k_is)
    (case k_negated => k_is)
    (case a_is_possible => k_is)
    (case l_is_possible => k_is)
    (case c_is_possible => k_is)
    (case k_is_possible => k_is)
    (case a_is_sure => k_is)
    (case l_is_sure => k_is)
    (case c_is_sure => k_is)
    (case k_is_sure => k_is)
    (case a_least_sum => k_is)
    (case l_least_sum => k_is)
    (case c_least_sum => k_is)
    (case k_least_sum => k_is)
    (case a_ends_wanted => k_is)
    (case l_ends_wanted => k_is)
    (case c_ends_wanted => k_is)
    (case k_ends_wanted => k_is)
    (case a_keeps => k_is)
    (case l_keeps => k_is)
    (case c_keeps => k_is)
    (case k_keeps => k_is)
    (case a_row_ends => k_is)
    (case l_row_ends => k_is)
    (case c_row_ends => k_is)
    (case k_row_ends => k_is)
    (case a_clause_ends => k_is)
    (case l_clause_ends => k_is)
    (case c_clause_ends => k_is)
    (case k_clause_ends => k_is)
    (case a_row_consistent => k_is)
    (case l_row_consistent => k_is)
    (case c_row_consistent => k_is)
    (case k_row_consistent => k_is)
    (case a_clause_consistent => k_is)
    (case l_clause_consistent => k_is)
    (case c_clause_consistent => k_is)
    (case k_clause_consistent => k_is)
    (case a_law_draw => k_is)
    (case l_law_draw => k_is)
    (case c_law_draw => k_is)
    (case k_law_draw => k_is)
    (case a_law_tape => k_is)
    (case l_law_tape => k_is)
    (case c_law_tape => k_is)
    (case k_law_tape => k_is)
    (case a_law_terms => k_is)
    (case l_law_terms => k_is)
    (case c_law_terms => k_is)
    (case k_law_terms => k_is)
    (case a_law_literal => k_is)
    (case l_law_literal => k_is)
    (case c_law_literal => k_is)
    (case k_law_literal => k_is)
    (case a_law_some => k_is)
    (case l_law_some => k_is)
    (case c_law_some => k_is)
    (case k_law_some => k_is)
    (case a_law_body => k_is)
    (case l_law_body => k_is)
    (case c_law_body => k_is)
    (case k_law_body => k_is)
    (case a_law_world => k_is)
    (case l_law_world => k_is)
    (case c_law_world => k_is)
    (case k_law_world => k_is)
    (case a_law_rel => k_is)
    (case l_law_rel => k_is)
    (case c_law_rel => k_is)
    (case k_law_rel => k_is)
    (case a_law_same => k_is)
    (case l_law_same => k_is)
    (case c_law_same => k_is)
    (case k_law_same => k_is)
    (case a_law_number => k_is)
    (case l_law_number => k_is)
    (case c_law_number => k_is)
    (case k_law_number => k_is)
    (case a_law_box => k_is)
    (case l_law_box => k_is)
    (case c_law_box => k_is)
    (case k_law_box => k_is)
    (case a_law_values => k_is)
    (case l_law_values => k_is)
    (case c_law_values => k_is)
    (case k_law_values => k_is)
    (case a_law_least => k_is)
    (case l_law_least => k_is)
    (case c_law_least => k_is)
    (case k_law_least => k_is)
    (case a_law_bad_row => k_is)
    (case l_law_bad_row => k_is)
    (case c_law_bad_row => k_is)
    (case k_law_bad_row => k_is)
    (case a_law_bad_keep => k_is)
    (case l_law_bad_keep => k_is)
    (case c_law_bad_keep => k_is)
    (case k_law_bad_keep => k_is)
    (case a_law_bad_clause => k_is)
    (case l_law_bad_clause => k_is)
    (case c_law_bad_clause => k_is)
    (case k_law_bad_clause => k_is)
    (case a_law => k_is)
    (case l_law => k_is)
    (case c_law => k_is)
    (case k_law => k_is)
    (case z_len => k_is)
    (case z_int => k_is)
    (case z_list => k_is)
    (case z_tuple => k_is)
    (case z_range => k_is)
    (case z_isinstance => k_is)
    (case z_bool => k_is)
    (case z_str => k_is)
    (case z_min => k_is)
    (case z_max => k_is)
    (case z_repr => k_is)
#print axioms PySem.Challenge.cw_commonground_k66_consistent_with_facts_holds
