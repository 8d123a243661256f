import PyProof.Rows.All
import Wide.All
import OpenK.AllK
import Wide.FinOn
import HandS.ForMost
import HandS.Wide
import HandS.IsInst
import HandS.Evl
import HandS.Walk
import HandS.Conv
import HandS.Deep
import HandS.More
import HandS.SetFor
import HandS.Strs
import HandS.TupSets
import HandS.TupAny
import KE.KDictCopyH
import HandS.DictComp
import HandS.Zip
import KE.GoesEnum
import PySem.Challenge.RW_commonground_k25_references_and_supposit
set_option Elab.async false
set_option linter.all false
set_option maxRecDepth 100000
set_option maxHeartbeats 4000000

/-! ### ground: calls by a bundle, frames, step rules -/
namespace CG
open PySem L2

structure Is (P : Program) (w : World) (K : PySem.W.Frag) (mg : Str → Option Value) (base : Heap) (CX : CXT) (k : Nat) (x : Str) (ps : List Str) (sp : Sp) : Prop where
  ex : ∃ (f : Addr) (fd : FuncData), FnOk P w K mg base CX k f fd ps sp ∧ mg x = some (.ref f) ∧ PySem.W.keepIn K (.ref f) = true ∧ Binds K fd ps []

def tCl (sp : Sp) (E : XK) (t : TA) : TE := fun σ H Q => t σ H fun vs H1 => sp vs H1 Q E
section
variable {X : Cx} {CX : CXT} {k : Nat} {x : Str} {ps : List Str} {sp : Sp} {E : XK} {t : TA} {p pos : Pos} {e : Expr} {es : List Expr}
theorem pe_is (D : Is X.prog X.w X.K X.mg X.base CX k x ps sp) (hr : Room k X.A) (hg : Gl X x) (hx : Passes CX X E) (ha : PA X (e :: es) t) (hdb : (x == ("__debug__" : Str)) = false := by decide)
    (he : starEach (e :: es) X.env = (false, eval e X.env) :: starEach es X.env := by rfl) (hpl : (backTo pos (starEach es X.env)).any (·.1) = false := by rfl) : PE X (.Call (.Name x p) (e :: es) [] pos) (tCl sp E t) := by
  obtain ⟨f, fd, F, hm, hk, hb⟩ := D.ex
  have q := pe_call (p := p) F hr hg hm hk hb Paired.nil hx ha hdb he hpl
  have e1 : tCall sp [] E t = tCl sp E t := by
    funext σ H Q
    show (t σ H fun vs H1 => sp (vs ++ []) H1 Q E) = (t σ H fun vs H1 => sp vs H1 Q E)
    simp only [List.append_nil]
  rw [← e1]
  exact q
theorem pe_gc {v : V} {j : Pos} (hg : Gl X x) (hm : ∃ u, X.mg x = some u ∧ RelV v u) (hdb : (x == ("__debug__" : Str)) = false := by decide) (hnm : x ≠ "__name__" := by decide) : PE X (.Name x j) (tC v) := by
  obtain ⟨u, h1, h2⟩ := hm
  exact pe_glob hg h1 h2 hdb
end

/-- all that is tracked stands, but at S, where things are written -/
structure Kp (S : List Addr) (H H' : Hp) : Prop where
  k : ∀ b o, ¬ b ∈ S → H b = some o → H' b = some o
  mu : ∀ b, b ∈ S → Mut (H b)
/-- the same from the entry: what is new since is free -/
def Fm (S : List Addr) (H H' : Hp) : Prop := ∀ b o, ¬ b ∈ S → H b = some o → H' b = some o
section
variable {S S' : List Addr} {H H0 H1 H2 : Hp} {a p : Addr} {o o' : HO} {xs : List V} {K : PySem.W.Frag}
theorem Fm.start : Fm S H H := fun _ _ _ h => h
theorem Kp.refl : Kp [] H H := ⟨fun _ _ _ h => h, fun _ h => nomatch h⟩
theorem Kp.new (hp : H p = none) : Kp [] H (upd H p o) := ⟨fun b u _ h => by rw [upd_ne (ne_of_none h hp)]; exact h, fun _ h => nomatch h⟩
theorem Kp.put (hp : H p = some o) (hm : Mut (some o)) : Kp [p] H (upd H p o') := ⟨fun b u hb h => by rw [upd_ne (fun e => hb (by simp [e]))]; exact h, fun b hb => by
  rw [List.mem_singleton] at hb
  subst hb
  rw [hp]
  exact hm⟩
theorem Fm.go (f : Fm S H0 H) (k : Kp S' H H1) (h : ∀ a, a ∈ S' → a ∈ S ∨ H0 a = none) : Fm S H0 H1 := fun b o hb e => by
  refine k.k b o (fun hm => ?_) (f b o hb e)
  rcases h b hm with q | q
  · exact hb q
  · rw [q] at e
    cases e
theorem Fm.go0 (f : Fm S H0 H) (k : Kp [] H H1) : Fm S H0 H1 := f.go k fun _ h => nomatch h
theorem Fm.kp (f : Fm S H0 H) (mu : ∀ b, b ∈ S → Mut (H0 b)) : Kp S H0 H := ⟨f, mu⟩
theorem Fm.free (f : Fm S H0 H) (h : H p = none) (hs : ∀ b, b ∈ S → ∃ o, H b = some o) : H0 p = none := by
  cases q : H0 p with
  | none => rfl
  | some o =>
    by_cases hb : p ∈ S
    · obtain ⟨o, e⟩ := hs p hb
      rw [h] at e
      cases e
    · rw [f p o hb q] at h
      cases h
theorem Kp.free (f : Kp S H0 H) (h : H p = none) (hs : ∀ b, b ∈ S → ∃ o, H b = some o) : H0 p = none := Fm.free (S := S) f.k h hs
theorem Kp.free0 (f : Kp [] H0 H) (h : H p = none) : H0 p = none := f.free h fun _ hm => by cases hm
theorem Kp.get (k : Kp S H H1) (hn : ¬ a ∈ S) (h : H a = some o) : H1 a = some o := k.k _ _ hn h
theorem Kp.get0 (k : Kp [] H H1) (h : H a = some o) : H1 a = some o := k.k _ _ (fun h => nomatch h) h
theorem Kp.get1 (k : Kp [p] H H1) (hn : a ≠ p) (h : H a = some o) : H1 a = some o := k.k _ _ (fun h => hn (by simpa using h)) h
theorem Kp.tup (k : Kp S H H1) (h : SqT K H a xs) : SqT K H1 a xs := by
  rcases h with (h | ⟨u, h⟩) | h
  · exact .inl (.inl (k.k _ _ (fun hm => by have q := k.mu _ hm; rw [h] at q; exact q) h))
  · exact .inl (.inr ⟨u, k.k _ _ (fun hm => by have q := k.mu _ hm; rw [h] at q; exact q) h⟩)
  · exact .inr h
theorem Kp.trans (a : Kp [] H0 H1) (b : Kp [] H1 H2) : Kp [] H0 H2 := ⟨fun c o _ h => b.get0 (a.get0 h), fun _ h => nomatch h⟩
theorem Kp.tr (a : Kp S H0 H1) (b : Kp S' H1 H2) (h : ∀ x, x ∈ S' → x ∈ S ∨ H0 x = none) : Kp S H0 H2 := ⟨fun c o hc e => b.k c o (fun hm => by
  rcases h c hm with q | q
  · exact hc q
  · rw [q] at e
    cases e) (a.k c o hc e), a.mu⟩
theorem Kp.tr0 (b : Kp [] H1 H2) (a : Kp S H0 H1) : Kp S H0 H2 := a.tr b fun _ h => by cases h
theorem Kp.tr1 (b : Kp S H1 H2) (a : Kp S H0 H1) : Kp S H0 H2 := a.tr b fun _ h => .inl h
theorem Kp.trN (b : Kp [p] H1 H2) (a : Kp S H0 H1) (hp : H0 p = none) : Kp S H0 H2 := a.tr b fun x hx => by
  rw [List.mem_singleton] at hx
  subst hx
  exact .inr hp
theorem Kp.base (mu : ∀ b, b ∈ S → Mut (H b)) : Kp S H H := ⟨fun _ _ _ h => h, mu⟩
theorem Kp.fresh (k : Kp S H0 H1) (h : H1 p = none) (hs : ∀ b, b ∈ S → ∃ o, H1 b = some o) : ∀ x, x ∈ [p] → x ∈ S ∨ H0 x = none := fun x hx => by
  rw [List.mem_singleton] at hx
  subst hx
  exact .inr (k.free h hs)
theorem ne_newL (hp : H p = none) (h : H a = some o) : a ≠ p := ne_of_none h hp
theorem ne_newR (hp : H p = none) (h : H a = some o) : p ≠ a := (ne_of_none h hp).symm
theorem SqT.ty (h : SqT K H a xs) : TyX K H (.ref a) (.type "tuple") := by
  rcases h with (h | ⟨u, h⟩) | ⟨o, its, n, h1, h2, _⟩
  · exact .base (.tup h)
  · exact .fTuple h
  · exact .kTuple h1 h2
end

/-! ### step rules: from the head of a reading -/
/-- one step of a reading, many -/
class Stp (g : Prop) (n : outParam Prop) : Prop where
  imp : n → g
class Stps (g : Prop) (n : outParam Prop) : Prop where
  imp : n → g
instance (priority := low) stps_nil {g : Prop} : Stps g g := ⟨id⟩
instance stps_cons {g m n : Prop} [a : Stp g m] [b : Stps m n] : Stps g n := ⟨fun h => a.imp (b.imp h)⟩
/-- one step at least -/
theorem go1 {g m n : Prop} (a : Stp g m) (b : Stps m n) (h : n) : g := a.imp (b.imp h)
class Look (σ : St) (n : Nat) (v : outParam V) : Prop where
  e : σ[n]? = some (some v)
instance look0 {v : V} {σ : St} : Look (some v :: σ) 0 v := ⟨rfl⟩
instance lookS {v : V} {x : Option V} {σ : St} {n : Nat} [a : Look σ n v] : Look (x :: σ) (n + 1) v := ⟨by rw [List.getElem?_cons_succ]; exact a.e⟩
class SetS (σ : St) (n : Nat) (v : V) (σ' : outParam St) : Prop where
  e : σ.set n (some v) = σ'
instance set0 {v : V} {x : Option V} {σ : St} : SetS (x :: σ) 0 v (some v :: σ) := ⟨rfl⟩
instance setS {v : V} {x : Option V} {σ σ' : St} {n : Nat} [a : SetS σ n v σ'] : SetS (x :: σ) (n + 1) v (x :: σ') := ⟨by rw [List.set_cons_succ, a.e]⟩
def mkT (xs : List V) (H : Hp) (Q : VK) : Prop := xs.length ≤ sizeLine ∧ ∀ p, H p = none → Q (.ref p) (upd H p (.tup xs))
def mkL (xs : List V) (H : Hp) (Q : VK) : Prop := xs.length ≤ sizeLine ∧ ∀ p, H p = none → Q (.ref p) (upd H p (.lst xs))
def asB (x : V) (R : Bool → Prop) : Prop := ∃ k, x = .bl k ∧ R k
/-- two ways by a test -/
def iteP (b : Bool) (A B : Prop) : Prop := if b = true then A else B
theorem iteP_of {b : Bool} {A B : Prop} (h : iteP b A B) : if b = true then A else B := h
section
variable {σ σ' : St} {H : Hp} {Q : VK} {ta tb tc te : TE} {v : V} {i j : Int} {n : Nat} {K : PySem.W.Frag} {E : XK} {C : Int → Int → Prop} {gi : Int → Int → V} {nx bk ct : St → Hp → Prop} {rt : VK}
instance s_seq {t u : TS} : Stp (tSeq t u ⟨nx, rt, bk, ct⟩ σ H) (t ⟨u ⟨nx, rt, bk, ct⟩, rt, bk, ct⟩ σ H) := ⟨id⟩
instance s_next : Stp (tNext ⟨nx, rt, bk, ct⟩ σ H) (nx σ H) := ⟨id⟩
instance s_set : Stp (tAsg te (gName n) ⟨nx, rt, bk, ct⟩ σ H) (te σ H fun x H1 => gName n x σ H1 nx) := ⟨id⟩
instance s_asg {g : TG} : Stp (tAsg te g ⟨nx, rt, bk, ct⟩ σ H) (te σ H fun x H1 => g x σ H1 nx) := ⟨id⟩
instance s_gN {R : St → Hp → Prop} [a : SetS σ n v σ'] : Stp (gName n v σ H R) (R σ' H) := ⟨fun h => by show R (σ.set n (some v)) H; rw [a.e]; exact h⟩
instance s_drop : Stp (tDrop te ⟨nx, rt, bk, ct⟩ σ H) (te σ H fun _ H1 => nx σ H1) := ⟨id⟩
instance s_ret : Stp (tRet te ⟨nx, rt, bk, ct⟩ σ H) (te σ H rt) := ⟨id⟩
instance s_retN : Stp (tRetN ⟨nx, rt, bk, ct⟩ σ H) (rt .non H) := ⟨id⟩
instance s_break : Stp (tBreak ⟨nx, rt, bk, ct⟩ σ H) (bk σ H) := ⟨id⟩
instance s_cont : Stp (tCont ⟨nx, rt, bk, ct⟩ σ H) (ct σ H) := ⟨id⟩
instance s_ifS {c : TT} {t u : TS} {D : Ends} : Stp (tIfS c t u D σ H) (c σ H fun b H1 => iteP b (t D σ H1) (u D σ H1)) := ⟨id⟩
instance s_var [a : Look σ n v] : Stp (tVar n σ H Q) (Q v H) := ⟨fun h => ⟨v, a.e, h⟩⟩
instance s_c : Stp (tC v σ H Q) (Q v H) := ⟨id⟩
instance s_op {r : R2} : Stp (tOp r ta tb σ H Q) (ta σ H fun x H1 => tb σ H1 fun y H2 => r x y H2 Q) := ⟨id⟩
instance s_un {r : V → Hp → VK → Prop} : Stp (tUn r ta σ H Q) (ta σ H fun x H1 => r x H1 Q) := ⟨id⟩
instance s_rU {g : Int → V} : Stp (rU g (.int i) H Q) (Q (g i) H) := ⟨fun h => ⟨i, rfl, h⟩⟩
instance s_rI0 : Stp (rI0 gi (.int i) (.int j) H Q) (Q (gi i j) H) := ⟨fun h => ⟨i, j, rfl, rfl, h⟩⟩
theorem r_rI (hc : C i j) (h : Q (gi i j) H) : rI C gi (.int i) (.int j) H Q := ⟨i, j, rfl, rfl, hc, h⟩
instance s_pow6 : Stp (rI CPow (fun i j => V.int (i ^ j.toNat)) (.int 10) (.int 6) H Q) (Q (.int 1000000) H) := ⟨fun h => ⟨10, 6, rfl, rfl, ⟨by decide, by decide, by decide⟩, h⟩⟩
instance s_pow7 : Stp (rI CPow (fun i j => V.int (i ^ j.toNat)) (.int 10) (.int 7) H Q) (Q (.int 10000000) H) := ⟨fun h => ⟨10, 7, rfl, rfl, ⟨by decide, by decide, by decide⟩, h⟩⟩
instance s_pow8 : Stp (rI CPow (fun i j => V.int (i ^ j.toNat)) (.int 10) (.int 8) H Q) (Q (.int 100000000) H) := ⟨fun h => ⟨10, 8, rfl, rfl, ⟨by decide, by decide, by decide⟩, h⟩⟩
instance s_pow9 : Stp (rI CPow (fun i j => V.int (i ^ j.toNat)) (.int 10) (.int 9) H Q) (Q (.int 1000000000) H) := ⟨fun h => ⟨10, 9, rfl, rfl, ⟨by decide, by decide, by decide⟩, h⟩⟩
instance s_pow10 : Stp (rI CPow (fun i j => V.int (i ^ j.toNat)) (.int 10) (.int 10) H Q) (Q (.int 10000000000) H) := ⟨fun h => ⟨10, 10, rfl, rfl, ⟨by decide, by decide, by decide⟩, h⟩⟩
instance s_pow12 : Stp (rI CPow (fun i j => V.int (i ^ j.toNat)) (.int 10) (.int 12) H Q) (Q (.int 1000000000000) H) := ⟨fun h => ⟨10, 12, rfl, rfl, ⟨by decide, by decide, by decide⟩, h⟩⟩
instance s_pow21 : Stp (rI CPow (fun i j => V.int (i ^ j.toNat)) (.int 10) (.int 21) H Q) (Q (.int 1000000000000000000000) H) := ⟨fun h => ⟨10, 21, rfl, rfl, ⟨by decide, by decide, by decide⟩, h⟩⟩
instance s_pow30 : Stp (rI CPow (fun i j => V.int (i ^ j.toNat)) (.int 10) (.int 30) H Q) (Q (.int 1000000000000000000000000000000) H) := ⟨fun h => ⟨10, 30, rfl, rfl, ⟨by decide, by decide, by decide⟩, h⟩⟩
instance s_pow40 : Stp (rI CPow (fun i j => V.int (i ^ j.toNat)) (.int 10) (.int 40) H Q) (Q (.int 10000000000000000000000000000000000000000) H) := ⟨fun h => ⟨10, 40, rfl, rfl, ⟨by decide, by decide, by decide⟩, h⟩⟩
instance s_pow60 : Stp (rI CPow (fun i j => V.int (i ^ j.toNat)) (.int 10) (.int 60) H Q) (Q (.int 1000000000000000000000000000000000000000000000000000000000000) H) := ⟨fun h => ⟨10, 60, rfl, rfl, ⟨by decide, by decide, by decide⟩, h⟩⟩
instance s_eqI : Stp (rEq (.int i) (.int j) H Q) (Q (.bl (decide (i = j))) H) := ⟨fun h => ⟨rfl, by
  have e : decide (V.int i = V.int j) = decide (i = j) := by simp
  rw [e]
  exact h⟩⟩
instance s_neI : Stp (rNe (.int i) (.int j) H Q) (Q (.bl (decide (i ≠ j))) H) := ⟨fun h => ⟨rfl, by
  have e : (!decide (V.int i = V.int j)) = decide (i ≠ j) := by simp
  rw [e]
  exact h⟩⟩
instance s_eqS {a b : Str} : Stp (rEq (.str a) (.str b) H Q) (Q (.bl (decide (a = b))) H) := ⟨fun h => ⟨rfl, by
  have e : decide (V.str a = V.str b) = decide (a = b) := by simp
  rw [e]
  exact h⟩⟩
instance s_neS {a b : Str} : Stp (rNe (.str a) (.str b) H Q) (Q (.bl (decide (a ≠ b))) H) := ⟨fun h => ⟨rfl, by
  have e : (!decide (V.str a = V.str b)) = decide (a ≠ b) := by simp
  rw [e]
  exact h⟩⟩
instance s_eqB {a b : Bool} : Stp (rEq (.bl a) (.bl b) H Q) (Q (.bl (decide (a = b))) H) := ⟨fun h => ⟨rfl, by
  have e : decide (V.bl a = V.bl b) = decide (a = b) := by simp
  rw [e]
  exact h⟩⟩
instance s_neB {a b : Bool} : Stp (rNe (.bl a) (.bl b) H Q) (Q (.bl (decide (a ≠ b))) H) := ⟨fun h => ⟨rfl, by
  have e : (!decide (V.bl a = V.bl b)) = decide (a ≠ b) := by simp
  rw [e]
  exact h⟩⟩
instance s_test {R : Bool → Hp → Prop} : Stp (tTest te σ H R) (te σ H fun x H1 => asB x fun k => R k H1) := ⟨id⟩
instance s_B {R : Bool → Hp → Prop} : Stp (tB te σ H R) (te σ H fun x H1 => asB x fun k => R k H1) := ⟨id⟩
instance s_asB {b : Bool} {R : Bool → Prop} : Stp (asB (.bl b) R) (R b) := ⟨fun h => ⟨b, rfl, h⟩⟩
instance s_and {t u : TT} {R : Bool → Hp → Prop} : Stp (tAnd t u σ H R) (t σ H fun c H1 => iteP c (u σ H1 R) (R false H1)) := ⟨id⟩
instance s_or {t u : TT} {R : Bool → Hp → Prop} : Stp (tOr t u σ H R) (t σ H fun c H1 => iteP c (R true H1) (u σ H1 R)) := ⟨id⟩
instance s_not {t : TT} {R : Bool → Hp → Prop} : Stp (tNot t σ H R) (t σ H fun c H1 => R (!c) H1) := ⟨id⟩
instance s_andV : Stp (tAndV ta tb σ H Q) (ta σ H fun x H1 => asB x fun c => iteP c (tb σ H1 Q) (Q (.bl false) H1)) := ⟨id⟩
instance s_orV : Stp (tOrV ta tb σ H Q) (ta σ H fun x H1 => asB x fun c => iteP c (Q (.bl true) H1) (tb σ H1 Q)) := ⟨id⟩
instance s_notV : Stp (tNotV ta σ H Q) (ta σ H fun x H1 => asB x fun c => Q (.bl (!c)) H1) := ⟨id⟩
instance s_if {t : TT} : Stp (tIf t ta tb σ H Q) (t σ H fun c H1 => iteP c (ta σ H1 Q) (tb σ H1 Q)) := ⟨id⟩
instance s_chain {r r' : R2} : Stp (tChain r r' ta tb tc σ H Q) (ta σ H fun x H1 => tb σ H1 fun y H2 => r x y H2 fun z H3 => asB z fun k => iteP k (tc σ H3 fun w' H4 => r' y w' H4 Q) (Q (.bl false) H3)) := ⟨id⟩
instance s_nil {R : List V → Hp → Prop} : Stp (tNil σ H R) (R [] H) := ⟨id⟩
instance s_cons {tr : TA} {R : List V → Hp → Prop} : Stp (tCons ta tr σ H R) (ta σ H fun x H1 => tr σ H1 fun xs H2 => R (x :: xs) H2) := ⟨id⟩
instance s_tTup {t : TA} : Stp (tTup t σ H Q) (t σ H fun xs H1 => mkT xs H1 Q) := ⟨id⟩
instance s_tLst {t : TA} : Stp (tLst t σ H Q) (t σ H fun xs H1 => mkL xs H1 Q) := ⟨id⟩
instance s_cB {t : TA} {r : List V → Hp → VK → Prop} : Stp (tCB r t σ H Q) (t σ H fun vs H1 => r vs H1 Q) := ⟨id⟩
instance s_cl {sp : Sp} {t : TA} : Stp (tCl sp E t σ H Q) (t σ H fun vs H1 => sp vs H1 Q E) := ⟨id⟩
instance s_aug {ti : TIp} [a : Look σ n v] : Stp (tAug n te ti ⟨nx, rt, bk, ct⟩ σ H) (te σ H fun y H1 => ti v y H1 fun z H2 => gName n z σ H2 nx) := ⟨fun h => ⟨v, a.e, h⟩⟩
instance s_ipI {f : Int → Int → Int} : Stp (ipI f (.int i) (.int j) H Q) (Q (.int (f i j)) H) := ⟨fun h => ⟨i, j, rfl, rfl, h⟩⟩
instance s_iteT {A B : Prop} : Stp (iteP true A B) A := ⟨fun h => iteT h⟩
instance s_iteF {A B : Prop} : Stp (iteP false A B) B := ⟨fun h => iteF h⟩
instance s_iteNT {A B : Prop} : Stp (iteP (!true) A B) B := ⟨fun h => iteF h⟩
instance s_iteNF {A B : Prop} : Stp (iteP (!false) A B) A := ⟨fun h => iteT h⟩
theorem r_mkT {xs : List V} (hl : xs.length ≤ sizeLine) (h : ∀ p H2, H p = none → SqT K H2 p xs → Kp [] H H2 → Q (.ref p) H2) : mkT xs H Q :=
  ⟨hl, fun p hp => h p _ hp (SqT.of upd_same) (Kp.new hp)⟩
theorem r_mkL {xs : List V} (hl : xs.length ≤ sizeLine) (h : ∀ p H2, H p = none → H2 p = some (.lst xs) → Kp [] H H2 → Q (.ref p) H2) : mkL xs H Q :=
  ⟨hl, fun p hp => h p _ hp upd_same (Kp.new hp)⟩
theorem r_ixT {p : Addr} {xs : List V} (h : SqT K H p xs) (e : atI xs i = some v) (q : Q v H) : rIxT K (.ref p) (.int i) H Q := ⟨p, xs, i, v, rfl, rfl, h, e, q⟩
theorem r_ixL {p : Addr} {xs : List V} (h : H p = some (.lst xs)) (e : atI xs i = some v) (q : Q v H) : rIxL K (.ref p) (.int i) H Q := ⟨p, xs, i, v, rfl, rfl, SqL.of h, e, q⟩
theorem r_gTup {t : TGs} {m : Nat} {p : Addr} {xs : List V} {R : St → Hp → Prop} (h : SqT K H p xs) (e : xs.length = m) (q : t xs σ H R) : gTup K m t (.ref p) σ H R := ⟨p, xs, rfl, h, e, q⟩
instance s_gCons {t : TG} {u : TGs} {r : List V} {R : St → Hp → Prop} : Stp (gCons t u (v :: r) σ H R) (t v σ H fun σ' H' => u r σ' H' R) := ⟨fun h => ⟨v, r, rfl, h⟩⟩
instance s_gNil {R : St → Hp → Prop} : Stp (gNil [] σ H R) (R σ H) := ⟨fun h => ⟨rfl, h⟩⟩
instance s_gSub {s : TSet} {R : St → Hp → Prop} : Stp (gSub ta tb s v σ H R) (ta σ H fun o H1 => tb σ H1 fun i H2 => s o i v H2 fun H3 => R σ H3) := ⟨id⟩
theorem r_setL {p : Addr} {xs : List V} {m : Nat} {R : Hp → Prop} (h : H p = some (.lst xs)) (e : ixN xs.length i = some m) (q : ∀ H2, H2 p = some (.lst (xs.set m v)) → Kp [p] H H2 → R H2) : rSetL (.ref p) (.int i) v H R :=
  ⟨p, xs, i, m, rfl, rfl, h, e, q _ upd_same (Kp.put h trivial)⟩
theorem if_T {A B : Prop} {c : Prop} [Decidable c] (hc : c) (h : A) : iteP (decide c) A B := by
  unfold iteP
  rw [if_pos (decide_eq_true hc)]
  exact h
theorem if_F {A B : Prop} {c : Prop} [Decidable c] (hc : ¬ c) (h : B) : iteP (decide c) A B := by
  unfold iteP
  rw [if_neg (by rw [decide_eq_false hc]; decide)]
  exact h
theorem if_S {A B : Prop} {c : Prop} [Decidable c] (h : c → A) (h' : ¬ c → B) : iteP (decide c) A B := by
  by_cases hc : c
  · exact if_T hc (h hc)
  · exact if_F hc (h' hc)
theorem if_NT {A B : Prop} {c : Prop} [Decidable c] (hc : ¬ c) (h : A) : iteP (!decide c) A B := by
  rw [decide_eq_false hc]
  exact iteT h
theorem if_NF {A B : Prop} {c : Prop} [Decidable c] (hc : c) (h : B) : iteP (!decide c) A B := by
  rw [decide_eq_true hc]
  exact iteF h
theorem if_NS {A B : Prop} {c : Prop} [Decidable c] (h : ¬ c → A) (h' : c → B) : iteP (!decide c) A B := by
  by_cases hc : c
  · exact if_NF hc (h' hc)
  · exact if_NT hc (h hc)
theorem if_B {A B : Prop} {b : Bool} (h : b = true → A) (h' : b = false → B) : iteP b A B := by
  cases b
  · exact iteF (h' rfl)
  · exact iteT (h rfl)
end

/-! ### built-in calls by named rules -/
section
variable {X : Cx} {f : Value} {r r' : List V → Hp → VK → Prop}
theorem callR_imp (h : CallR X f r) (i : ∀ xs H Q, r' xs H Q → r xs H Q) : CallR X f r' := fun pins s σ H xs us Q I rx q => h pins s σ H xs us Q I rx (i _ _ _ q)
def rInt : List V → Hp → VK → Prop := fun xs H Q => (∃ i, xs = [.int i] ∧ Q (.int i) H) ∨ ∃ k, xs = [.bl k] ∧ Q (.int (if k then 1 else 0)) H
theorem cg_int : CallR X (.type "int") rInt := call_int1
def rLen (K : PySem.W.Frag) : List V → Hp → VK → Prop := fun xs H Q => ∃ p ys, xs = [.ref p] ∧ (SqL K H p ys ∨ SqT K H p ys) ∧ Q (.int ys.length) H
theorem cg_len : CallR X (.builtin "len") (rLen X.K) := call_len_seq
def rListOf (K : PySem.W.Frag) : List V → Hp → VK → Prop := fun xs H Q => ∃ p ys, xs = [.ref p] ∧ (SqL K H p ys ∨ SqT K H p ys) ∧ ∀ l, H l = none → Q (.ref l) (upd H l (.lst ys))
theorem cg_list : CallR X (.type "list") (rListOf X.K) := call_list_of
def rTupOf (K : PySem.W.Frag) : List V → Hp → VK → Prop := fun xs H Q => ∃ p ys, xs = [.ref p] ∧ ((SqL K H p ys ∧ ∀ l, H l = none → Q (.ref l) (upd H l (.tup ys))) ∨ (SqT K H p ys ∧ Q (.ref p) H))
theorem cg_tuple : CallR X (.type "tuple") (rTupOf X.K) := call_tuple_of
def rAbs : List V → Hp → VK → Prop := fun xs H Q => ∃ i, xs = [.int i] ∧ Q (.int (if i < 0 then -i else i)) H
theorem cg_abs : CallR X (.builtin "abs") rAbs := call_abs
end
section
variable {H : Hp} {Q : VK} {K : PySem.W.Frag} {i : Int} {p : Addr} {xs : List V}
instance s_int : Stp (rInt [.int i] H Q) (Q (.int i) H) := ⟨fun q => .inl ⟨i, rfl, q⟩⟩
instance s_intB {b : Bool} : Stp (rInt [.bl b] H Q) (Q (.int (if b then 1 else 0)) H) := ⟨fun q => .inr ⟨b, rfl, q⟩⟩
theorem r_lenT (h : SqT K H p xs) (q : Q (.int xs.length) H) : rLen K [.ref p] H Q := ⟨p, xs, rfl, .inr h, q⟩
theorem r_lenL (h : H p = some (.lst xs)) (q : Q (.int xs.length) H) : rLen K [.ref p] H Q := ⟨p, xs, rfl, .inl (SqL.of h), q⟩
theorem r_listL (h : SqL K H p xs) (q : ∀ l H2, H l = none → H2 l = some (.lst xs) → Kp [] H H2 → Q (.ref l) H2) : rListOf K [.ref p] H Q := ⟨p, xs, rfl, .inl h, fun l hl => q l _ hl upd_same (Kp.new hl)⟩
theorem r_tupleL (h : H p = some (.lst xs)) (q : ∀ l H2, H l = none → SqT K H2 l xs → Kp [] H H2 → Q (.ref l) H2) : rTupOf K [.ref p] H Q := ⟨p, xs, rfl, .inl ⟨SqL.of h, fun l hl => q l _ hl (SqT.of upd_same) (Kp.new hl)⟩⟩
instance s_abs : Stp (rAbs [.int i] H Q) (Q (.int (if i < 0 then -i else i)) H) := ⟨fun q => ⟨i, rfl, q⟩⟩
theorem r_isi {v c : V} {t u : Value} {b : Bool} (hc : ClsV c u) (ht : TyX K H v t) (hk : PySem.W.kitOne K t u = some b) (q : Q (.bl b) H) : rIsi K [v, c] H Q := ⟨v, c, t, u, b, rfl, hc, ht, hk, q⟩
theorem r_inL {neg : Bool} {x : V} {b : Bool} (h : H p = some (.lst xs)) (fx : flatV x = true) (fs : xs.all flatV = true) (e : (if neg then !inV x xs else inV x xs) = b) (q : Q (.bl b) H) : rIn K neg x (.ref p) H Q := ⟨p, xs, rfl, .inl (SqL.of h), fx, fs, by rw [e]; exact q⟩
theorem r_inT {neg : Bool} {x : V} {b : Bool} (h : SqT K H p xs) (fx : flatV x = true) (fs : xs.all flatV = true) (e : (if neg then !inV x xs else inV x xs) = b) (q : Q (.bl b) H) : rIn K neg x (.ref p) H Q := ⟨p, xs, rfl, .inr h, fx, fs, by rw [e]; exact q⟩
end
/-! ### data that never changes -/
mutual
inductive Im (K : PySem.W.Frag) (H : Hp) : V → PyData → Prop
  | non : Im K H .non .none
  | bl (b : Bool) : Im K H (.bl b) (.bool b)
  | int (i : Int) : Im K H (.int i) (.int i)
  | str (x : Str) : Im K H (.str x) (.str x)
  | tup {a : Addr} {xs : List V} {ds : List PyData} : SqT K H a xs → ImAll K H xs ds → Im K H (.ref a) (.tuple ds)
inductive ImAll (K : PySem.W.Frag) (H : Hp) : List V → List PyData → Prop
  | nil : ImAll K H [] []
  | cons {v : V} {vs : List V} {d : PyData} {ds : List PyData} : Im K H v d → ImAll K H vs ds → ImAll K H (v :: vs) (d :: ds)
end
section
variable {K : PySem.W.Frag} {H H' : Hp} {S : List Addr} {p : Addr} {xs : List V} {ds : List PyData} {x : V} {d : PyData}
mutual
theorem Kp.im (k : Kp S H H') : ∀ {x : V} {d : PyData}, Im K H x d → Im K H' x d
  | _, _, .non => .non
  | _, _, .bl b => .bl b
  | _, _, .int i => .int i
  | _, _, .str z => .str z
  | _, _, .tup h a => .tup (k.tup h) (Kp.imAll k a)
theorem Kp.imAll (k : Kp S H H') : ∀ {xs : List V} {ds : List PyData}, ImAll K H xs ds → ImAll K H' xs ds
  | _, _, .nil => .nil
  | _, _, .cons h a => .cons (Kp.im k h) (Kp.imAll k a)
end
mutual
theorem Im.dp : ∀ {x : V} {d : PyData}, Im K H x d → Dp K H x d
  | _, _, .non => .non
  | _, _, .bl b => .bl b
  | _, _, .int i => .int i
  | _, _, .str z => .str z
  | _, _, .tup h a => .tup h (ImAll.dp a)
theorem ImAll.dp : ∀ {xs : List V} {ds : List PyData}, ImAll K H xs ds → DpAll K H xs ds
  | _, _, .nil => .nil
  | _, _, .cons h a => .cons h.dp (ImAll.dp a)
end
theorem ImAll.length : ∀ {xs : List V} {ds : List PyData}, ImAll K H xs ds → xs.length = ds.length
  | _, _, .nil => rfl
  | _, _, .cons _ a => by rw [List.length_cons, List.length_cons, ImAll.length a]
theorem ImAll.get : ∀ {xs : List V} {ds : List PyData} {i : Nat} {x : V}, ImAll K H xs ds → xs[i]? = some x → ∃ d, ds[i]? = some d ∧ Im K H x d
  | _, _, _, _, .nil, e => by simp at e
  | _, _, 0, _, .cons h _, e => by simp at e; subst e; exact ⟨_, rfl, h⟩
  | _, _, i + 1, _, .cons _ a, e => by
    obtain ⟨d, h1, h2⟩ := ImAll.get (i := i) a (by simpa using e)
    exact ⟨d, by simpa using h1, h2⟩
theorem ImAll.at : ∀ {xs : List V} {ds : List PyData} {i : Nat} {d : PyData}, ImAll K H xs ds → ds[i]? = some d → ∃ x, xs[i]? = some x ∧ Im K H x d
  | _, _, _, _, .nil, e => by simp at e
  | _, _, 0, _, .cons h _, e => by simp at e; subst e; exact ⟨_, rfl, h⟩
  | _, _, i + 1, _, .cons _ a, e => by
    obtain ⟨x, h1, h2⟩ := ImAll.at (i := i) a (by simpa using e)
    exact ⟨x, by simpa using h1, h2⟩
theorem ImAll.snoc : ∀ {xs : List V} {ds : List PyData} {x : V} {d : PyData}, ImAll K H xs ds → Im K H x d → ImAll K H (xs ++ [x]) (ds ++ [d])
  | _, _, _, _, .nil, h => .cons h .nil
  | _, _, _, _, .cons h a, h' => .cons h (ImAll.snoc a h')
/-- the data of a flat value, back -/
def flatD : PyData → Option V
  | .none => some .non
  | .bool b => some (.bl b)
  | .int i => some (.int i)
  | .str x => some (.str x)
  | _ => Option.none
def flatDs : List PyData → Option (List V)
  | [] => some []
  | d :: ds => match flatD d, flatDs ds with
    | some x, some xs => some (x :: xs)
    | _, _ => Option.none
theorem Im.flat (h : Im K H x d) {y : V} (e : flatD d = some y) : x = y := by
  cases h with
  | tup _ _ => cases e
  | _ => exact Option.some.inj e
theorem ImAll.flat : ∀ {xs : List V} {ds : List PyData} {ys : List V}, ImAll K H xs ds → flatDs ds = some ys → xs = ys
  | _, _, _, .nil, e => Option.some.inj e
  | _, d :: ds, ys, .cons (v := v) h a, e => by
    unfold flatDs at e
    split at e
    · rename_i y zs h1 h2
      rw [h.flat h1, ImAll.flat a h2]
      exact Option.some.inj e
    · cases e
theorem Im.open (h : Im K H (.ref p) (.tuple ds)) : ∃ xs, SqT K H p xs ∧ ImAll K H xs ds := by
  cases h with
  | tup h a => exact ⟨_, h, a⟩
theorem Im.sq (h : Im K H (.ref p) (.tuple ds)) {ys : List V} (e : flatDs ds = some ys) : SqT K H p ys := by
  obtain ⟨xs, h1, h2⟩ := h.open
  rw [← h2.flat e]
  exact h1
theorem Im.isRef (h : Im K H x (.tuple ds)) : ∃ p, x = .ref p := by
  cases h with
  | tup h a => exact ⟨_, rfl⟩
theorem flatDs_ints : ∀ ns : List Int, flatDs (ns.map PyData.int) = some (ns.map V.int)
  | [] => rfl
  | n :: ns => by
    show (match flatD (.int n), flatDs (ns.map PyData.int) with | some x, some xs => some (x :: xs) | _, _ => Option.none) = _
    rw [flatDs_ints ns]
    rfl
theorem Im.ints {ns : List Int} (h : SqT K H p (ns.map V.int)) : Im K H (.ref p) (.tuple (ns.map .int)) := by
  refine .tup h ?_
  clear h
  induction ns with
  | nil => exact .nil
  | cons n ns ih => exact .cons (.int n) ih
end
/-! ### loops -/
def forS (J : It) (g : TG) (tb : TS) (D : Ends) (σ : St) (H : Hp) : Prop := ∃ W : Nat → Nat → St → Hp → Prop, (∃ m, W 0 m σ H) ∧ ∀ i m σ H, W i m σ H →
  (J.stop i H ∧ D.nx σ H) ∨ (J.go i H ∧ ∃ N : St → Hp → Prop, (∀ σ' H', N σ' H' → ∃ m', m' < m ∧ W (i + 1) m' σ' H') ∧ ∀ x H', J.yld i H x H' → g x σ H' fun σ2 H2 => tb { D with nx := N, ct := N, bk := D.nx } σ2 H2)
def isL (K : PySem.W.Frag) (x : V) (H : Hp) (R : It → Hp → Prop) : Prop := ∃ a, x = .ref a ∧ (∃ xs, SqL K H a xs) ∧ R (Itl K a) H
def isT (K : PySem.W.Frag) (x : V) (H : Hp) (R : It → Hp → Prop) : Prop := ∃ a, x = .ref a ∧ (∃ xs, SqT K H a xs) ∧ R (Itt K a) H
def isR1 (vs : List V) (H : Hp) (R : It → Hp → Prop) : Prop := ∃ j : Int, vs = [.int j] ∧ -(2 ^ 62) ≤ j ∧ j < 2 ^ 62 ∧ R (Itr 0 j.toNat) H
section
variable {σ : St} {H : Hp} {K : PySem.W.Frag} {p : Addr} {xs : List V} {g : TG} {tb : TS} {nx bk ct : St → Hp → Prop} {rt : VK} {D : Ends} {wi : TI} {tl : TE} {ta : TA} {R : It → Hp → Prop} {lo : Int} {n : Nat}
instance s_for : Stp (tFor wi g tb D σ H) (wi σ H fun J H1 => forS J g tb D σ H1) := ⟨id⟩
instance s_iL : Stp (iList K tl σ H R) (tl σ H fun x H1 => isL K x H1 R) := ⟨id⟩
instance s_iT : Stp (iTup K tl σ H R) (tl σ H fun x H1 => isT K x H1 R) := ⟨id⟩
instance s_iR1 : Stp (iRng1 ta σ H R) (ta σ H fun vs H1 => isR1 vs H1 R) := ⟨id⟩
theorem r_isL (h : H p = some (.lst xs)) (q : R (Itl K p) H) : isL K (.ref p) H R := ⟨p, rfl, ⟨xs, SqL.of h⟩, q⟩
theorem r_isT (h : SqT K H p xs) (q : R (Itt K p) H) : isT K (.ref p) H R := ⟨p, rfl, ⟨xs, h⟩, q⟩
theorem r_isR1 {j : Int} (h : -1000000000 ≤ j ∧ j ≤ 1000000000) (q : R (Itr 0 j.toNat) H) : isR1 [.int j] H R := ⟨j, rfl, by omega, by omega, q⟩
/-- a for over a list that stands at p all along -/
theorem r_forL (xs : List V) (Pv : Nat → St → Hp → Prop) (h0 : Pv 0 σ H) (hG : ∀ i σ' H', Pv i σ' H' → H' p = some (.lst xs))
    (hs : ∀ i x σ' H', xs[i]? = some x → Pv i σ' H' → g x σ' H' fun σ2 H2 => tb ⟨Pv (i + 1), rt, nx, Pv (i + 1)⟩ σ2 H2) (hd : ∀ σ' H', Pv xs.length σ' H' → nx σ' H') : forS (Itl K p) g tb ⟨nx, rt, bk, ct⟩ σ H :=
  for_it (walk_list (K := K) (a := p) (xs := xs)) Pv h0 (fun i σ' H' _ h => SqL.of (hG i σ' H' h)) (fun i x σ' H1 H2 _ h y => by obtain ⟨rfl, y⟩ := y; exact hs i x σ' _ y h) hd
theorem r_forLI (ns : List Int) (Pv : Nat → St → Hp → Prop) (h0 : Pv 0 σ H) (hG : ∀ i σ' H', Pv i σ' H' → H' p = some (.lst (ns.map V.int)))
    (hs : ∀ i (y : Int) σ' H', ns[i]? = some y → Pv i σ' H' → g (.int y) σ' H' fun σ2 H2 => tb ⟨Pv (i + 1), rt, nx, Pv (i + 1)⟩ σ2 H2) (hd : ∀ σ' H', Pv ns.length σ' H' → nx σ' H') : forS (Itl K p) g tb ⟨nx, rt, bk, ct⟩ σ H := by
  refine r_forL (ns.map V.int) Pv h0 hG (fun i x σ' H' e h => ?_) (by rw [List.length_map]; exact hd)
  rw [List.getElem?_map] at e
  cases q : ns[i]? with
  | none =>
    rw [q] at e
    cases e
  | some y =>
    rw [q] at e
    cases e
    exact hs i y σ' H' q h
theorem r_forT (xs : List V) (Pv : Nat → St → Hp → Prop) (h0 : Pv 0 σ H) (hG : ∀ i σ' H', Pv i σ' H' → SqT K H' p xs)
    (hs : ∀ i x σ' H', xs[i]? = some x → Pv i σ' H' → g x σ' H' fun σ2 H2 => tb ⟨Pv (i + 1), rt, nx, Pv (i + 1)⟩ σ2 H2) (hd : ∀ σ' H', Pv xs.length σ' H' → nx σ' H') : forS (Itt K p) g tb ⟨nx, rt, bk, ct⟩ σ H :=
  for_it (walk_tup (K := K) (a := p) (xs := xs)) Pv h0 (fun i σ' H' _ h => hG i σ' H' h) (fun i x σ' H1 H2 _ h y => by obtain ⟨rfl, y⟩ := y; exact hs i x σ' _ y h) hd
theorem r_forR (Pv : Nat → St → Hp → Prop) (h0 : Pv 0 σ H)
    (hs : ∀ i σ' H', i < n → Pv i σ' H' → g (.int (lo + (i : Int))) σ' H' fun σ2 H2 => tb ⟨Pv (i + 1), rt, nx, Pv (i + 1)⟩ σ2 H2) (hd : ∀ σ' H', Pv n σ' H' → nx σ' H') : forS (Itr lo n) g tb ⟨nx, rt, bk, ct⟩ σ H :=
  for_it walk_range Pv h0 (fun _ _ _ _ _ => trivial) (fun i x σ' H1 H2 hi h y => by obtain ⟨rfl, rfl⟩ := y; exact hs i σ' _ hi h) hd
theorem any_take {α : Type} {l : List α} {f : α → Bool} {i : Nat} {x : α} (h : l[i]? = some x) : (l.take (i + 1)).any f = ((l.take i).any f || f x) := by
  rw [List.take_add_one, h, List.any_append]
  simp
end
/-! ### comprehensions -/
def apS (D : Addr) (y : V) (H : Hp) (R : Hp → Prop) : Prop := ∃ acc, H D = some (.lst acc) ∧ acc.length < sizeLine ∧ R (upd H D (.lst (acc ++ [y])))
def wpS (σ2 σ : St) (vs : List Nat) (R : Prop) : Prop := wipe σ2 vs = wipe σ vs ∧ R
def lcS (J : It) (g : TG) (tt : TT) (te : TE) (vs : List Nat) (σ : St) (H1 : Hp) (Q : VK) : Prop := ∀ D, H1 D = none → ∃ W : Nat → Nat → Hp → Prop, (∃ m, W 0 m (upd H1 D (.lst []))) ∧ ∀ i m H, W i m H →
  (J.stop i H ∧ Q (.ref D) H) ∨ (J.go i H ∧ ∃ Nx : Hp → Prop, (∀ H', Nx H' → ∃ m', m' < m ∧ W (i + 1) m' H') ∧ ∀ x H', J.yld i H x H' → g x (wipe σ vs) H' fun σ2 H2 => wipe σ2 vs = wipe σ vs ∧ tt σ2 H2 fun b H3 =>
    if b = true then te σ2 H3 fun y H4 => ∃ acc, H4 D = some (.lst acc) ∧ acc.length < sizeLine ∧ Nx (upd H4 D (.lst (acc ++ [y]))) else Nx H3)
class SetN (σ : St) (n : Nat) (σ' : outParam St) : Prop where
  e : σ.set n none = σ'
instance setn0 {x : Option V} {σ : St} : SetN (x :: σ) 0 (none :: σ) := ⟨rfl⟩
instance setnS {x : Option V} {σ σ' : St} {n : Nat} [a : SetN σ n σ'] : SetN (x :: σ) (n + 1) (x :: σ') := ⟨by rw [List.set_cons_succ, a.e]⟩
class Wip (σ : St) (vs : List Nat) (σ' : outParam St) : Prop where
  e : wipe σ vs = σ'
instance wip0 {σ : St} : Wip σ [] σ := ⟨rfl⟩
instance wipS {σ σ1 σ2 : St} {v : Nat} {vs : List Nat} [a : Wip σ vs σ1] [b : SetN σ1 v σ2] : Wip σ (v :: vs) σ2 := ⟨by unfold wipe; rw [a.e, b.e]⟩
instance wipM0 {σ : St} : Wip σ (List.map (fun x : Str × Nat => x.2) []) σ := ⟨rfl⟩
instance wipMS {σ σ1 σ2 : St} {x : Str} {v : Nat} {own : List (Str × Nat)} [a : Wip σ (List.map (fun x : Str × Nat => x.2) own) σ1] [b : SetN σ1 v σ2] : Wip σ (List.map (fun x : Str × Nat => x.2) ((x, v) :: own)) σ2 := ⟨by rw [List.map_cons]; unfold wipe; rw [a.e, b.e]⟩
section
variable {σ σ0 : St} {H : Hp} {K : PySem.W.Frag} {p : Addr} {xs : List V} {g : TG} {wi : TI} {tt : TT} {te : TE} {vs : List Nat} {Q : VK} {J : It} {n : Nat} {lo : Int}
instance s_lc : Stp (tLc wi g tt te vs σ H Q) (wi σ H fun J H1 => lcS J g tt te vs σ H1 Q) := ⟨id⟩
instance s_yes {R : Bool → Hp → Prop} : Stp (tYes σ H R) (R true H) := ⟨id⟩
instance s_wp {R : Prop} {σ2 : St} [a : Wip σ2 vs σ0] [b : Wip σ vs σ0] : Stp (wpS σ2 σ vs R) R := ⟨fun h => ⟨by rw [a.e, b.e], h⟩⟩
theorem r_ap {D : Addr} {y : V} {R : Hp → Prop} {acc : List V} (h : H D = some (.lst acc)) (hl : acc.length < sizeLine) (q : ∀ H2, H2 D = some (.lst (acc ++ [y])) → Kp [D] H H2 → R H2) : apS D y H R :=
  ⟨acc, h, hl, q _ upd_same (Kp.put h trivial)⟩
theorem lc_by {G : Hp → Prop} {Y : Nat → Hp → V → Hp → Prop} (w : Walk J n G Y) [hw : Wip σ vs σ0] (Pv : Addr → Nat → Hp → Prop) (h0 : ∀ D H2, H D = none → H2 D = some (.lst []) → Kp [] H H2 → Pv D 0 H2) (hG : ∀ D i H', Pv D i H' → G H')
    (hs : ∀ D i x H' H'', i < n → Pv D i H' → Y i H' x H'' → g x σ0 H'' fun σ2 H2 => wpS σ2 σ vs (tt σ2 H2 fun b H3 => iteP b (te σ2 H3 fun y H4 => apS D y H4 (Pv D (i + 1))) (Pv D (i + 1) H3)))
    (hd : ∀ D H', Pv D n H' → Q (.ref D) H') : lcS J g tt te vs σ H Q := by
  intro D hD
  refine lc_it w (Pv D) (h0 D _ hD upd_same (Kp.new hD)) (fun i H' _ h => hG D i H' h) ?_ (hd D)
  intro i x H' H'' hi h y
  rw [hw.e]
  have q := hs D i x H' H'' hi h y
  unfold wpS at q
  rw [hw.e] at q
  exact q
theorem r_lcT (xs : List V) [hw : Wip σ vs σ0] (Pv : Addr → Nat → Hp → Prop) (h0 : ∀ D H2, H D = none → H2 D = some (.lst []) → Kp [] H H2 → Pv D 0 H2) (hG : ∀ D i H', Pv D i H' → SqT K H' p xs)
    (hs : ∀ D i x H', xs[i]? = some x → Pv D i H' → g x σ0 H' fun σ2 H2 => wpS σ2 σ vs (tt σ2 H2 fun b H3 => iteP b (te σ2 H3 fun y H4 => apS D y H4 (Pv D (i + 1))) (Pv D (i + 1) H3)))
    (hd : ∀ D H', Pv D xs.length H' → Q (.ref D) H') : lcS (Itt K p) g tt te vs σ H Q :=
  lc_by (walk_tup (K := K) (a := p) (xs := xs)) Pv h0 hG (fun D i x H1 H2 _ h y => by obtain ⟨rfl, y⟩ := y; exact hs D i x _ y h) hd
theorem r_lcL (xs : List V) [hw : Wip σ vs σ0] (Pv : Addr → Nat → Hp → Prop) (h0 : ∀ D H2, H D = none → H2 D = some (.lst []) → Kp [] H H2 → Pv D 0 H2) (hG : ∀ D i H', Pv D i H' → H' p = some (.lst xs))
    (hs : ∀ D i x H', xs[i]? = some x → Pv D i H' → g x σ0 H' fun σ2 H2 => wpS σ2 σ vs (tt σ2 H2 fun b H3 => iteP b (te σ2 H3 fun y H4 => apS D y H4 (Pv D (i + 1))) (Pv D (i + 1) H3)))
    (hd : ∀ D H', Pv D xs.length H' → Q (.ref D) H') : lcS (Itl K p) g tt te vs σ H Q :=
  lc_by (walk_list (K := K) (a := p) (xs := xs)) Pv h0 (fun D i H' h => SqL.of (hG D i H' h)) (fun D i x H1 H2 _ h y => by obtain ⟨rfl, y⟩ := y; exact hs D i x _ y h) hd
theorem r_lcR [hw : Wip σ vs σ0] (Pv : Addr → Nat → Hp → Prop) (h0 : ∀ D H2, H D = none → H2 D = some (.lst []) → Kp [] H H2 → Pv D 0 H2)
    (hs : ∀ D i H', i < n → Pv D i H' → g (.int (lo + (i : Int))) σ0 H' fun σ2 H2 => wpS σ2 σ vs (tt σ2 H2 fun b H3 => iteP b (te σ2 H3 fun y H4 => apS D y H4 (Pv D (i + 1))) (Pv D (i + 1) H3)))
    (hd : ∀ D H', Pv D n H' → Q (.ref D) H') : lcS (Itr lo n) g tt te vs σ H Q :=
  lc_by walk_range Pv h0 (fun _ _ _ _ => trivial) (fun D i x H1 H2 hi h y => by obtain ⟨rfl, rfl⟩ := y; exact hs D i _ hi h) hd
end
/-! ### rules with the written part by its name (within comprehensions) -/
section
variable {X : Cx} (K : PySem.W.Frag)
theorem ixT (h : X.K = K := by rfl) : IxR X (rIxT K) := h ▸ ix_tup
theorem ixL (h : X.K = K := by rfl) : IxR X (rIxL K) := h ▸ ix_list
theorem inS (h : X.K = K := by rfl) : OpR X (compareOp .In) (rIn K false) := h ▸ op_in_seq
theorem notInS (h : X.K = K := by rfl) : OpR X (compareOp .NotIn) (rIn K true) := h ▸ op_notIn_seq
theorem cgLen (h : X.K = K := by rfl) : CallR X (.builtin "len") (rLen K) := h ▸ cg_len
theorem cgList (h : X.K = K := by rfl) : CallR X (.type "list") (rListOf K) := h ▸ cg_list
theorem cgTuple (h : X.K = K := by rfl) : CallR X (.type "tuple") (rTupOf K) := h ▸ cg_tuple
theorem cgIsi (h : X.K = K := by rfl) : CallR X (.builtin "isinstance") (rIsi K) := h ▸ call_isi
theorem eqD {k : Nat} {A : Around} (r : Room k A) (h : X.K = K := by rfl) (ha : X.A = A := by rfl) : OpR X (compareOp .Eq) (rEqD K) := h ▸ op_eqD (by rw [ha]; exact r.units)
theorem neD {k : Nat} {A : Around} (r : Room k A) (h : X.K = K := by rfl) (ha : X.A = A := by rfl) : OpR X (compareOp .NotEq) (rNeD K) := h ▸ op_neD (by rw [ha]; exact r.units)
theorem slT (h : X.K = K := by rfl) : SlR X (rSlT K) := h ▸ sl_tup
end
/-! ### is None; any, all -/
def rIsNo : R2 := fun x y H Q => y = .non ∧ Q (.bl (decide (x = .non))) H
def rNotNo : R2 := fun x y H Q => y = .non ∧ Q (.bl (!decide (x = .non))) H
theorem cg_isN {X : Cx} : OpR X (compareOp .Is) rIsNo := op_isN
theorem cg_notN {X : Cx} : OpR X (compareOp .IsNot) rNotNo := op_notN
section
variable {H : Hp} {Q : VK} {p : Addr} {K : PySem.W.Frag} {bs : List Bool}
instance s_isN0 : Stp (rIsNo .non .non H Q) (Q (.bl true) H) := ⟨fun h => ⟨rfl, h⟩⟩
instance s_isN1 : Stp (rIsNo (.ref p) .non H Q) (Q (.bl false) H) := ⟨fun h => ⟨rfl, by rw [decide_eq_false (fun e => by cases e)]; exact h⟩⟩
instance s_notN0 : Stp (rNotNo .non .non H Q) (Q (.bl false) H) := ⟨fun h => ⟨rfl, h⟩⟩
instance s_notN1 : Stp (rNotNo (.ref p) .non H Q) (Q (.bl true) H) := ⟨fun h => ⟨rfl, by rw [decide_eq_false (fun e => by cases e)]; exact h⟩⟩
theorem r_any (h : H p = some (.lst (bs.map V.bl))) (q : Q (.bl (bs.any id)) H) : rAny K [.ref p] H Q := ⟨p, bs, rfl, SqL.of h, q⟩
theorem r_all (h : H p = some (.lst (bs.map V.bl))) (q : Q (.bl (bs.all id)) H) : rAll K [.ref p] H Q := ⟨p, bs, rfl, SqL.of h, q⟩
end
/-! ### list methods -/
instance s_bm {K : PySem.W.Frag} {T : String} {r : V → List V → Hp → VK → Prop} {to : TE} {t : TA} {σ : St} {H : Hp} {Q : VK} : Stp (tBM K T r to t σ H Q) (to σ H fun x H1 => tyV K T x H1 ∧ t σ H1 fun xs H2 => r x xs H2 Q) := ⟨id⟩
theorem r_tyL {K : PySem.W.Frag} {H : Hp} {l : Addr} {xs : List V} {R : Prop} (h : H l = some (.lst xs)) (q : R) : tyV K "list" (.ref l) H ∧ R := ⟨.inl ⟨rfl, xs, SqL.of h⟩, q⟩
theorem r_app {H : Hp} {l : Addr} {xs : List V} {y : V} {Q : VK} (h : H l = some (.lst xs)) (hl : xs.length < sizeLine) (q : ∀ H2, H2 l = some (.lst (xs ++ [y])) → Kp [l] H H2 → Q .non H2) : rAppend (.ref l) [y] H Q :=
  ⟨l, xs, y, rfl, rfl, h, hl, q _ upd_same (Kp.put h trivial)⟩
section
variable {H : Hp} {Q : VK} {l p : Addr} {K : PySem.W.Frag} {xs : List V} {y : V} {i : Int}
def rIns : V → List V → Hp → VK → Prop := fun x vs H Q => ∃ (l : Addr) (xs : List V) (i : Int) (y : V), x = .ref l ∧ vs = [.int i, y] ∧ H l = some (.lst xs) ∧ xs.length < sizeLine ∧ 0 ≤ i ∧ i < 2 ^ 63 ∧ Q .non (upd H l (.lst (xs.take i.toNat ++ [y] ++ xs.drop i.toNat)))
theorem cg_insert {X : Cx} : MtR X "list.insert" rIns := mt_insert
theorem r_ins (h : H l = some (.lst xs)) (hl : xs.length < sizeLine) (h0 : 0 ≤ i) (h1 : i ≤ 1000000) (q : ∀ H2, H2 l = some (.lst (xs.take i.toNat ++ [y] ++ xs.drop i.toNat)) → Kp [l] H H2 → Q .non H2) : rIns (.ref l) [.int i, y] H Q :=
  ⟨l, xs, i, y, rfl, rfl, h, hl, h0, by omega, q _ upd_same (Kp.put h trivial)⟩
theorem r_pop (h : H l = some (.lst xs)) (h0 : 0 ≤ i) (h1 : i < xs.length) (h2 : i ≤ 1000000) (q : ∀ y H2, xs[i.toNat]? = some y → H2 l = some (.lst (xs.eraseIdx i.toNat)) → Kp [l] H H2 → Q y H2) : rPopAt (.ref l) [.int i] H Q := by
  have e : i.toNat < xs.length := by omega
  refine ⟨l, xs, i, i.toNat, xs[i.toNat], rfl, rfl, h, by omega, by omega, ?_, List.getElem?_eq_getElem e, q _ _ (List.getElem?_eq_getElem e) upd_same (Kp.put h trivial)⟩
  unfold seqIndex?
  rw [if_neg (by omega : ¬ i < 0)]
  simp
  omega
theorem r_listT (h : SqT K H p xs) (q : ∀ l H2, H l = none → H2 l = some (.lst xs) → Kp [] H H2 → Q (.ref l) H2) : rListOf K [.ref p] H Q := ⟨p, xs, rfl, .inr h, fun l hl => q l _ hl upd_same (Kp.new hl)⟩
instance s_sl {r : V → Option Int → Option Int → Hp → VK → Prop} {te : TE} {tl th : TO} {σ : St} : Stp (tSl r te tl th σ H Q) (te σ H fun x H1 => tl σ H1 fun l H2 => th σ H2 fun u H3 => r x l u H3 Q) := ⟨id⟩
instance s_noPart {σ : St} {R : Option Int → Hp → Prop} : Stp (tNoPart σ H R) (R Option.none H) := ⟨id⟩
def asI (x : V) (R : Int → Prop) : Prop := ∃ i, x = .int i ∧ R i
instance s_asI {R : Int → Prop} : Stp (asI (.int i) R) (R i) := ⟨fun h => ⟨i, rfl, h⟩⟩
instance s_part {te : TE} {σ : St} {R : Option Int → Hp → Prop} : Stp (tPart te σ H R) (te σ H fun x H1 => asI x fun i => R (some i) H1) := ⟨id⟩
theorem r_slL {lo hi : Option Int} (h : H p = some (.lst xs)) (q : ∀ l H2, H l = none → H2 l = some (.lst (cutV xs lo hi)) → Kp [] H H2 → Q (.ref l) H2) : rSlL K (.ref p) lo hi H Q := ⟨p, xs, rfl, SqL.of h, fun l hl => q l _ hl upd_same (Kp.new hl)⟩
theorem slL {X : Cx} (K : PySem.W.Frag) (h : X.K = K := by rfl) : SlR X (rSlL K) := h ▸ sl_list
theorem cut_from {i : Int} (h : 0 ≤ i) : cutV xs (some i) none = xs.drop i.toNat := by
  obtain ⟨k, rfl⟩ : ∃ k : Nat, i = k := ⟨i.toNat, by omega⟩
  unfold cutV
  rw [HT.sIx_nat, HT.sIx_none, Int.toNat_natCast]
  by_cases hk : k ≤ xs.length
  · rw [Nat.min_eq_left hk, List.take_of_length_le (by rw [List.length_drop]; omega)]
  · rw [Nat.min_eq_right (by omega), List.drop_eq_nil_of_le (Nat.le_refl _), List.drop_eq_nil_of_le (by omega), List.take_nil]
/-- a list of bools in which True, False stands -/
theorem flat_bls (bs : List Bool) : (bs.map V.bl).all flatV = true := by
  induction bs with
  | nil => rfl
  | cons b bs ih => simpa [flatV] using ih
theorem inV_true (bs : List Bool) : inV (.bl true) (bs.map V.bl) = bs.any id := by
  unfold inV
  rw [List.any_map]
  congr 1
  funext b
  cases b <;> rfl
theorem inV_false (bs : List Bool) : (!inV (.bl false) (bs.map V.bl)) = bs.all id := by
  unfold inV
  induction bs with
  | nil => rfl
  | cons b bs ih =>
    simp only [List.map_cons, List.any_cons, List.all_cons, Bool.not_or, ih]
    cases b <;> rfl
end
/-! ### the walk's own steps (rows of tactics) -/
local macro_rules | `(tactic| walk_at "cg yes") => `(tactic| (first
  | assumption | decide | omega | (simp; done)
  | fail))
local macro_rules | `(tactic| walk_at "cg ne") => `(tactic| (first
  | assumption | (apply Ne.symm; assumption) | exact ne_newL (by assumption) (by walk_at "cg h") | exact ne_newR (by assumption) (by walk_at "cg h")
  | fail))
/-- what stands at an address, a tuple, from the last heap backwards -/
local macro_rules | `(tactic| walk_at "cg h") => `(tactic| (first
  | assumption
  | ((with_reducible show _ = some _); first
      | exact Kp.get0 (by assumption) (by walk_at "cg h") | exact Kp.get1 (by assumption) (by walk_at "cg ne") (by walk_at "cg h"))
  | ((with_reducible show SqT _ _ _ _); exact Kp.tup (by assumption) (by walk_at "cg h"))
  | ((with_reducible show Im _ _ _ _); exact Kp.im (by assumption) (by walk_at "cg h"))
  | ((with_reducible show ImAll _ _ _ _); exact Kp.imAll (by assumption) (by walk_at "cg h"))
  | fail))
/-- an address that was free -/
local macro_rules | `(tactic| walk_at "cg fr") => `(tactic| (first
  | assumption
  | exact Kp.free0 (by assumption) (by assumption)
  | exact Kp.free0 (by walk_at "cg kp") (by assumption)
  | fail))
/-- the frame from the entry on -/
local macro_rules | `(tactic| walk_at "cg kp") => `(tactic| (first
  | assumption
  | exact Kp.refl
  | exact Kp.tr0 (by assumption) (by walk_at "cg kp")
  | exact Kp.tr1 (by assumption) (by walk_at "cg kp")
  | exact Kp.trN (by assumption) (by walk_at "cg kp") (by walk_at "cg fr")
  | fail))
local macro_rules | `(tactic| walk_at "cg ty") => `(tactic| (first
  | exact .base (.int _) | exact .base (.bl _) | exact .base (.str _) | exact .base .non | exact SqT.ty (by walk_at "cg h") | exact .base (.lst (by walk_at "cg h"))
  | fail))
local macro_rules | `(tactic| walk_at "cg C") => `(tactic| (first
  | assumption | exact (show CMul _ _ from .inl ⟨by omega, by omega⟩) | exact (show CMul _ _ from .inr ⟨by omega, by omega⟩) | omega | decide
  | exact ⟨by decide, by decide, by decide⟩ | exact ⟨by omega, by omega⟩
  | fail))
local macro_rules | `(tactic| walk_at "cg s") => `(tactic| (first
  | (refine go1 inferInstance inferInstance ?_)
  | ((with_reducible refine r_rI ?_ ?_); (focus (walk_at "cg C")))
  | ((with_reducible apply r_ixL); (focus (walk_at "cg h")); exact rfl)
  | ((with_reducible apply r_ixT); (focus (walk_at "cg h")); exact rfl)
  | ((with_reducible apply r_lenL); (focus (walk_at "cg h")))
  | ((with_reducible apply r_lenT); (focus (walk_at "cg h")))
  | ((with_reducible apply r_gTup); (focus (walk_at "cg h")); exact rfl)
  | ((with_reducible refine r_mkT (K := ‹PySem.W.Frag›) ?_ ?_); (focus (exact Nat.le_of_ble_eq_true rfl)); intro _ _ _ _ _)
  | ((with_reducible refine r_mkL ?_ ?_); (focus (exact Nat.le_of_ble_eq_true rfl)); intro _ _ _ _ _)
  | ((with_reducible apply r_tupleL); (focus (walk_at "cg h")); intro _ _ _ _ _)
  | ((with_reducible apply r_listT); (focus (walk_at "cg h")); intro _ _ _ _ _)
  | ((with_reducible apply r_slL); (focus (walk_at "cg h")); intro _ _ _ _ _)
  | ((with_reducible apply r_listL); (focus (walk_at "cg h")); intro _ _ _ _ _)
  | ((with_reducible apply r_setL); (focus (walk_at "cg h")); exact rfl)
  | ((with_reducible apply r_isi); (focus (exact .ty _)); (focus (walk_at "cg ty")); (focus (first | exact kit_ty (r := true) (by decide +kernel) | exact kit_ty (r := false) (by decide +kernel))))
  | ((with_reducible apply r_inL); (focus (walk_at "cg h")); exact rfl; exact rfl; (focus (first | exact (by decide +kernel : _ = true) | exact (by decide +kernel : _ = false))))
  | ((with_reducible apply r_inT); (focus (walk_at "cg h")); exact rfl; exact rfl; (focus (first | exact (by decide +kernel : _ = true) | exact (by decide +kernel : _ = false))))
  | ((with_reducible apply r_tyL); (focus (walk_at "cg h")))
  | ((with_reducible refine r_app (xs := ?xs) ?h ?hl ?_); (case h => walk_at "cg h"); (case hl => first | exact Nat.lt_of_sub_pos (by decide) | (apply small1000; omega) | (apply small1000; simp; done) | (apply small1000; simp; omega)); intro _ _ _)
  | ((with_reducible apply r_isL); (focus (walk_at "cg h")))
  | ((with_reducible apply r_isT); (focus (walk_at "cg h")))
  | ((with_reducible apply r_isR1); (focus (first | omega | (constructor <;> decide))))
  | ((with_reducible refine if_T ?_ ?_); (focus (walk_at "cg yes"))) | ((with_reducible refine if_F ?_ ?_); (focus (walk_at "cg yes")))
  | ((with_reducible refine if_NT ?_ ?_); (focus (walk_at "cg yes"))) | ((with_reducible refine if_NF ?_ ?_); (focus (walk_at "cg yes")))
  | fail))
local macro_rules | `(tactic| walk_at "cg") => `(tactic| repeat (walk_at "cg s"))

/-! ### set(xs) of a list of ints, and sorted of it -/
section
open PySem.Spec PyProof.Rows
variable {P : Program} {w : World} {A : Around} {E : Value → Shared → Prop} {s : Shared}
/-- a new empty set; the iterator of the list at l -/
def oSet (w : World) : Obj := ⟨.type "set", none, .set #[] 0 (.fresh 0 0 (!w.params.followText "set-order")), #[]⟩
def oIt (l : Addr) : Obj := ⟨.type "list_iterator", none, .fields #[.ref l, .int 0 0], #[]⟩
/-- what the making of the set leaves: the set at n, every elder object -/
def SetDone (w : World) (h0 : Heap) (ns : List Int) (h : Heap) : Prop := ∃ c, SetR w h h0.objs.size (fun j => decide (j ∈ ns)) c ∧ c ≤ ns.length ∧ ∀ b o, h0.get? b = some o → h.get? b = some o
set_option maxHeartbeats 8000000 in
theorem set_made {l : Addr} {vs : Array Value} {ns : List Int} {Q : Value → Shared → Prop} (hc : A.handled = none) (hl : s.heap.IsList l vs) (hv : IntsAre vs.toList ns) (few : ns.length ≤ 4000)
    (q : ∀ h tk, SetDone w s.heap ns h → Q (.ref s.heap.objs.size) { s with heap := h, toks := tk }) : wpAny (model P w) A (call (.type "set") [.ref l]) Q E s := by
  have room : ns.length + 1 < scanBound := by unfold scanBound; omega
  have size : vs.size = ns.length := by simpa using IntsAre.length hv
  have atS : (s.heap.push (oSet w)).get? s.heap.objs.size = some (oSet w) := Heap.get?_push_size _ rfl
  have tyS : Shared.TypeIs { s with heap := s.heap.push (oSet w) } (.ref s.heap.objs.size) "set" := ⟨_, atS, rfl⟩
  have e1 := F.called_set.made
  have e2 := F.called_set.sub
  have e3 := F.called_set.notType
  have e4 := F.called_set.canCreate
  have e5 := F.typeCall_set_1 (.ref l)
  have e6 := F.called_set.init.lookup
  have e7 := F.called_set.init.bind (.ref s.heap.objs.size)
  obtain ⟨cc, tl, e0⟩ := F.called_set.mro
  apply wpAny_call
  apply codeAny_of_tree
  show wpAny _ _ (callAny (.type "set") _) _ _ _
  apply wpAny_pure
  refine ⟨Code.quiet_builtin _ (by decide +kernel), ?_⟩
  apply codeAny_builtin F.entry_type_call
  rw [Around.under_plain (weight_type_call_type "set" [.ref l] []) rfl]
  repeat any_goals first | wp_step | assumption
  refine codeAny_mono (code_set_led1 (E := E) (.ref l) (Q₁ := fun v z => v = .ref s.heap.objs.size ∧ z = { s with heap := s.heap.push (oSet w) }) ⟨rfl, rfl⟩) ?_
  rintro (e | f) z hz
  · exact hz
  · cases f
    case ret v =>
      obtain ⟨rfl, rfl⟩ := hz
      repeat any_goals first | wp_step | assumption
      refine codeAny_mono (codeAny_call_builtin F.called_set.init.plain F.entry_set_init (check_set_init_1 tyS ?go)
        (R := wants (fun r z => r = .none ∧ ∃ h tk, z = { s with heap := h, toks := tk } ∧ SetDone w s.heap ns h) E)) ?_
      case go =>
        obtain ⟨⟨c0, d0, t0, s0⟩, at0, cl0, n0, da0⟩ := hl
        dsimp only at cl0 da0
        subst cl0 da0
        have atL : (s.heap.push (oSet w)).get? l = some ⟨.type "list", d0, .seq vs n0, s0⟩ := Heap.get?_push_of_some _ at0
        have isL : (s.heap.push (oSet w)).IsList l vs := ⟨_, atL, rfl, n0, rfl⟩
        have f1 := F.sub_list_set
        have f2 := F.sub_list_frozenset
        have f3 : (Value.type "list" == Value.type "dict") = false := by decide
        unfold Builtin.«set.__init__» noKeywords Builtin.Frozenset.updateFrom
        generalize hw : pyIter = it0
        wp_walk
        subst hw
        apply wpAny_pyIter_list isL
        apply wpAny_bind
        apply wpAny_runValue
        have small : l < s.heap.objs.size := Heap.lt_size at0
        have big : (s.heap.push (oSet w)).objs.size = s.heap.objs.size + 1 := Heap.size_push ..
        have calm : A.in1.in1.in1.handled = none := by simpa using hc
        have n1 : l ≠ (s.heap.push (oSet w)).objs.size := by
          rw [big]
          exact Nat.ne_of_lt (Nat.lt_succ_of_lt small)
        have n2 : s.heap.objs.size ≠ (s.heap.push (oSet w)).objs.size := by
          rw [big]
          exact Nat.ne_of_lt (Nat.lt_succ_self _)
        refine set_update_ints (Walks.list calm _ l n1 vs).toS s.heap.objs.size (fun hm => ?f1) ns size room (fun i v ev => ?f2) (vs.size - 0) 0 _ rfl (Nat.zero_le _)
          ⟨⟨_, Heap.get?_push_size _ rfl, rfl, rfl⟩, isL.push _⟩ ⟨0, Nat.le_refl 0, setR_new_at (Heap.get?_push_of_some _ atS)⟩ ?f3
        case f1 =>
          rcases List.mem_cons.mp hm with e | hm
          · exact n2 e
          · exact Nat.ne_of_gt small (List.mem_singleton.mp hm)
        case f2 =>
          have hi : i < ns.length := size ▸ (Array.getElem?_eq_some_iff.mp ev).1
          obtain ⟨t, e⟩ := IntsAre.int_at hv i v (by simpa using ev)
          exact ⟨ns[i], t, by simp [hi], by simp [e, hi]⟩
        case f3 =>
          rintro ⟨h, g, d, tk, os⟩ c moved hcn hS
          obtain rfl : g = s.gens := moved.gens
          obtain rfl : d = s.drawn := moved.drawn
          obtain rfl : os = s.os := moved.os
          apply wpAny_pure
          show wpAny _ _ (ret Value.none) _ _ _
          apply wpAny_pure
          refine ⟨rfl, h, tk, rfl, c, hS, by omega, fun b o e => ?_⟩
          have lt := Heap.lt_size e
          refine moved.heap b o (fun hm => ?_) (Heap.get?_push_of_some _ (Heap.get?_push_of_some _ e))
          rcases List.mem_cons.mp hm with e | hm
          · exact Nat.ne_of_lt lt e
          · have e : b = (s.heap.push (oSet w)).objs.size := List.mem_singleton.mp hm
            rw [big] at e
            exact Nat.ne_of_lt (Nat.lt_succ_of_lt lt) e
      rintro (e | f) z hz
      · exact hz
      · cases f
        case ret v =>
          obtain ⟨rfl, h, tk, rfl, done⟩ := hz
          repeat any_goals first | wp_step | assumption
          exact q h tk done
        all_goals exact hz.elim
    all_goals exact hz.elim
end
/-- set(xs), xs a list of ints -/
def rSetL (K : PySem.W.Frag) (w : World) : List V → Hp → VK → Prop := fun vs H Q => ∃ (l : Addr) (ns : List Int), vs = [.ref l] ∧ SqL K H l (ns.map V.int) ∧ ns.length ≤ 4000 ∧
  ∀ p c, H p = none → c ≤ ns.length → (∀ us : List Int, (∀ j ∈ ns, j ∈ us) → c ≤ us.length) → Q (.ref p) (upd H p (SetO w p (fun j => decide (j ∈ ns)) c))
theorem nodup_le0 : ∀ {ns us : List Int}, ns.Nodup → (∀ k ∈ ns, k ∈ us) → ns.length ≤ us.length
  | [], _, _, _ => Nat.zero_le _
  | n :: ns, us, h, s => by
    rw [List.nodup_cons] at h
    have m := s n List.mem_cons_self
    have q := nodup_le0 (ns := ns) (us := us.erase n) h.2 fun k hk => (List.mem_erase_of_ne fun e => h.1 (by rw [← e]; exact hk)).mpr (s k (List.mem_cons_of_mem _ hk))
    rw [List.length_erase_of_mem m] at q
    have := List.length_pos_of_mem m
    rw [List.length_cons]
    omega
theorem setR_card {w : World} {h : Heap} {a : Addr} {S : Int → Bool} {c : Nat} (R : SetR w h a S c) {us : List Int} (hs : ∀ k, S k = true → k ∈ us) : c ≤ us.length := by
  obtain ⟨o, es, ep, t, _, _, _, _, nd, iff, _, _, hsz, _⟩ := R
  have q := nodup_le0 nd fun k hk => hs k ((iff k).mpr hk)
  rw [List.length_map] at q
  have : es.toList.length = es.size := by simp
  omega
theorem cg_setL {X : Cx} (hc : X.calm = true) : CallR X (.type "set") (rSetL X.K X.w) := by
  rintro pins s σ H vs us Q I r ⟨l, ns, rfl, hS, hn, q⟩
  obtain ⟨its, rv, pl, hz⟩ := I.list hS
  have e1 := Vals.ref1 r
  subst e1
  have hv : PyProof.Rows.IntsAre its.toArray.toList ns := by simpa using rv.ints
  refine set_made (I.ok.hd hc) pl.isList hv hn ?_
  rintro h tk ⟨c, hR, hcn, keep⟩
  have free : H s.heap.objs.size = none := I.hok.fresh (Nat.le_refl _)
  exact ⟨.ref _, _, I.laid (t' := tk) keep (Nat.le_refl _) (setO_new hR), rfl, q _ c free hcn fun us hu => setR_card hR fun k hk => hu k (of_decide_eq_true hk)⟩

/-! ### sets of tuples of flat things (ints, texts, bools, None) -/
section
open PySem.Spec PyProof.Rows
variable {P : Program} {w : World} {κ : Type} [DecidableEq κ] {kn : KeyKind P w κ} {A : Around} {E : Value → Shared → Prop} {s : Shared}
theorem tv_cls (n : Nat) {v : Value} (h : carriedByValue v = true) : ofAClassStatement n v = pure false := by
  cases v with
  | ref a => simp [carriedByValue] at h
  | _ => cases n <;> rfl
theorem tv_hash (n : Nat) {v : Value} (h : carriedByValue v = true) : ∃ b, hashByValue n v = pure b := by
  cases v with
  | ref a => simp [carriedByValue] at h
  | _ => cases n <;> exact ⟨_, rfl⟩
/-- a tuple of flat things is of no class statement -/
theorem tt_cls {k : List κ} {b : Addr} {Q : Bool → Shared → Prop} (T : IsTupleKey kn s.heap k b) (q : Q false s) : wpAny (model P w) A (ofAClassStatement 8 (.ref b)) Q E s := by
  have ty := T.typeIs
  obtain ⟨o, its, n, at0, _, da, ia⟩ := T
  unfold ofAClassStatement
  refine wpAny_bind (wpAny_typeOf ty ?_)
  dsimp only
  have e0 : (("tuple" : String) == "tuple") = true := by decide
  simp only [e0, if_true, Bool.not_true, Bool.false_eq_true, if_false]
  try refine wpAny_bind (wpAny_pure ?_)
  try simp only [Bool.not_true, Bool.false_eq_true, if_false]
  show wpAny _ _ (seqItems? (.ref b) >>= _) _ _ s
  refine wpAny_bind (wpAny_seqItems at0 da ?_)
  dsimp only
  refine wpAny_bind ?_
  show wpAny _ _ (forIn its _ _) _ _ s
  rw [← Array.forIn_toList]
  refine wpAny_forIn_list _ (fun left st z => st.1 = none ∧ z = s ∧ ∀ v ∈ left, carriedByValue v = true) _ ?_ ?_ _ _ ⟨rfl, rfl, ia.byValue⟩
  · rintro v left st z ⟨e1, rfl, all⟩
    rw [tv_cls _ (all v List.mem_cons_self)]
    refine wpAny_bind (wpAny_pure ?_)
    simp only [Bool.false_eq_true, if_false]
    exact wpAny_pure ⟨rfl, rfl, fun u hu => all u (List.mem_cons_of_mem _ hu)⟩
  · rintro ⟨x, y⟩ z ⟨e1, rfl, _⟩
    simp only at e1
    subst e1
    exact wpAny_pure q
/-- whether its hash is by value: one of both -/
theorem tt_hash {k : List κ} {b : Addr} {Q : Bool → Shared → Prop} (T : IsTupleKey kn s.heap k b) (q : ∀ r, Q r s) : wpAny (model P w) A (hashByValue 8 (.ref b)) Q E s := by
  have ty := T.typeIs
  obtain ⟨o, its, n, at0, _, da, ia⟩ := T
  unfold hashByValue
  refine wpAny_bind (wpAny_specialOf ty F.slot_tuple_hash.lookup ?_)
  show wpAny _ _ (seqItems? (.ref b) >>= _) _ _ s
  refine wpAny_bind (wpAny_seqItems at0 da ?_)
  refine wpAny_bind ?_
  show wpAny _ _ (forIn its _ _) _ _ s
  rw [← Array.forIn_toList]
  refine wpAny_forIn_list _ (fun left st z => st.1 = none ∧ z = s ∧ ∀ v ∈ left, carriedByValue v = true) _ ?_ ?_ _ _ ⟨rfl, rfl, ia.byValue⟩
  · rintro v left st z ⟨e1, rfl, all⟩
    obtain ⟨r, e2⟩ := tv_hash 7 (all v List.mem_cons_self)
    rw [e2]
    refine wpAny_bind (wpAny_pure ?_)
    cases r
    · simp only [Bool.not_false, if_true]
      exact wpAny_pure (wpAny_pure (q false))
    · simp only [Bool.not_true, Bool.false_eq_true, if_false]
      exact wpAny_pure ⟨rfl, rfl, fun u hu => all u (List.mem_cons_of_mem _ hu)⟩
  · rintro ⟨x, y⟩ z ⟨e1, rfl, _⟩
    simp only at e1
    subst e1
    exact wpAny_pure (q true)
/-- a search among such tuples shows nothing -/
theorem tt_seen {k : List κ} {b : Addr} {Q : Bool → Shared → Prop} (T : IsTupleKey kn s.heap k b) {ys : List Value} (hy : ∀ y ∈ ys, ∃ k' c, y = Value.ref c ∧ IsTupleKey kn s.heap k' c) (q : Q false s) :
    wpAny (model P w) A (searchCouldBeSeen (.ref b) ys) Q E s := by
  unfold searchCouldBeSeen
  refine wpAny_bind ?_
  refine wpAny_forIn_list _ (fun left st z => st.1 = none ∧ z = s ∧ ∀ y ∈ left, ∃ k' c, y = Value.ref c ∧ IsTupleKey kn s.heap k' c) _ ?_ ?_ _ _ ⟨rfl, rfl, hy⟩
  · rintro v left st z ⟨e1, rfl, all⟩
    obtain ⟨k', c, rfl, T'⟩ := all v List.mem_cons_self
    have more : ∀ y ∈ left, ∃ k' c, y = Value.ref c ∧ IsTupleKey kn z.heap k' c := fun u hu => all u (List.mem_cons_of_mem _ hu)
    dsimp only
    by_cases hv : (b == c || (carriedByValue (.ref b) && carriedByValue (.ref c))) = true
    · refine wp_if_pos hv ?_
      exact wpAny_pure ⟨rfl, rfl, more⟩
    · refine wp_if_neg hv ?_
      refine wpAny_bind (wpAny_eqIsQuiet_tuple T ?_)
      simp only [Bool.not_true, Bool.false_eq_true, if_false]
      refine wpAny_bind (wpAny_eqIsQuiet_tuple T' ?_)
      simp only [Bool.not_true, Bool.false_eq_true, if_false]
      refine wpAny_bind (tt_cls T ?_)
      simp only [Bool.false_eq_true, if_false]
      refine wpAny_bind (tt_cls T' ?_)
      simp only [Bool.false_eq_true, if_false]
      exact wpAny_pure ⟨rfl, rfl, more⟩
  · rintro ⟨x, y⟩ z ⟨e1, rfl, _⟩
    simp only at e1
    subst e1
    exact wpAny_pure q

variable (kn)
/-- the entries that a list of tuples makes -/
def tEnt (p : Addr × List κ) : Int × Value := (tupleKeyHash kn p.2, .ref p.1)
/-- the set at a holds the tuples of L, in the order of the table -/
structure TSet (h : Heap) (a : Addr) (L : List (Addr × List κ)) (es : Array (Int × Value)) (ep : Nat) (t : SetTable) : Prop where
  ob : ∃ o, h.get? a = some o ∧ o.ExactSet ∧ o.data = .set es ep t
  rows : es.toList = L.map (tEnt kn)
  tab : TabOk t (L.map fun p => tupleKeyHash kn p.2)
  nd : (L.map (·.2)).Nodup
  tup : ∀ p ∈ L, IsTupleKey kn h p.2 p.1
  led : w.params.followText "set-order" = true ∨ t.led = true
  room : L.length * 5 < t.mask * 3
  few : L.length < 64
variable {kn}
variable {a : Addr} {L : List (Addr × List κ)} {es : Array (Int × Value)} {ep : Nat} {t : SetTable}
theorem TSet.size {h : Heap} (R : TSet kn h a L es ep t) : es.size = L.length := by
  have q := congrArg List.length R.rows
  simpa using q
theorem tfits (hp : t.place.size = es.size) (hd : t.dummies = #[]) (hl : es.size ≤ t.mask) : t.fits es.size = true := by
  unfold SetTable.fits SetTable.fill
  rw [hd, Bool.and_eq_true, beq_iff_eq, decide_eq_true_eq]
  show t.place.size = es.size ∧ t.place.size + 0 ≤ t.mask
  omega
theorem TSet.psz {h : Heap} (R : TSet kn h a L es ep t) : t.place.size = es.size := by
  have q := R.tab.sz
  rw [List.length_map] at q
  rw [q, R.size]
theorem TSet.fits {h : Heap} (R : TSet kn h a L es ep t) : t.fits es.size = true := by
  have h2 := R.size
  have h3 := R.room
  exact tfits R.psz R.tab.dm (by omega)
theorem TSet.entry {h : Heap} (R : TSet kn h a L es ep t) {i : Nat} {p : Addr × List κ} (e : L[i]? = some p) : es[i]? = some (tupleKeyHash kn p.2, Value.ref p.1) := by
  rw [← Array.getElem?_toList, R.rows, List.getElem?_map, e]
  rfl
theorem TSet.gw {h : Heap} (R : TSet kn h a L es ep t) : ¬ t.gaveWay = true := by
  unfold SetTable.gaveWay
  rw [mask_odd R.tab.mok]
  decide
theorem TSet.at {h h' : Heap} (R : TSet kn h a L es ep t) (ha : ∀ o, h.get? a = some o → h'.get? a = some o) (ht : ∀ p ∈ L, IsTupleKey kn h' p.2 p.1) : TSet kn h' a L es ep t := by
  obtain ⟨o, ho, r⟩ := R.ob
  exact ⟨⟨o, ha o ho, r⟩, R.rows, R.tab, R.nd, ht, R.led, R.room, R.few⟩
theorem tk_keep {h h' : Heap} {k : List κ} {b : Addr} (T : IsTupleKey kn h k b) (hk : ∀ c o, h.get? c = some o → h'.get? c = some o) : IsTupleKey kn h' k b := by
  obtain ⟨o, its, n, ho, r⟩ := T
  exact ⟨o, its, n, hk b o ho, r⟩
/-- a tuple isn't the set -/
theorem tk_other {h h' : Heap} {k : List κ} {b : Addr} {o : Obj} (T : IsTupleKey kn h k b) (ho : h.get? a = some o) (hd : o.data = .set es ep t) (hs : Heap.SameBut a h h') : IsTupleKey kn h' k b := by
  obtain ⟨o', its, n, ho', hc, hd', hi⟩ := T
  refine ⟨o', its, n, (hs.2 b fun e => ?_).trans ho', hc, hd', hi⟩
  rw [e, ho] at ho'
  rw [← Option.some.inj ho', hd] at hd'
  exact nomatch hd'
theorem nth_dummy (m : Nat) : ∀ (n : Nat) (p : SetTable.Probe), p.dummy = none → (nth m p n).dummy = none
  | 0, _, h => h
  | n + 1, p, h => nth_dummy m n (adv m p) (by unfold adv; split <;> exact h)
/-- the start of a search -/
abbrev ways (m : Nat) (h : Int) : SetTable.Probe := runAt m (SetTable.bits h % (m + 1)) (SetTable.bits h)
set_option maxHeartbeats 8000000 in
/-- the search, from the c-th step of the way on -/
theorem tset_from (R : TSet kn s.heap a L es ep t) {x : Addr} {k : List κ} (hx : IsTupleKey kn s.heap k x) (hu : A.units < cLine) {N : Nat} (N1 : N < 10 * SetTable.turns t.mask)
    (N2 : way t.mask (tupleKeyHash kn k) N ∉ t.place.toList) (N3 : ∀ c, c < N → way t.mask (tupleKeyHash kn k) c ∈ t.place.toList) {Q : SetFound → Shared → Prop}
    (yes : k ∈ L.map (·.2) → Q (.there none) s) (no : k ∉ L.map (·.2) → Q (.free (way t.mask (tupleKeyHash kn k) N) false) s) :
    ∀ (f c : Nat) (stand : Option SetTable.Probe), stand.getD (t.probeStart (tupleKeyHash kn k)) = nth t.mask (ways t.mask (tupleKeyHash kn k)) c → c ≤ N → N - c < f →
      (∀ (i : Nat) p, L[i]? = some p → p.2 = k → ∃ d, c ≤ d ∧ d < N ∧ t.place.toList[i]? = some (way t.mask (tupleKeyHash kn k) d)) →
      wpAny (model P w) A (setSearchFrom a (.ref x) (tupleKeyHash kn k) true f stand) Q E s
  | 0, _, _, _, _, hf, _ => absurd hf (Nat.not_lt_zero _)
  | f + 1, c, stand, hst, hc, hf, hre => by
    obtain ⟨o, ho, _, hd⟩ := R.ob
    generalize hh : tupleKeyHash kn k = hs at *
    rw [setSearchFrom_succ]
    refine wpAny_bind (wpAny_setState_of ho hd R.fits ?_)
    dsimp only
    refine wp_if_neg R.gw ?_
    try refine wpAny_bind (wpAny_pure ?_)
    have e1 : ∀ q, nth t.mask (nth t.mask (ways t.mask hs) c) q = nth t.mask (ways t.mask hs) (c + q) := fun q => (nth_add t.mask c _ q).symm
    have e2 : ∀ q, (nth t.mask (nth t.mask (ways t.mask hs) c) q).j = way t.mask hs (c + q) := fun q => congrArg SetTable.Probe.j (e1 q)
    have e3 : c + (N - c) = N := by omega
    have at_ : ∀ (i : Nat) p, L[i]? = some p → (es[i]?.map (·.1)).getD 0 = tupleKeyHash kn p.2 := fun i p hp => by
      rw [R.entry hp]
      rfl
    rcases go_spec t R.tab.ris R.tab.dm (fun i => (es[i]?.map (·.1)).getD 0) hs (10 * SetTable.turns t.mask) (N - c) _ (nth_dummy t.mask c (ways t.mask hs) rfl) (by omega)
      (fun q hq => by rw [e2]; exact N3 (c + q) (by omega)) (by rw [e2, e3]; exact N2) with ⟨q, i, hq, hi, hhi, none_before, pr⟩ | ⟨none_before, pr⟩
    · have pr2 : t.probe (fun i => (es[i]?.map (·.1)).getD 0) hs (stand.getD (t.probeStart hs)) = some (.candidate (way t.mask hs (c + q)) i (nth t.mask (ways t.mask hs) (c + (q + 1)))) := by
        rw [hst, ← e2, ← e1]
        exact pr
      rw [pr2]
      dsimp only
      rw [e2] at hi
      have lt : i < L.length := by
        have h1 : i < t.place.toList.length := (List.getElem?_eq_some_iff.mp hi).1
        rw [Array.length_toList, R.psz, R.size] at h1
        exact h1
      obtain ⟨p, hp⟩ : ∃ p, L[i]? = some p := ⟨_, List.getElem?_eq_getElem lt⟩
      have hm : p ∈ L := List.mem_of_getElem? hp
      have T := R.tup p hm
      have sl : t.slot (way t.mask hs (c + q)) = .live i := slot_live R.tab.ris hi
      have go : wpAny (model P w) A (searchRest a (.ref x) hs true f es t (way t.mask hs (c + q)) i (nth t.mask (ways t.mask hs) (c + (q + 1)))) Q E s := by
        unfold searchRest
        rw [R.entry hp]
        dsimp only
        refine wpAny_bind (wpAny_holding (wpAny_eqBool_tuple hu T hx ?_))
        refine wpAny_bind (wpAny_setState_of ho hd R.fits ?_)
        dsimp only
        by_cases same : p.2 = k
        · refine wp_if_pos (by simp [same]) ?_
          exact wpAny_pure (yes (List.mem_map.mpr ⟨p, hm, same⟩))
        · refine wp_if_neg (by simp [same]) ?_
          try refine wpAny_bind (wpAny_pure ?_)
          rw [sameMem]
          dsimp only
          simp only [if_true, sl, R.entry hp]
          refine wpAny_bind (wpAny_isSame_ref_self (wpAny_bind (wpAny_pure ?_)))
          simp only [if_true]
          refine wp_if_neg (by simp [same]) ?_
          subst hh
          refine tset_from R hx hu N1 N2 N3 yes no f (c + (q + 1)) _ rfl (by omega) (by omega) fun i0 p0 h0 k0 => ?_
          obtain ⟨d, d1, d2, d3⟩ := hre i0 p0 h0 k0
          refine ⟨d, ?_, d2, d3⟩
          rcases Nat.lt_trichotomy d (c + q) with z | z | z
          · refine absurd ((at_ i0 p0 h0).trans (congrArg (tupleKeyHash kn) k0)) (none_before (d - c) i0 (by omega) ?_)
            rw [e2, show c + (d - c) = d by omega]
            exact d3
          · rw [z] at d3
            have sl2 := slot_live R.tab.ris d3
            rw [sl] at sl2
            injection sl2 with sl2
            rw [← sl2, hp] at h0
            exact absurd ((congrArg Prod.snd (Option.some.inj h0)).trans k0) same
          · omega
      by_cases hl : t.led = true
      · refine wp_if_neg (by simp [hl]) ?_
        try refine wpAny_bind (wpAny_pure ?_)
        exact go
      · refine wp_if_pos (by simp [hl]) ?_
        refine wpAny_bind (tt_seen hx (fun y hy => ?_) ?_)
        · obtain ⟨e, he, ee⟩ := List.mem_map.mp hy
          have he1 : e ∈ es ∧ e.1 = hs := by simpa using he
          have he2 : e ∈ es.toList := by simpa using he1.1
          rw [R.rows] at he2
          obtain ⟨p2, hp2, e5⟩ := List.mem_map.mp he2
          exact ⟨p2.2, p2.1, by rw [← ee, ← e5]; rfl, R.tup p2 hp2⟩
        · refine wp_if_neg (by decide) ?_
          try refine wpAny_bind (wpAny_pure ?_)
          exact go
    · have pr2 : t.probe (fun i => (es[i]?.map (·.1)).getD 0) hs (stand.getD (t.probeStart hs)) = some (.empty (way t.mask hs N) none) := by
        have e4 : way t.mask hs N = (nth t.mask (nth t.mask (ways t.mask hs) c) (N - c)).j := by rw [e2, e3]
        rw [hst, e4]
        exact pr
      rw [pr2]
      dsimp only
      refine wpAny_pure (no fun hm => ?_)
      obtain ⟨p0, h0, k0⟩ := List.mem_map.mp hm
      obtain ⟨i0, hi0, e0⟩ := List.getElem_of_mem h0
      have h00 : L[i0]? = some p0 := by rw [List.getElem?_eq_getElem hi0, e0]
      obtain ⟨d, d1, d2, d3⟩ := hre i0 p0 h00 k0
      refine none_before (d - c) i0 (by omega) ?_ ((at_ i0 p0 h00).trans ((congrArg (tupleKeyHash kn) k0).trans hh))
      rw [e2, show c + (d - c) = d by omega]
      exact d3
/-- the search that adding asks for -/
theorem tset_search (R : TSet kn s.heap a L es ep t) {x : Addr} {k : List κ} (hx : IsTupleKey kn s.heap k x) (hu : A.units < cLine) {Q : SetFound → Shared → Prop} (yes : k ∈ L.map (·.2) → Q (.there none) s)
    (no : ∀ N, k ∉ L.map (·.2) → way t.mask (tupleKeyHash kn k) N ∉ t.place.toList → (∀ c, c < N → way t.mask (tupleKeyHash kn k) c ∈ t.place.toList) → Q (.free (way t.mask (tupleKeyHash kn k) N) false) s) :
    wpAny (model P w) A (setSearch a (.ref x) (tupleKeyHash kn k) true) Q E s := by
  have r := R.room
  obtain ⟨N, N1, N2, N3⟩ := R.tab.first (by rw [List.length_map]; omega) (tupleKeyHash kn k)
  have small : 10 * SetTable.turns t.mask ≤ 1420 := by
    unfold SetTable.turns
    rcases R.tab.mok with e | e | e <;> omega
  unfold setSearch
  refine tset_from R hx hu N1 N2 N3 yes (fun h => no N h N2 N3) 100000 0 none rfl (Nat.zero_le _) (by omega) fun i p hp e => ?_
  have hi : (L.map fun p => tupleKeyHash kn p.2)[i]? = some (tupleKeyHash kn k) := by
    rw [List.getElem?_map, hp, ← e]
    rfl
  have il : i < t.place.toList.length := by
    rw [Array.length_toList, R.psz, R.size]
    exact (List.getElem?_eq_some_iff.mp hp).1
  obtain ⟨d, hd, e2⟩ := R.tab.before N2 hi (List.getElem?_eq_getElem il)
  exact ⟨d, Nat.zero_le _, hd, by rw [List.getElem?_eq_getElem il, e2]⟩
end

/-! ### one more tuple, the table laid anew, the whole of set(tuple of tuples) -/
section
open PySem.Spec PyProof.Rows
variable {P : Program} {w : World} {κ : Type} [DecidableEq κ] {kn : KeyKind P w κ} {A : Around} {E : Value → Shared → Prop} {s : Shared} {a : Addr} {L : List (Addr × List κ)} {es : Array (Int × Value)} {ep : Nat} {t : SetTable}
theorem pick_all {α : Type} (L : List α) : ∀ n, n ≤ L.length → (List.range n).filterMap (fun i => L[i]?) = L.take n
  | 0, _ => rfl
  | n + 1, h => by
    rw [List.range_succ, List.filterMap_append, pick_all L n (Nat.le_of_lt h), List.take_add_one, List.getElem?_eq_getElem h]
    rw [List.filterMap_cons_some (List.getElem?_eq_getElem h)]
    rfl
/-- the entries in another order are those of the tuples in that order -/
theorem tset_order (L : List (Addr × List κ)) (es : Array (Int × Value)) (hr : es.toList = L.map (tEnt kn)) : ∀ l : List Nat, (∀ i ∈ l, i < L.length) →
    l.filterMap (fun i => es[i]?) = (l.filterMap fun i => L[i]?).map (tEnt kn) ∧ ((l.filterMap fun i => L[i]?).map fun p => tupleKeyHash kn p.2) = l.map fun i => (es.map (·.1)).getD i 0
  | [], _ => ⟨rfl, rfl⟩
  | i :: l, hl => by
    have hi := hl i List.mem_cons_self
    obtain ⟨e1, e2⟩ := tset_order L es hr l fun j hj => hl j (List.mem_cons_of_mem _ hj)
    have en : es[i]? = some (tEnt kn L[i]) := by
      rw [← Array.getElem?_toList, hr, List.getElem?_map, List.getElem?_eq_getElem hi]
      rfl
    refine ⟨?_, ?_⟩
    · rw [List.filterMap_cons_some en, List.filterMap_cons_some (List.getElem?_eq_getElem hi), e1]
      rfl
    · rw [List.filterMap_cons_some (List.getElem?_eq_getElem hi), List.map_cons, List.map_cons, e2]
      have e5 : (es.map (·.1))[i]? = some (tupleKeyHash kn (L[i]).2) := by
        rw [Array.getElem?_map, en]
        rfl
      rw [Array.getD_eq_getD_getElem?, e5]
      rfl
theorem put_other (L : List (Addr × List κ)) (p : Nat) (x : Addr × List κ) : (L.take p ++ x :: L.drop p).Perm (x :: L) := by
  have h : (L.take p ++ x :: L.drop p).Perm (x :: (L.take p ++ L.drop p)) := List.perm_middle
  rwa [List.take_append_drop] at h
set_option maxHeartbeats 8000000 in
/-- a larger table -/
theorem tset_relay {o : Obj} (ho : s.heap.get? a = some o) (ex : o.ExactSet) (hd : o.data = .set es ep t) (rows : es.toList = L.map (tEnt kn)) (psz : t.place.size = es.size) (dm : t.dummies = #[]) (fl : es.size ≤ t.mask)
    (nd : (L.map (·.2)).Nodup) (tup : ∀ p ∈ L, IsTupleKey kn s.heap p.2 p.1) (ld : w.params.followText "set-order" = true ∨ t.led = true) (few : L.length < 64) {wanted M : Nat}
    (hw : SetTable.sizeAbove wanted - 1 = M) (hM : MaskOk M) (hw2 : SetTable.sizeAbove wanted ≤ 128) (hn : L.length * 5 < M * 3) {Q : Unit → Shared → Prop}
    (q : ∀ h' L' es' ep' t', Heap.SameBut a s.heap h' → TSet kn h' a L' es' ep' t' → L'.Perm L → Q () { s with heap := h' }) : wpAny (model P w) A (setRelay a wanted) Q E s := by
  have sz : es.size = L.length := by simpa using congrArg List.length rows
  obtain ⟨t', order, e, hp, T, em, el, _, _⟩ := relaid_ok t (hs := es.map (·.1)) (wanted := wanted) hw hM (by rw [Array.size_map, sz]; omega)
  rw [Array.size_map, sz] at hp
  obtain ⟨r1, r3⟩ := tset_order L es rows order.toList fun i hi => List.mem_range.mp (hp.mem_iff.mp hi)
  have r2 : (order.toList.filterMap fun i => L[i]?).Perm L := by
    have h1 := hp.filterMap fun i => L[i]?
    rwa [pick_all L L.length (Nat.le_refl _), List.take_length] at h1
  generalize order.toList.filterMap (fun i => L[i]?) = L2 at r1 r2 r3
  rw [← r3] at T
  have r4 : (order.filterMap (es[·]?)).toList = L2.map (tEnt kn) := by
    first | (rw [Array.toList_filterMap]; exact r1) | simpa using r1
  have s2 : (order.filterMap (es[·]?)).size = es.size := by
    have h := congrArg List.length r4
    rw [Array.length_toList, List.length_map, r2.length_eq] at h
    rw [h, sz]
  rw [setRelay_eq]
  refine wpAny_bind (wpAny_setState_of ho hd (tfits psz dm fl) ?_)
  dsimp only
  refine wp_if_neg (by rw [sizeLine_eq]; omega) ?_
  try refine wpAny_bind (wpAny_pure ?_)
  rw [e]
  dsimp only
  refine wpAny_bind ?_
  refine wp_if_neg (by rw [s2]; simp) ?_
  try refine wpAny_bind (wpAny_pure ?_)
  refine wpAny_pure ?_
  dsimp only
  refine wpAny_storeSet_of ho hd ?_ (by rw [s2, sz, sizeLine_eq]; omega)
  have sb : Heap.SameBut a s.heap (s.heap.update a (Obj.putSet (order.filterMap (es[·]?)) t')) := Heap.SameBut.update ..
  refine q _ L2 (order.filterMap (es[·]?)) (ep + 1) t' sb ⟨⟨_, store_at ho hd, ⟨ex.1, ex.2.1, ex.2.2⟩, rfl⟩, r4, T, (r2.map (·.2)).nodup_iff.mpr nd, fun p hpm => tk_other (tup p (r2.mem_iff.mp hpm)) ho hd sb, by rw [el]; exact ld, ?_, by rw [r2.length_eq]; exact few⟩ r2
  rw [r2.length_eq, em]
  exact hn
/-- what holds behind one more: the old tuples and this one, once -/
def OneMore (L : List (Addr × List κ)) (x : Addr) (k : List κ) (L' : List (Addr × List κ)) : Prop := (k ∈ L.map (·.2) → L' = L) ∧ (k ∉ L.map (·.2) → L'.Perm ((x, k) :: L))
set_option maxHeartbeats 16000000 in
theorem tset_add (R : TSet kn s.heap a L es ep t) {x : Addr} {k : List κ} (hx : IsTupleKey kn s.heap k x) (hu : A.units < cLine) (hfew : L.length + 1 < 64) {Q : Bool → Shared → Prop}
    (q : ∀ b h' L' es' ep' t', Heap.SameBut a s.heap h' → TSet kn h' a L' es' ep' t' → OneMore L x k L' → Q b { s with heap := h' }) :
    wpAny (model P w) A (setAddHashed a (.ref x) (tupleKeyHash kn k)) Q E s := by
  obtain ⟨o, ho, hex, hd⟩ := R.ob
  have sz := R.size
  have room := R.room
  unfold setAddHashed
  refine wpAny_holding ?_
  rw [show (100000 : Nat) = 99999 + 1 from rfl, setAddHashedIn_succ]
  refine wpAny_bind (wpAny_setState_of ho hd R.fits ?_)
  dsimp only
  refine wp_if_neg (by simp [byScan, Value.scannable]) ?_
  try refine wpAny_bind (wpAny_pure ?_)
  refine wpAny_bind (tset_search R hx hu (fun hm => ?_) fun N hm N2 N3 => ?_)
  · dsimp only
    exact wpAny_pure (q false s.heap L es ep t (Heap.SameBut.refl a s.heap) R ⟨fun _ => rfl, fun z => absurd hm z⟩)
  · dsimp only
    refine wpAny_bind (wpAny_setState_of ho hd R.fits ?_)
    dsimp only
    obtain ⟨q1, q2, q3, q4, q5, _, _, _, q9⟩ := R.tab.put N2 N3
    generalize hpt : t.put (way t.mask (tupleKeyHash kn k) N) = pt at q1 q3 q4 q5 q9 ⊢
    obtain ⟨t1, p⟩ := pt
    dsimp only at q1 q3 q4 q5 q9 ⊢
    subst q1
    -- the table, whatever it says of plain
    have fin : ∀ t2 : SetTable, TabOk t2 (List.map (fun p => tupleKeyHash kn p.2) L |>.take (SetTable.below t.place (way t.mask (tupleKeyHash kn k) N)) |>.append (tupleKeyHash kn k :: (L.map fun p => tupleKeyHash kn p.2).drop (SetTable.below t.place (way t.mask (tupleKeyHash kn k) N)))) →
        t2.mask = t.mask → t2.led = t.led → t2.fill = L.length + 1 → wpAny (model P w) A (do
          storeSet a (SetTable.insertAt es (SetTable.below t.place (way t.mask (tupleKeyHash kn k) N)) (tupleKeyHash kn k, Value.ref x)) t2
          if !false && t2.tooFull then setRelay a (SetTable.grown (es.size + 1))
          return true) Q E s := fun t2 T2 m2 l2 f2 => by
      have hin : (SetTable.insertAt es (SetTable.below t.place (way t.mask (tupleKeyHash kn k) N)) (tupleKeyHash kn k, Value.ref x)).toList = (L.take (SetTable.below t.place (way t.mask (tupleKeyHash kn k) N)) ++ (x, k) :: L.drop (SetTable.below t.place (way t.mask (tupleKeyHash kn k) N))).map (tEnt kn) := by
        rw [SetTable.toList_insertAt, R.rows, List.map_append, List.map_cons, List.map_take, List.map_drop]
        rfl
      generalize SetTable.below t.place (way t.mask (tupleKeyHash kn k) N) = p at hin T2 q2 ⊢
      have pm := put_other L p (x, k)
      have hlen : (L.take p ++ (x, k) :: L.drop p).length = L.length + 1 := pm.length_eq
      have T3 : TabOk t2 ((L.take p ++ (x, k) :: L.drop p).map fun p => tupleKeyHash kn p.2) := by
        rw [List.map_append, List.map_cons, List.map_take, List.map_drop]
        exact T2
      have nd1 : ((L.take p ++ (x, k) :: L.drop p).map (·.2)).Nodup := by
        refine (pm.map (·.2)).nodup_iff.mpr ?_
        rw [List.map_cons]
        exact List.nodup_cons.mpr ⟨hm, R.nd⟩
      have es1 : (SetTable.insertAt es p (tupleKeyHash kn k, Value.ref x)).size = L.length + 1 := by
        have h := congrArg List.length hin
        rw [Array.length_toList, List.length_map, hlen] at h
        exact h
      generalize SetTable.insertAt es p (tupleKeyHash kn k, Value.ref x) = E1 at hin es1 ⊢
      generalize L.take p ++ (x, k) :: L.drop p = L1 at pm hlen T3 nd1 hin
      refine wpAny_bind (wpAny_storeSet_of ho hd ?_ (by rw [es1, sizeLine_eq]; omega))
      have sb : Heap.SameBut a s.heap (s.heap.update a (Obj.putSet E1 t2)) := Heap.SameBut.update ..
      have ho1 := store_at (es' := E1) (t' := t2) ho hd
      generalize s.heap.update a (Obj.putSet E1 t2) = h1 at sb ho1 ⊢
      have tup1 : ∀ p ∈ L1, IsTupleKey kn h1 p.2 p.1 := fun p hp => by
        rcases List.mem_cons.mp (pm.mem_iff.mp hp) with e | hp
        · rw [e]
          exact tk_other hx ho hd sb
        · exact tk_other (R.tup p hp) ho hd sb
      have ld1 : w.params.followText "set-order" = true ∨ t2.led = true := by rw [l2]; exact R.led
      have psz : t2.place.size = E1.size := by
        have h := T3.sz
        rw [List.length_map, hlen] at h
        rw [h, es1]
      by_cases hf : t2.tooFull = true
      · first
          | (refine wpAny_bind ?_; refine wp_if_pos (by simp [hf]) ?_)
          | (refine wp_if_pos (by simp [hf]) ?_; refine wpAny_bind ?_)
        have full : (L.length + 1) * 5 ≥ t2.mask * 3 := by
          have h := hf
          unfold SetTable.tooFull at h
          rw [decide_eq_true_eq, f2] at h
          exact h
        rw [sz]
        have two : (t2.mask = 7 ∧ L.length = 4) ∨ (t2.mask = 31 ∧ L.length = 18) := by
          rw [m2] at full ⊢
          rcases R.tab.mok with e | e | e
          · left; rw [e] at full room; exact ⟨e, by omega⟩
          · right; rw [e] at full room; exact ⟨e, by omega⟩
          · exfalso; rw [e] at full; omega
        have go : ∀ M, SetTable.sizeAbove (SetTable.grown (L.length + 1)) - 1 = M → MaskOk M → SetTable.sizeAbove (SetTable.grown (L.length + 1)) ≤ 128 → (L.length + 1) * 5 < M * 3 →
            wpAny (model P w) A (setRelay a (SetTable.grown (L.length + 1))) (fun _ s' => wpAny (model P w) A (pure true) Q E s') E { s with heap := h1 } := fun M c1 c2 c3 c4 => by
          refine tset_relay (s := { s with heap := h1 }) ho1 ⟨hex.1, hex.2.1, hex.2.2⟩ rfl hin psz T3.dm (by rw [es1]; rcases two with ⟨e, e2⟩ | ⟨e, e2⟩ <;> omega) nd1 tup1 ld1 (by rw [hlen]; exact hfew) c1 c2 c3 (by rw [hlen]; exact c4) ?_
          intro h2 L2 es2 ep2 t3 sb2 R2 pm2
          exact wpAny_pure (q true h2 L2 es2 ep2 t3 (sb.trans sb2) R2 ⟨fun z => absurd z hm, fun _ => pm2.trans pm⟩)
        rcases two with ⟨_, e2⟩ | ⟨_, e2⟩
        · exact go 31 (by rw [e2, size_20]) (.inr (.inl rfl)) (by rw [e2, size_20]; decide) (by omega)
        · exact go 127 (by rw [e2, size_76]) (.inr (.inr rfl)) (by rw [e2, size_76]; decide) (by omega)
      · first
          | refine wp_if_neg (by simp [hf]) ?_
          | (refine wpAny_bind ?_; refine wp_if_neg (by simp [hf]) ?_; refine wpAny_pure ?_)
        refine wpAny_pure (q true h1 L1 E1 (ep + 1) t2 sb ⟨⟨_, ho1, ⟨hex.1, hex.2.1, hex.2.2⟩, rfl⟩, hin, T3, nd1, tup1, ld1, ?_, by rw [hlen]; exact hfew⟩ ⟨fun z => absurd z hm, fun _ => pm⟩)
        have h := hf
        unfold SetTable.tooFull at h
        rw [decide_eq_true_eq, f2] at h
        rw [hlen]
        omega
    rw [List.length_map] at q9
    by_cases hp1 : t1.plain = true
    · first
        | (refine wpAny_bind ?_; refine wp_if_pos hp1 ?_; refine tt_hash hx fun r => ?_)
        | refine wp_if_pos hp1 (wpAny_bind (tt_hash hx fun r => ?_))
      cases r
      · simp only [Bool.false_eq_true, if_false]
        exact fin _ ⟨q3.ris, q3.dm, q3.sz, q3.mok, q3.bd, q3.reach⟩ q4 q5 q9
      · simp only [if_true]
        exact fin _ q3 q4 q5 q9
    · first
        | (refine wpAny_bind ?_; refine wp_if_neg hp1 ?_; refine wpAny_pure ?_)
        | refine wp_if_neg hp1 (wpAny_bind (wpAny_pure ?_))
        | refine wp_if_neg hp1 ?_
      simp only [if_true]
      exact fin _ q3 q4 q5 q9
/-- what the set has from the first i tuples -/
structure TGot (ks : List (Addr × List κ)) (i : Nat) (L : List (Addr × List κ)) : Prop where
  sub : ∀ p ∈ L, p ∈ ks.take i
  all : ∀ p ∈ ks.take i, p.2 ∈ L.map (·.2)
  len : L.length ≤ i
theorem TGot.step {ks L L' : List (Addr × List κ)} {i : Nat} {x : Addr × List κ} (g : TGot ks i L) (h : ks[i]? = some x) (m : OneMore L x.1 x.2 L') : TGot ks (i + 1) L' := by
  have e : ks.take (i + 1) = ks.take i ++ [x] := by
    rw [List.take_add_one, h]
    rfl
  by_cases c : x.2 ∈ L.map (·.2)
  · rw [m.1 c]
    refine ⟨fun p hp => ?_, fun p hp => ?_, Nat.le_succ_of_le g.len⟩
    · rw [e]
      exact List.mem_append_left _ (g.sub p hp)
    · rw [e] at hp
      rcases List.mem_append.mp hp with z | z
      · exact g.all p z
      · rw [List.mem_singleton.mp z]
        exact c
  · have pm := m.2 c
    refine ⟨fun p hp => ?_, fun p hp => ?_, ?_⟩
    · rw [e]
      rcases List.mem_cons.mp (pm.mem_iff.mp hp) with z | z
      · rw [z]
        exact List.mem_append_right _ (List.mem_singleton.mpr rfl)
      · exact List.mem_append_left _ (g.sub p z)
    · rw [(pm.map (·.2)).mem_iff, List.map_cons]
      rw [e] at hp
      rcases List.mem_append.mp hp with z | z
      · exact List.mem_cons_of_mem _ (g.all p z)
      · rw [List.mem_singleton.mp z]
        exact List.mem_cons_self
    · rw [pm.length_eq, List.length_cons]
      exact Nat.succ_le_succ g.len
set_option maxHeartbeats 8000000 in
/-- the loop of set.update -/
theorem tset_loop {I : Addr} {fp wr : List Addr} {G : Array GenState → Array GenState → Prop} {n : Nat} {Pv : Nat → Value → Prop} {St : Nat → Shared → Prop} {R : Result → Shared → Prop}
    (W : WalksS P w A.in1 I fp wr G n Pv St) (S : Addr) (hSf : S ∉ fp) (ks : List (Addr × List κ)) (hn : n = ks.length) (few : ks.length < 64) (val : ∀ i v, Pv i v → ∃ p, ks[i]? = some p ∧ v = .ref p.1)
    (h0 : Heap) (tup : ∀ p ∈ ks, IsTupleKey kn h0 p.2 p.1) (hS0 : h0.get? S = none) (hw0 : ∀ b ∈ wr, h0.get? b = none) (hu : A.in1.units < cLine) :
    ∀ (j i : Nat) (s : Shared), n - i = j → i ≤ n → St i s → (∀ b o, h0.get? b = some o → s.heap.get? b = some o) → (∃ L es ep t, TSet kn s.heap S L es ep t ∧ TGot ks i L) →
      (∀ s' L es ep t, Moved (S :: wr) G s s' → TSet kn s'.heap S L es ep t → TGot ks n L → (∀ b o, h0.get? b = some o → s'.heap.get? b = some o) → R (.ok (.ret .none)) s') →
      codeAny (model P w) A (.builtin "set.update.loop" ⟨[.ref S, .ref I], []⟩) R s := by
  have hSw : S ∉ wr := fun h => hSf (W.sub _ h)
  have up : ∀ b ∈ wr, b ∈ S :: wr := fun b hb => List.mem_cons_of_mem _ hb
  have keep : ∀ {s s' : Shared}, Moved wr G s s' → (∀ b o, h0.get? b = some o → s.heap.get? b = some o) → ∀ b o, h0.get? b = some o → s'.heap.get? b = some o := fun hm hk b o e =>
    hm.heap b o (fun hb => by rw [hw0 b hb] at e; cases e) (hk b o e)
  intro j
  induction j with
  | zero =>
    intro i s hj hi hst hk ⟨L, es, ep, t, hS, g⟩ done
    have e : i = n := by omega
    subst e
    refine codeAny_builtin F.entry_set_update_loop ?_
    rw [Around.under_plainId F.plain_set_update_loop _]
    show wpAny _ A.in1 (pyNext (.ref I) >>= _) _ _ s
    refine wpAny_bind (W.done s _ _ hst fun s' hm => ?_)
    show wpAny _ A.in1 (ret Value.none) _ _ s'
    have hk' := keep hm hk
    exact wpAny_pure (done s' L es ep t (hm.mono up) (hS.at (fun o e => hm.heap S o hSw e) fun p hp => tk_keep (tup p (List.mem_of_mem_take (g.sub p hp))) hk') g hk')
  | succ j ih =>
    intro i s hj hi hst hk ⟨L, es, ep, t, hS, g⟩ done
    have lt : i < n := by omega
    refine codeAny_builtin F.entry_set_update_loop ?_
    rw [Around.under_plainId F.plain_set_update_loop _]
    show wpAny _ A.in1 (pyNext (.ref I) >>= _) _ _ s
    refine wpAny_bind (W.item i s _ _ lt hst fun v s' hv hst' hm => ?_)
    obtain ⟨p, hp, rfl⟩ := val i v hv
    have hk' := keep hm hk
    have hS' : TSet kn s'.heap S L es ep t := hS.at (fun o e => hm.heap S o hSw e) fun q hq => tk_keep (tup q (List.mem_of_mem_take (g.sub q hq))) hk'
    have hx : IsTupleKey kn s'.heap p.2 p.1 := tk_keep (tup p (List.mem_of_getElem? hp)) hk'
    show wpAny _ A.in1 (holding [Value.ref p.1] (setAdd S (.ref p.1)) >>= _) _ _ s'
    refine wpAny_bind (wpAny_holding ?_)
    unfold setAdd
    refine wpAny_holding ?_
    refine wpAny_bind (wpAny_pyHash_tuple hu hx ?_)
    refine tset_add (s := { s' with toks := s'.toks + (p.2.length + 1) }) hS' hx hu (by have := g.len; omega) fun b h' L' es' ep' t' sb hS2 m => ?_
    have hk2 : ∀ b o, h0.get? b = some o → h'.get? b = some o := fun b o e => (sb.2 b (fun z => by rw [z, hS0] at e; cases e)).trans (hk' b o e)
    refine wpAny_pure ⟨plainId_quiet F.plain_set_update_loop _, ih (i + 1) _ (by omega) lt (W.frame _ s' _ _ hst' (Nat.le_add_right _ _) fun b hb o e => ?_) hk2 ⟨L', es', ep', t', hS2, g.step hp m⟩ fun s'' L2 es2 ep2 t2 hm2 hS3 g3 hk3 => ?_⟩
    · rw [sb.2 b (fun h : b = S => hSf (by rw [← h]; exact hb))]
      exact e
    · refine done s'' L2 es2 ep2 t2 (Moved.trans W.gtrans ((hm.mono up).then_heap (Nat.le_add_right _ _) fun b o hb e => ?_) hm2) hS3 g3 hk3
      rw [sb.2 b (fun h : b = S => hb (by rw [h]; exact List.mem_cons_self))]
      exact e
end

/-! ### set(xs), a tuple of tuples or of ints, and how many are in it -/
/-- each once -/
def dd {α : Type} [DecidableEq α] : List α → List α
  | [] => []
  | x :: xs => if x ∈ dd xs then dd xs else x :: dd xs
section
variable {α : Type} [DecidableEq α]
theorem dd_mem : ∀ {xs : List α} {x : α}, x ∈ dd xs ↔ x ∈ xs
  | [], x => Iff.rfl
  | y :: ys, x => by
    unfold dd
    by_cases h : y ∈ dd ys
    · rw [if_pos h, List.mem_cons, dd_mem]
      constructor
      · exact .inr
      · rintro (rfl | q)
        · exact dd_mem.mp h
        · exact q
    · rw [if_neg h, List.mem_cons, List.mem_cons, dd_mem]
theorem dd_nodup : ∀ xs : List α, (dd xs).Nodup
  | [] => List.nodup_nil
  | y :: ys => by
    unfold dd
    by_cases h : y ∈ dd ys
    · rw [if_pos h]
      exact dd_nodup ys
    · rw [if_neg h]
      exact List.nodup_cons.mpr ⟨h, dd_nodup ys⟩
theorem dd_le : ∀ xs : List α, (dd xs).length ≤ xs.length
  | [] => Nat.le_refl _
  | y :: ys => by
    unfold dd
    have q := dd_le ys
    by_cases h : y ∈ dd ys
    · rw [if_pos h, List.length_cons]
      omega
    · rw [if_neg h, List.length_cons, List.length_cons]
      omega
theorem dd_len : ∀ {xs : List α}, (dd xs).length = xs.length ↔ xs.Nodup
  | [] => by simp [dd]
  | y :: ys => by
    unfold dd
    have q := dd_le ys
    by_cases h : y ∈ dd ys
    · rw [if_pos h, List.length_cons, List.nodup_cons]
      exact ⟨fun e => by omega, fun e => absurd (dd_mem.mp h) e.1⟩
    · rw [if_neg h, List.length_cons, List.length_cons, List.nodup_cons, ← dd_len (xs := ys)]
      exact ⟨fun e => ⟨fun m => h (dd_mem.mpr m), by omega⟩, fun e => by omega⟩
theorem same_len {xs ys : List α} (h1 : xs.Nodup) (h2 : ys.Nodup) (h : ∀ k, k ∈ xs ↔ k ∈ ys) : xs.length = ys.length :=
  ((List.perm_ext_iff_of_nodup h1 h2).mpr h).length_eq
end
/-- a set of n things stands at a -/
def SetC (a : Addr) (n : Nat) : HO := .ext fun h => ∃ o es ep t, h.get? a = some o ∧ o.ExactSet ∧ o.data = .set es ep t ∧ t.fits es.size = true ∧ es.size = n ∧ n < 100000
theorem setC_new {P : Program} {w : World} {H : Hp} {h : Heap} {a : Addr} {n : Nat} (R : ∃ o es ep t, h.get? a = some o ∧ o.ExactSet ∧ o.data = .set es ep t ∧ t.fits es.size = true ∧ es.size = n ∧ n < 100000) : ObjOk P w H h a (SetC a n) := by
  have ⟨o, _, _, _, ho, _⟩ := R
  refine ⟨R, ⟨o, ho⟩, fun h1 h2 p k => ?_⟩
  obtain ⟨o', es, ep, t, e, r⟩ := p
  exact ⟨o', es, ep, t, k o' e, r⟩
/-- a flat value as a key -/
def lfV : V → Leaf
  | .int i => .num i
  | .bl b => .num (if b = true then 1 else 0)
  | .str x => .text x
  | _ => .none
section
open PySem.Spec PyProof.Rows
variable {P : Program} {w : World} {A : Around} {E : Value → Shared → Prop} {s : Shared}
set_option maxHeartbeats 8000000 in
theorem tset_made {κ : Type} [DecidableEq κ] {kn : KeyKind P w κ} {l : Addr} {vs : Array Value} {ks : List (Addr × List κ)} {Q : Value → Shared → Prop} (hc : A.handled = none) (hu : A.units + 3 < cLine) (hl : s.heap.IsTuple l vs)
    (hv : vs.toList = ks.map fun p => Value.ref p.1) (tup : ∀ p ∈ ks, IsTupleKey kn s.heap p.2 p.1) (few : ks.length < 64)
    (q : ∀ h tk L es ep t, TSet kn h s.heap.objs.size L es ep t → TGot ks ks.length L → (∀ b o, s.heap.get? b = some o → h.get? b = some o) → Q (.ref s.heap.objs.size) { s with heap := h, toks := tk }) : wpAny (model P w) A (call (.type "set") [.ref l]) Q E s := by
  have size : vs.size = ks.length := by simpa using congrArg List.length hv
  have atS : (s.heap.push (oSet w)).get? s.heap.objs.size = some (oSet w) := Heap.get?_push_size _ rfl
  have tyS : Shared.TypeIs { s with heap := s.heap.push (oSet w) } (.ref s.heap.objs.size) "set" := ⟨_, atS, rfl⟩
  have e1 := F.called_set.made
  have e2 := F.called_set.sub
  have e3 := F.called_set.notType
  have e4 := F.called_set.canCreate
  have e5 := F.typeCall_set_1 (.ref l)
  have e6 := F.called_set.init.lookup
  have e7 := F.called_set.init.bind (.ref s.heap.objs.size)
  obtain ⟨cc, tl, e0⟩ := F.called_set.mro
  apply wpAny_call
  apply codeAny_of_tree
  show wpAny _ _ (callAny (.type "set") _) _ _ _
  apply wpAny_pure
  refine ⟨Code.quiet_builtin _ (by decide +kernel), ?_⟩
  apply codeAny_builtin F.entry_type_call
  rw [Around.under_plain (weight_type_call_type "set" [.ref l] []) rfl]
  repeat any_goals first | wp_step | assumption
  refine codeAny_mono (code_set_led1 (E := E) (.ref l) (Q₁ := fun v z => v = .ref s.heap.objs.size ∧ z = { s with heap := s.heap.push (oSet w) }) ⟨rfl, rfl⟩) ?_
  rintro (e | f) z hz
  · exact hz
  · cases f
    case ret v =>
      obtain ⟨rfl, rfl⟩ := hz
      repeat any_goals first | wp_step | assumption
      refine codeAny_mono (codeAny_call_builtin F.called_set.init.plain F.entry_set_init (check_set_init_1 tyS ?go)
        (R := wants (fun r z => r = .none ∧ ∃ h tk L es ep t, z = { s with heap := h, toks := tk } ∧ TSet kn h s.heap.objs.size L es ep t ∧ TGot ks ks.length L ∧ ∀ b o, s.heap.get? b = some o → h.get? b = some o) E)) ?_
      case go =>
        obtain ⟨⟨c0, d0, t0, s0⟩, at0, cl0, n0, da0⟩ := hl
        dsimp only at cl0 da0
        subst cl0 da0
        have atL : (s.heap.push (oSet w)).get? l = some ⟨.type "tuple", d0, .seq vs n0, s0⟩ := Heap.get?_push_of_some _ at0
        have isL : (s.heap.push (oSet w)).IsTuple l vs := ⟨_, atL, rfl, n0, rfl⟩
        have f1 := F.sub_tuple_set
        have f2 := F.sub_tuple_frozenset
        have f3 : (Value.type "tuple" == Value.type "dict") = false := by decide
        unfold Builtin.«set.__init__» noKeywords Builtin.Frozenset.updateFrom
        generalize hw : pyIter = it0
        wp_walk
        subst hw
        apply wpAny_pyIter_tuple isL
        apply wpAny_bind
        apply wpAny_runValue
        have small : l < s.heap.objs.size := Heap.lt_size at0
        have big : (s.heap.push (oSet w)).objs.size = s.heap.objs.size + 1 := Heap.size_push ..
        have calm : A.in1.in1.in1.handled = none := by simpa using hc
        have n1 : l ≠ (s.heap.push (oSet w)).objs.size := by
          rw [big]
          exact Nat.ne_of_lt (Nat.lt_succ_of_lt small)
        have n2 : s.heap.objs.size ≠ (s.heap.push (oSet w)).objs.size := by
          rw [big]
          exact Nat.ne_of_lt (Nat.lt_succ_self _)
        have nothing : ∀ b, s.heap.objs.size ≤ b → s.heap.get? b = none := fun b hb => by
          cases q : s.heap.get? b with
          | none => rfl
          | some o => exact absurd (Nat.lt_of_lt_of_le (Heap.lt_size q) hb) (Nat.lt_irrefl _)
        refine tset_loop (Walks.tuple calm _ l n1 vs).toS s.heap.objs.size (fun hm => ?f1) ks size few (fun i v ev => ?f2) s.heap tup (nothing _ (Nat.le_refl _)) (fun b hb => nothing b ?f4) (by show A.units + 3 < cLine; omega) (vs.size - 0) 0 _ rfl (Nat.zero_le _)
          ⟨⟨_, Heap.get?_push_size _ rfl, rfl, rfl⟩, isL.push _⟩ (fun b o e => Heap.get?_push_of_some _ (Heap.get?_push_of_some _ e)) ?f5 ?f3
        case f1 =>
          rcases List.mem_cons.mp hm with e | hm
          · exact n2 e
          · exact Nat.ne_of_gt small (List.mem_singleton.mp hm)
        case f2 =>
          have q : vs.toList[i]? = some v := by rw [Array.getElem?_toList]; exact ev
          rw [hv, List.getElem?_map] at q
          cases hq : ks[i]? with
          | none =>
            rw [hq] at q
            cases q
          | some p =>
            rw [hq] at q
            exact ⟨p, rfl, (Option.some.inj q).symm⟩
        case f4 =>
          rw [List.mem_singleton.mp hb, big]
          exact Nat.le_succ _
        case f5 =>
          have at1 := Heap.get?_push_of_some (⟨.type "tuple_iterator", none, .fields #[.ref l, .int 0 0], #[]⟩ : Obj) atS
          refine ⟨[], #[], 0, _, ⟨⟨_, at1, ⟨rfl, rfl, rfl⟩, rfl⟩, rfl, ⟨List.Pairwise.nil, rfl, rfl, .inl rfl, fun x hx => (by cases hx), fun i h j hi => (by simp at hi)⟩, List.nodup_nil, fun p hp => (by cases hp), ?_, ?_, ?_⟩, ⟨fun p h => (by cases h), fun p h => (by simp at h), Nat.le_refl _⟩⟩
          · show _ ∨ (!w.params.followText "set-order") = true
            cases w.params.followText "set-order"
            · exact .inr rfl
            · exact .inl rfl
          · show 0 * 5 < 7 * 3
            decide
          · show 0 < 64
            decide
        case f3 =>
          rintro ⟨h, g, d, tk, os⟩ L es ep t moved hS hG hk
          obtain rfl : g = s.gens := moved.gens
          obtain rfl : d = s.drawn := moved.drawn
          obtain rfl : os = s.os := moved.os
          apply wpAny_pure
          show wpAny _ _ (ret Value.none) _ _ _
          apply wpAny_pure
          exact ⟨rfl, h, tk, L, es, ep, t, rfl, hS, by rw [← size]; exact hG, hk⟩
      rintro (e | f) z hz
      · exact hz
      · cases f
        case ret v =>
          obtain ⟨rfl, h, tk, L, es, ep, t, rfl, hS, hG, hk⟩ := hz
          repeat any_goals first | wp_step | assumption
          exact q h tk L es ep t hS hG hk
        all_goals exact hz.elim
    all_goals exact hz.elim
theorem lf_is {x : V} {u : Value} (f : flatV x = true) (r : RelV x u) : Leaf.isOf (lfV x) u = true := by
  cases x with
  | non =>
    obtain rfl : u = Value.none := r
    rfl
  | bl b =>
    obtain rfl : u = Value.bool b := r
    exact decide_eq_true rfl
  | int i =>
    obtain ⟨t, rfl⟩ := r
    exact decide_eq_true rfl
  | str z =>
    obtain ⟨t, rfl⟩ := r
    simp [lfV, Leaf.isOf, Value.isStrOf]
  | _ => cases f
theorem lf_all {P : Program} {w : World} : ∀ {xs : List V} {us : List Value}, xs.all flatV = true → Vals xs us → ItemsAre (leafKind P w) (xs.map lfV) us
  | [], _, _, .nil => .nil
  | x :: xs, _, f, .cons r t => by
    rw [List.all_cons, Bool.and_eq_true] at f
    exact .cons (lf_is f.1 r) (lf_all f.2 t)
theorem ref_vals : ∀ {ks : List (Addr × List V)} {us : List Value}, Vals (ks.map fun p => V.ref p.1) us → us = ks.map fun p => Value.ref p.1
  | [], _, .nil => rfl
  | p :: ks, _, .cons r t => by
    cases r
    rw [ref_vals t]
    rfl
end
section
variable {X : Cx}
/-- set(xs), xs a tuple of tuples of flat things -/
def rSetTT (K : PySem.W.Frag) : List V → Hp → VK → Prop := fun vs H Q => ∃ (l : Addr) (ks : List (Addr × List V)), vs = [.ref l] ∧ SqT K H l (ks.map fun p => V.ref p.1) ∧ (∀ p ∈ ks, SqT K H p.1 p.2 ∧ p.2.all flatV = true) ∧ ks.length < 64 ∧
  ∀ p, H p = none → Q (.ref p) (upd H p (SetC p (dd (ks.map fun p => p.2.map lfV)).length))
theorem cg_setTT {k : Nat} (hr : Room k X.A) (hc : X.calm = true) : CallR X (.type "set") (rSetTT X.K) := by
  rintro pins s σ H vs us Q I r ⟨l, ks, rfl, hS, hk, few, q⟩
  obtain ⟨its, rv, pl, hz⟩ := I.tuple hS
  have e1 := Vals.ref1 r
  subst e1
  have hu := hr.un
  let ks2 : List (Addr × List Leaf) := ks.map fun p => (p.1, p.2.map lfV)
  have hv : its.toArray.toList = ks2.map fun p => Value.ref p.1 := by
    rw [List.map_map]
    show its = _
    rw [ref_vals rv]
    rfl
  refine tset_made (kn := leafKind X.prog X.w) (ks := ks2) (I.ok.hd hc) (by omega) pl hv (fun p hp => ?_) (by rw [List.length_map]; exact few) ?_
  · obtain ⟨z, hz, rfl⟩ := List.mem_map.mp hp
    obtain ⟨its', rv', ⟨o, ho, hc', n, hd⟩, _⟩ := I.tuple (hk z hz).1
    exact ⟨o, its'.toArray, n, ho, hc', hd, by simpa using lf_all (hk z hz).2 rv'⟩
  · intro h tk L es ep t hT hG keep
    have free : H s.heap.objs.size = none := I.hok.fresh (Nat.le_refl _)
    have cnt : es.size = (dd (ks.map fun p => p.2.map lfV)).length := by
      rw [hT.size, ← List.length_map (f := fun p : Addr × List Leaf => p.2)]
      refine same_len hT.nd (dd_nodup _) fun k => ?_
      rw [dd_mem]
      have tk2 : ks2.take ks2.length = ks2 := List.take_length
      constructor
      · intro h
        obtain ⟨p, hp, rfl⟩ := List.mem_map.mp h
        have hp2 := hG.sub p hp
        rw [tk2] at hp2
        obtain ⟨z, hz, rfl⟩ := List.mem_map.mp hp2
        exact List.mem_map.mpr ⟨z, hz, rfl⟩
      · intro h
        obtain ⟨z, hz, rfl⟩ := List.mem_map.mp h
        exact hG.all (z.1, z.2.map lfV) (by rw [tk2]; exact List.mem_map.mpr ⟨z, hz, rfl⟩)
    have few2 : es.size < 100000 := by
      have := hT.few
      have := hT.size
      omega
    obtain ⟨o, ho, hex, hd⟩ := hT.ob
    exact ⟨.ref _, _, I.laid (t' := tk) keep (Nat.le_refl _) (setC_new ⟨o, es, ep, t, ho, hex, hd, hT.fits, cnt, by rw [← cnt]; exact few2⟩), rfl, q _ free⟩
/-- how many a set of ints holds -/
theorem setR_count {w : World} {h : Heap} {a : Addr} {ns : List Int} {c : Nat} (R : SetR w h a (fun j => decide (j ∈ ns)) c) : ∃ o es ep t, h.get? a = some o ∧ o.ExactSet ∧ o.data = .set es ep t ∧ t.fits es.size = true ∧ es.size = (dd ns).length ∧ (dd ns).length < 100000 := by
  obtain ⟨o, es, ep, t, ho, hex, hd, _, nd, mem, lt, hf, hn, _⟩ := R
  have e : es.size = (dd ns).length := by
    have e1 : es.size = (es.toList.map keyOf).length := by simp
    rw [e1]
    refine same_len nd (dd_nodup _) fun k => ?_
    rw [dd_mem, ← mem k, decide_eq_true_eq]
  have lt2 : es.size < 4096 := lt
  exact ⟨o, es, ep, t, ho, hex, hd, hf, e, by omega⟩
/-- set(xs) of a list of ints, counted -/
def rSetLn (K : PySem.W.Frag) : List V → Hp → VK → Prop := fun vs H Q => ∃ (l : Addr) (ns : List Int), vs = [.ref l] ∧ SqL K H l (ns.map V.int) ∧ ns.length ≤ 4000 ∧ ∀ p, H p = none → Q (.ref p) (upd H p (SetC p (dd ns).length))
theorem cg_setLn (hc : X.calm = true) : CallR X (.type "set") (rSetLn X.K) := by
  rintro pins s σ H vs us Q I r ⟨l, ns, rfl, hS, hn, q⟩
  obtain ⟨its, rv, pl, hz⟩ := I.list hS
  have e1 := Vals.ref1 r
  subst e1
  have hv : PyProof.Rows.IntsAre its.toArray.toList ns := by simpa using rv.ints
  refine set_made (I.ok.hd hc) pl.isList hv hn ?_
  rintro h tk ⟨c, hR, hcn, keep⟩
  have free : H s.heap.objs.size = none := I.hok.fresh (Nat.le_refl _)
  exact ⟨.ref _, _, I.laid (t' := tk) keep (Nat.le_refl _) (setC_new (setR_count hR)), rfl, q _ free⟩
/-- set(xs) of a tuple of ints, counted -/
def rSetTn (K : PySem.W.Frag) : List V → Hp → VK → Prop := fun vs H Q => ∃ (l : Addr) (ns : List Int), vs = [.ref l] ∧ SqT K H l (ns.map V.int) ∧ ns.length ≤ 4000 ∧ ∀ p, H p = none → Q (.ref p) (upd H p (SetC p (dd ns).length))
theorem cg_setTn (hc : X.calm = true) : CallR X (.type "set") (rSetTn X.K) := by
  rintro pins s σ H vs us Q I r ⟨l, ns, rfl, hS, hn, q⟩
  obtain ⟨its, rv, pl, hz⟩ := I.tuple hS
  have e1 := Vals.ref1 r
  subst e1
  have hv : PyProof.Rows.IntsAre its.toArray.toList ns := by simpa using rv.ints
  refine call_set_tupI ns (I.ok.hd hc) pl hv (by unfold scanBound; omega) ?_
  intro h tk c hR hcn keep
  have free : H s.heap.objs.size = none := I.hok.fresh (Nat.le_refl _)
  exact ⟨.ref _, _, I.laid (t' := tk) keep (Nat.le_refl _) (setC_new (setR_count hR)), rfl, q _ free⟩
/-- len of such a set -/
def rLenN : List V → Hp → VK → Prop := fun vs H Q => ∃ (p : Addr) (n : Nat), vs = [.ref p] ∧ H p = some (SetC p n) ∧ Q (.int (n : Nat)) H
theorem cg_lenN : CallR X (.builtin "len") rLenN := by
  rintro pins s σ H vs us Q I r ⟨p, n, rfl, hp, q⟩
  have e1 := Vals.ref1 r
  subst e1
  obtain ⟨o, es, ep, t, ho, hex, hd, hf, hn, hl⟩ := (I.hok p _ hp).1
  exact call_len_set ho hex hd hf (by rw [hn]; omega) ⟨.int n, H, I.tok _, ⟨_, by rw [hn]⟩, q⟩
end
section
variable {K : PySem.W.Frag} {H : Hp} {Q : VK} {l p : Addr} {ns : List Int} {n : Nat}
theorem r_setLn (h : H l = some (.lst (ns.map V.int))) (hn : ns.length ≤ 4000) (q : ∀ p H2, H p = none → H2 p = some (SetC p (dd ns).length) → Kp [] H H2 → Q (.ref p) H2) : rSetLn K [.ref l] H Q :=
  ⟨l, ns, rfl, SqL.of h, hn, fun p hp => q p _ hp upd_same (Kp.new hp)⟩
theorem r_setTn (h : SqT K H l (ns.map V.int)) (hn : ns.length ≤ 4000) (q : ∀ p H2, H p = none → H2 p = some (SetC p (dd ns).length) → Kp [] H H2 → Q (.ref p) H2) : rSetTn K [.ref l] H Q :=
  ⟨l, ns, rfl, h, hn, fun p hp => q p _ hp upd_same (Kp.new hp)⟩
theorem r_setTT {ks : List (Addr × List V)} (h : SqT K H l (ks.map fun p => V.ref p.1)) (h2 : ∀ p ∈ ks, SqT K H p.1 p.2 ∧ p.2.all flatV = true) (hn : ks.length < 64)
    (q : ∀ p H2, H p = none → H2 p = some (SetC p (dd (ks.map fun p => p.2.map lfV)).length) → Kp [] H H2 → Q (.ref p) H2) : rSetTT K [.ref l] H Q :=
  ⟨l, ks, rfl, h, h2, hn, fun p hp => q p _ hp upd_same (Kp.new hp)⟩
theorem r_lenN (h : H p = some (SetC p n)) (q : Q (.int (n : Nat)) H) : rLenN [.ref p] H Q := ⟨p, n, rfl, h, q⟩
end

/-! ### the tape and the draw -/
/-- a tape at t over the numbers at c -/
structure Tp (t c : Addr) (H : Hp) : Prop where
  ex : ∃ (ns : List Int) (k z : Int), H t = some (.lst [.ref c, .int k, .int z]) ∧ H c = some (.lst (ns.map V.int)) ∧ 0 ≤ k ∧ 0 ≤ z
theorem Tp.ne {t c : Addr} {H : Hp} (h : Tp t c H) : t ≠ c := by
  obtain ⟨ns, k, z, h1, h2, _⟩ := h.ex
  refine ne_of h1 h2 fun e => ?_
  cases ns with
  | nil => simp at e
  | cons n ns => simp at e
theorem Tp.mut {t c : Addr} {H : Hp} (h : Tp t c H) : Mut (H t) := by
  obtain ⟨ns, k, z, h1, h2, _⟩ := h.ex
  rw [h1]
  trivial
theorem Tp.it {t c : Addr} {H : Hp} (h : Tp t c H) : ∃ o, H t = some o := by
  obtain ⟨ns, k, z, h1, h2, _⟩ := h.ex
  exact ⟨_, h1⟩
theorem Tp.itc {t c : Addr} {H : Hp} (h : Tp t c H) : ∃ o, H c = some o := by
  obtain ⟨ns, k, z, h1, h2, _⟩ := h.ex
  exact ⟨_, h2⟩
theorem Tp.kp {t c : Addr} {S : List Addr} {H H' : Hp} (k : Kp S H H') (h : Tp t c H) (n1 : ¬ t ∈ S) (n2 : ¬ c ∈ S) : Tp t c H' := by
  obtain ⟨ns, j, z, h1, h2, h3⟩ := h.ex
  exact ⟨ns, j, z, k.get n1 h1, k.get n2 h2, h3⟩
theorem Tp.kp0 {t c : Addr} {H H' : Hp} (k : Kp [] H H') (h : Tp t c H) : Tp t c H' := h.kp k (fun z => nomatch z) (fun z => nomatch z)
/-- no draw is asked for more -/
def bigB : Int := 2 ^ 240
theorem bigB_ok {z m : Int} (h1 : 1 ≤ m) (h2 : m < bigB) : CDivW z m := by
  unfold bigB at h2
  exact wide_div (b := 240) (by omega) (by omega) (by decide) (by decide)
def spDraw : Sp := fun vs H Q _ => ∃ (t c : Addr) (m : Int), vs = [.ref t, .int m] ∧ Tp t c H ∧ 1 ≤ m ∧ m < bigB ∧ ∀ (d : Int) (H' : Hp), 0 ≤ d → d < m → Tp t c H' → Kp [t] H H' → Q (.int d) H'
theorem spDraw_i {t c : Addr} {m : Int} {H : Hp} {Q : VK} {E : XK} (h : Tp t c H) (h1 : 1 ≤ m) (h2 : m < bigB) (k : ∀ (d : Int) (H' : Hp), 0 ≤ d → d < m → Tp t c H' → Kp [t] H H' → Q (.int d) H') : spDraw [.ref t, .int m] H Q E :=
  ⟨t, c, m, rfl, h, h1, h2, k⟩
def spTape (K : PySem.W.Frag) : Sp := fun vs H Q _ => ∃ (a : Addr) (ns : List Int), vs = [.ref a] ∧ SqL K H a (ns.map V.int) ∧ ∀ (t c : Addr) (H' : Hp), H t = none → H c = none → Tp t c H' → Kp [] H H' → Q (.ref t) H'
theorem Tp.kp1 {t c p : Addr} {H H' : Hp} (k : Kp [p] H H') (h : Tp t c H) (n1 : t ≠ p) (n2 : c ≠ p) : Tp t c H' := h.kp k (fun z => n1 (by simpa using z)) (fun z => n2 (by simpa using z))
local macro_rules | `(tactic| walk_at "cg h") => `(tactic| (first
  | ((with_reducible show Tp _ _ _); exact Tp.kp0 (by assumption) (by walk_at "cg h"))
  | fail))
local macro_rules | `(tactic| walk_at "cg h") => `(tactic| (first
  | ((with_reducible show Tp _ _ _); exact Tp.kp1 (by assumption) (by walk_at "cg h") (by walk_at "cg ne") (by walk_at "cg ne"))
  | fail))
local macro_rules | `(tactic| walk_at "cg h") => `(tactic| assumption)
theorem Tp.nef {t c p : Addr} {H : Hp} (hp : H p = none) (h : Tp t c H) : p ≠ t := by
  obtain ⟨o, e⟩ := h.it
  exact (ne_of_none e hp).symm
theorem Tp.nefc {t c p : Addr} {H : Hp} (hp : H p = none) (h : Tp t c H) : p ≠ c := by
  obtain ⟨o, e⟩ := h.itc
  exact (ne_of_none e hp).symm
local macro_rules | `(tactic| walk_at "cg ne") => `(tactic| (first
  | exact Tp.nef (by assumption) (by walk_at "cg h") | exact (Tp.nef (by assumption) (by walk_at "cg h")).symm | exact Tp.nefc (by assumption) (by walk_at "cg h") | exact (Tp.nefc (by assumption) (by walk_at "cg h")).symm
  | fail))
theorem Tp.base {t c : Addr} {H : Hp} (T : Tp t c H) : Kp [t] H H := .base fun b hb => by
  rw [List.mem_singleton] at hb
  subst hb
  exact T.mut
local macro_rules | `(tactic| walk_at "cg kp") => `(tactic| (first
  | ((with_reducible show Kp [_] _ _); exact Tp.base (by assumption))
  | fail))
theorem Tp.free {t c p : Addr} {H0 H1 : Hp} (hp : H1 p = none) (k : Kp [t] H0 H1) (T : Tp t c H1) : H0 p = none := k.free hp fun b hb => by
  rw [List.mem_singleton] at hb
  subst hb
  exact T.it
local macro_rules | `(tactic| walk_at "cg fr") => `(tactic| (first
  | assumption
  | exact Tp.free (by assumption) (by walk_at "cg kp") (by walk_at "cg h")
  | fail))
local macro_rules | `(tactic| walk_at "cg dr") => `(tactic| ((with_reducible refine spDraw_i (c := ?c) ?h ?h1 ?h2 ?_); (case h => walk_at "cg h"); (case h1 => first | omega | decide); (case h2 => first | (with_reducible assumption) | decide)))
local macro_rules | `(tactic| walk_at "cg s") => `(tactic| (walk_at "cg dr"; intro _ _ _ _ _ _))

/-! ### relations and literals -/
inductive Rel where
  | le | ge | eq | ne
  deriving DecidableEq
def Rel.s : Rel → Str
  | .le => "<="
  | .ge => ">="
  | .eq => "="
  | .ne => "!="
def Rel.h : Rel → Int → Int → Bool
  | .le, a, b => decide (a ≤ b)
  | .ge, a, b => decide (b ≤ a)
  | .eq, a, b => decide (a = b)
  | .ne, a, b => decide (a ≠ b)
def Rel.neg : Rel → Rel
  | .le => .ge
  | .ge => .le
  | .eq => .ne
  | .ne => .eq
def Rel.nnum : Rel → Int → Int
  | .le, a => a + 1
  | .ge, a => a - 1
  | _, a => a
theorem Rel.neg_neg (r : Rel) : r.neg.neg = r := by cases r <;> rfl
theorem Rel.nnum_nnum (r : Rel) (a : Int) : r.neg.nnum (r.nnum a) = a := by
  cases r <;> simp [Rel.neg, Rel.nnum] <;> omega
theorem Rel.neg_h (r : Rel) (x a : Int) : r.neg.h x (r.nnum a) = !r.h x a := by
  cases r
  · simp only [Rel.neg, Rel.nnum, Rel.h]
    rw [Bool.eq_iff_iff]; simp; omega
  · simp only [Rel.neg, Rel.nnum, Rel.h]
    rw [Bool.eq_iff_iff]; simp; omega
  · simp [Rel.neg, Rel.nnum, Rel.h]
  · simp [Rel.neg, Rel.nnum, Rel.h]
theorem ix_rel3 {K : PySem.W.Frag} {p : Addr} {H : Hp} {Q : VK} {d : Int} (h : H p = some (.lst [.str (Str.ofString "<="), .str (Str.ofString ">="), .str (Str.ofString "=")])) (h0 : 0 ≤ d) (h1 : d < 3) (q : ∀ r : Rel, r ≠ .ne → Q (.str r.s) H) : rIxL K (.ref p) (.int d) H Q := by
  have e : d = 0 ∨ d = 1 ∨ d = 2 := by omega
  rcases e with rfl | rfl | rfl
  · exact r_ixL h rfl (q .le (by decide))
  · exact r_ixL h rfl (q .ge (by decide))
  · exact r_ixL h rfl (q .eq (by decide))
def spRel : Sp := fun vs H Q _ => ∃ (r : Rel) (a b : Int), vs = [.str r.s, .int a, .int b] ∧ Q (.bl (r.h a b)) H
theorem spRel_i (r : Rel) {a b : Int} {H : Hp} {Q : VK} {E : XK} (q : Q (.bl (r.h a b)) H) : spRel [.str r.s, .int a, .int b] H Q E := ⟨r, a, b, rfl, q⟩
/-- a literal stands at p -/
abbrev LitAt (K : PySem.W.Frag) (H : Hp) (p : Addr) (v : Int) (r : Rel) (a : Int) : Prop := SqT K H p [.int v, .str r.s, .int a]
def spLit (K : PySem.W.Frag) : Sp := fun vs H Q _ => ∃ (p : Addr) (v : Int) (r : Rel) (a x : Int), vs = [.ref p, .int x] ∧ LitAt K H p v r a ∧ Q (.bl (r.h x a)) H
def spNeg (K : PySem.W.Frag) : Sp := fun vs H Q _ => ∃ (p : Addr) (v : Int) (r : Rel) (a : Int), vs = [.ref p] ∧ LitAt K H p v r a ∧ ∀ (p' : Addr) (H' : Hp), LitAt K H' p' v r.neg (r.nnum a) → Kp [] H H' → Q (.ref p') H'
def spSame : Sp := fun vs H Q _ => ∃ (a b : Bool), vs = [.bl a, .bl b] ∧ Q (.bl (decide (a = b))) H
theorem ix_rel4 {K : PySem.W.Frag} {p : Addr} {H : Hp} {Q : VK} {d : Int} (h : H p = some (.lst [.str (Str.ofString "<="), .str (Str.ofString ">="), .str (Str.ofString "="), .str (Str.ofString "!=")])) (h0 : 0 ≤ d) (h1 : d < 4) (q : ∀ r : Rel, Q (.str r.s) H) : rIxL K (.ref p) (.int d) H Q := by
  have e : d = 0 ∨ d = 1 ∨ d = 2 ∨ d = 3 := by omega
  rcases e with rfl | rfl | rfl | rfl
  · exact r_ixL h rfl (q .le)
  · exact r_ixL h rfl (q .ge)
  · exact r_ixL h rfl (q .eq)
  · exact r_ixL h rfl (q .ne)
def litD (v : Int) (r : Rel) (a : Int) : PyData := .tuple [.int v, .str r.s, .int a]
theorem Rel.ok (r : Rel) : PyData.strOk r.s = true := by cases r <;> decide +kernel
theorem litD_shaped (v : Int) (r : Rel) (a : Int) : SeqAt.shaped (litD v r a) = true := by
  simp [litD, Rel.ok, SeqAt.shaped, PyData.canLay0, PyData.canLayAll0, PyData.depth, PyData.depthAll]
theorem litD_self (v : Int) (r : Rel) (a : Int) : PyData.eqv (litD v r a) (litD v r a) = true := by
  simp [litD, PyData.eqv, PyData.eqvAll]
theorem LitAt.dp {K : PySem.W.Frag} {H : Hp} {p : Addr} {v : Int} {r : Rel} {a : Int} (h : LitAt K H p v r a) : Dp K H (.ref p) (litD v r a) :=
  .tup h (.cons (.int _) (.cons (.str _) (.cons (.int _) .nil)))
local macro_rules | `(tactic| walk_at "cg s") => `(tactic| (with_reducible refine spRel_i _ ?_))
theorem spSame_i {a b : Bool} {H : Hp} {Q : VK} {E : XK} (q : Q (.bl (decide (a = b))) H) : spSame [.bl a, .bl b] H Q E := ⟨a, b, rfl, q⟩
local macro_rules | `(tactic| walk_at "cg s") => `(tactic| (with_reducible refine spSame_i ?_))
theorem spLit_i {K : PySem.W.Frag} {H : Hp} {Q : VK} {E : XK} {p : Addr} {v : Int} {r : Rel} {a x : Int} (h : LitAt K H p v r a) (q : Q (.bl (r.h x a)) H) : spLit K [.ref p, .int x] H Q E := ⟨p, v, r, a, x, rfl, h, q⟩
local macro_rules | `(tactic| walk_at "cg s") => `(tactic| ((with_reducible show spLit _ _ _ _ _); refine spLit_i (by walk_at "cg h") ?_))

/-! ### comprehensions and loops over data -/
theorem piTup {X : Cx} (K : PySem.W.Frag) {tg l : Expr} {tl : TE} (hl : PE X l tl) (h : X.K = K := by rfl) : PI X tg l (iTup K tl) := h ▸ pi_tup hl
theorem piLst {X : Cx} (K : PySem.W.Frag) {tg l : Expr} {tl : TE} (hl : PE X l tl) (h : X.K = K := by rfl) : PI X tg l (iList K tl) := h ▸ pi_list hl
theorem flat_ints (us : List Int) : (us.map V.int).all flatV = true := by
  rw [List.all_map]
  exact List.all_eq_true.mpr fun x _ => rfl
theorem inV_ints (v : Int) (us : List Int) : inV (.int v) (us.map V.int) = decide (v ∈ us) := by
  unfold inV
  rw [List.any_map]
  induction us with
  | nil => rfl
  | cons u us ih =>
    have e : ((fun y => eqV y (.int v)) ∘ V.int) u = decide (v = u) := by
      show (u == v) = decide (v = u)
      rw [Bool.eq_iff_iff, beq_iff_eq, decide_eq_true_eq]
      exact eq_comm
    rw [List.any_cons, ih, e, Bool.eq_iff_iff]
    simp only [Bool.or_eq_true, decide_eq_true_eq, List.mem_cons]
theorem blkOk_nf {N : List Str} {sc scope : Scope} {own : List (Str × Nat)} (h : blkC N { kind := .function, names := [], isGenerator := false, isCoroutine := false } scope own = true) : BlkOk N sc scope own := by
  have q := blkOk_by h
  exact ⟨q.1, q.2, q.3, fun y hy e => (by rcases q.4 y hy e with k | k <;> exact nomatch k), q.5⟩
theorem small1e4 {n : Nat} (h : n ≤ 10000) : n < sizeLine := by
  rw [sizeLine_eq]
  omega
theorem atI_nat {α : Type} {xs : List α} {i : Int} (h0 : 0 ≤ i) (h1 : i < xs.length) : atI xs i = xs[i.toNat]? := by
  simp [atI, ixN, h0, h1]
theorem atI_ints {ns : List Int} {i : Int} (h0 : 0 ≤ i) (h1 : i < ns.length) : atI (ns.map V.int) i = some (.int (ns.getD i.toNat 0)) := by
  have e : i.toNat < ns.length := by omega
  rw [atI_nat h0 (by rw [List.length_map]; exact h1)]
  simp [e]
theorem mapGetP {K : PySem.W.Frag} {H : Hp} {x : V} {α : Type} {f : α → PyData} {xs : List V} {as : List α} {i : Nat} (h : ImAll K H xs (as.map f)) (e : xs[i]? = some x) : ∃ a, as[i]? = some a ∧ Im K H x (f a) := by
  obtain ⟨d, h1, h2⟩ := h.get e
  rw [List.getElem?_map] at h1
  cases q : as[i]? with
  | none =>
    rw [q] at h1
    cases h1
  | some a =>
    rw [q] at h1
    cases h1
    exact ⟨a, rfl, h2⟩
theorem mapLenP {K : PySem.W.Frag} {H : Hp} {α : Type} {f : α → PyData} {xs : List V} {as : List α} (h : ImAll K H xs (as.map f)) : xs.length = as.length := by
  rw [h.length, List.length_map]
theorem atI_0 {α : Type} {x : α} {xs : List α} : atI (x :: xs) 0 = some x := by
  rw [atI_nat (by decide) (by simp <;> omega)]
  rfl
theorem atI_1 {α : Type} {x y : α} {xs : List α} : atI (x :: y :: xs) 1 = some y := by
  rw [atI_nat (by decide) (by simp <;> omega)]
  rfl
theorem fm_take {α β : Type} {as : List α} {f : α → Option β} {i : Nat} {a : α} (h : as[i]? = some a) : (as.take (i + 1)).filterMap f = (as.take i).filterMap f ++ (f a).toList := by
  rw [List.take_add_one, h, List.filterMap_append]
  congr 1
  all_goals (cases q : f a <;> simp [q])
theorem fm_some {α β : Type} (as : List α) (h : α → β) : as.filterMap (fun a => some (h a)) = as.map h := by
  induction as with
  | nil => rfl
  | cons a as ih =>
    show h a :: as.filterMap (fun a => some (h a)) = _
    rw [ih, List.map_cons]
theorem ImAll.bls {K : PySem.W.Frag} {H : Hp} : ∀ {xs : List V} {bs : List Bool}, ImAll K H xs (bs.map PyData.bool) → xs = bs.map V.bl
  | _, [], .nil => rfl
  | _, b :: bs, .cons h a => by rw [ImAll.bls a, h.flat rfl]; rfl
theorem ImAll.ints {K : PySem.W.Frag} {H : Hp} : ∀ {xs : List V} {bs : List Int}, ImAll K H xs (bs.map PyData.int) → xs = bs.map V.int
  | _, [], .nil => rfl
  | _, b :: bs, .cons h a => by rw [ImAll.ints a, h.flat rfl]; rfl
theorem imInts {K : PySem.W.Frag} {H : Hp} : ∀ (ns : List Int), ImAll K H (ns.map V.int) (ns.map PyData.int)
  | [] => .nil
  | n :: ns => .cons (.int n) (imInts ns)
def intsD (ns : List Int) : PyData := .tuple (ns.map PyData.int)
theorem Im.intsT {K : PySem.W.Frag} {H : Hp} {p : Addr} {ns : List Int} (h : Im K H (.ref p) (intsD ns)) : SqT K H p (ns.map V.int) := h.sq (flatDs_ints ns)
theorem intsT_im {K : PySem.W.Frag} {H : Hp} {p : Addr} {ns : List Int} (h : SqT K H p (ns.map V.int)) : Im K H (.ref p) (intsD ns) := Im.ints h
section
variable {σ σ0 : St} {H : Hp} {K : PySem.W.Frag} {p : Addr} {xs : List V} {g : TG} {tt : TT} {te : TE} {vs : List Nat} {Q : VK} {n : Nat} {lo : Int} {α : Type} {as : List α} {d : α → PyData} {t c : Addr}
/-- a turn of a comprehension, its answer free -/
abbrev lcTurn (g : TG) (tt : TT) (te : TE) (vs : List Nat) (σ σ0 : St) (x : V) (H' : Hp) (R : V → Hp → Prop) (R' : Hp → Prop) : Prop :=
  g x σ0 H' fun σ2 H2 => wpS σ2 σ vs (tt σ2 H2 fun b H3 => iteP b (te σ2 H3 R) (R' H3))
/-- over a tuple of data, with a test -/
theorem lcT_f [hw : Wip σ vs σ0] (s : SqT K H p xs) (ia : ImAll K H xs (as.map d)) (f : α → Option PyData) (small : as.length ≤ 10000)
    (hs : ∀ (i : Nat) (a : α) (x : V) (H' : Hp) (R : V → Hp → Prop) (R' : Hp → Prop), as[i]? = some a → Kp [] H H' → Im K H' x (d a) → (∀ y H4 e, f a = some e → Im K H4 y e → Kp [] H' H4 → R y H4) → (∀ H4, f a = none → Kp [] H' H4 → R' H4) →
      lcTurn g tt te vs σ σ0 x H' R R')
    (hd : ∀ D H' acc, H D = none → H' D = some (.lst acc) → ImAll K H' acc (as.filterMap f) → Kp [] H H' → Q (.ref D) H') : lcS (Itt K p) g tt te vs σ H Q := by
  have hxl := mapLenP ia
  refine r_lcT xs (fun D i H' => Kp [] H H' ∧ H D = none ∧ ∃ acc, H' D = some (.lst acc) ∧ ImAll K H' acc ((as.take i).filterMap f)) (fun D H2 hD e2 k2 => ⟨k2, hD, [], e2, .nil⟩) (fun D i H' h => h.1.tup s) ?_ ?_
  · rintro D i x H' hx ⟨k2, hD, acc, eD, hA⟩
    obtain ⟨a, ha, hxd⟩ := mapGetP (k2.imAll ia) hx
    have hi : i < as.length := (List.getElem?_eq_some_iff.mp ha).1
    have hal : acc.length ≤ i := by
      rw [hA.length]
      refine Nat.le_trans (List.length_filterMap_le _ _) ?_
      rw [List.length_take]
      omega
    refine hs i a x H' _ _ ha k2 hxd (fun y H4 e hf hy k4 => ?_) (fun H4 hf k4 => ?_)
    · refine r_ap (k4.get0 eD) (small1e4 (by omega)) fun H5 e5 k5 => ⟨Kp.trN k5 (Kp.tr0 k4 k2) hD, hD, _, e5, ?_⟩
      rw [fm_take ha, hf]
      exact (k5.imAll (k4.imAll hA)).snoc (k5.im hy)
    · refine ⟨Kp.tr0 k4 k2, hD, acc, k4.get0 eD, ?_⟩
      rw [fm_take ha, hf]
      simpa using k4.imAll hA
  · rintro D H' ⟨k2, hD, acc, eD, hA⟩
    rw [hxl, List.take_length] at hA
    exact hd D H' acc hD eD hA k2
/-- over a list of data, with a test -/
theorem lcL_f [hw : Wip σ vs σ0] (s : H p = some (.lst xs)) (ia : ImAll K H xs (as.map d)) (f : α → Option PyData) (small : as.length ≤ 10000)
    (hs : ∀ (i : Nat) (a : α) (x : V) (H' : Hp) (R : V → Hp → Prop) (R' : Hp → Prop), as[i]? = some a → Kp [] H H' → Im K H' x (d a) → (∀ y H4 e, f a = some e → Im K H4 y e → Kp [] H' H4 → R y H4) → (∀ H4, f a = none → Kp [] H' H4 → R' H4) →
      lcTurn g tt te vs σ σ0 x H' R R')
    (hd : ∀ D H' acc, H D = none → H' D = some (.lst acc) → ImAll K H' acc (as.filterMap f) → Kp [] H H' → Q (.ref D) H') : lcS (Itl K p) g tt te vs σ H Q := by
  have hxl := mapLenP ia
  refine r_lcL xs (fun D i H' => Kp [] H H' ∧ H D = none ∧ ∃ acc, H' D = some (.lst acc) ∧ ImAll K H' acc ((as.take i).filterMap f)) (fun D H2 hD e2 k2 => ⟨k2, hD, [], e2, .nil⟩) (fun D i H' h => h.1.get0 s) ?_ ?_
  · rintro D i x H' hx ⟨k2, hD, acc, eD, hA⟩
    obtain ⟨a, ha, hxd⟩ := mapGetP (k2.imAll ia) hx
    have hi : i < as.length := (List.getElem?_eq_some_iff.mp ha).1
    have hal : acc.length ≤ i := by
      rw [hA.length]
      refine Nat.le_trans (List.length_filterMap_le _ _) ?_
      rw [List.length_take]
      omega
    refine hs i a x H' _ _ ha k2 hxd (fun y H4 e hf hy k4 => ?_) (fun H4 hf k4 => ?_)
    · refine r_ap (k4.get0 eD) (small1e4 (by omega)) fun H5 e5 k5 => ⟨Kp.trN k5 (Kp.tr0 k4 k2) hD, hD, _, e5, ?_⟩
      rw [fm_take ha, hf]
      exact (k5.imAll (k4.imAll hA)).snoc (k5.im hy)
    · refine ⟨Kp.tr0 k4 k2, hD, acc, k4.get0 eD, ?_⟩
      rw [fm_take ha, hf]
      simpa using k4.imAll hA
  · rintro D H' ⟨k2, hD, acc, eD, hA⟩
    rw [hxl, List.take_length] at hA
    exact hd D H' acc hD eD hA k2
/-- over a range, with a test -/
theorem lcR_f [hw : Wip σ vs σ0] (f : Nat → Option PyData) (small : n ≤ 10000)
    (hs : ∀ (i : Nat) (H' : Hp) (R : V → Hp → Prop) (R' : Hp → Prop), i < n → Kp [] H H' → (∀ y H4 e, f i = some e → Im K H4 y e → Kp [] H' H4 → R y H4) → (∀ H4, f i = none → Kp [] H' H4 → R' H4) →
      lcTurn g tt te vs σ σ0 (.int (lo + (i : Int))) H' R R')
    (hd : ∀ D H' acc, H D = none → H' D = some (.lst acc) → ImAll K H' acc ((List.range n).filterMap f) → Kp [] H H' → Q (.ref D) H') : lcS (Itr lo n) g tt te vs σ H Q := by
  refine r_lcR (fun D i H' => Kp [] H H' ∧ H D = none ∧ ∃ acc, H' D = some (.lst acc) ∧ ImAll K H' acc ((List.range i).filterMap f)) (fun D H2 hD e2 k2 => ⟨k2, hD, [], e2, .nil⟩) ?_ ?_
  · rintro D i H' hi ⟨k2, hD, acc, eD, hA⟩
    have hal : acc.length ≤ i := by
      rw [hA.length]
      refine Nat.le_trans (List.length_filterMap_le _ _) ?_
      rw [List.length_range]
      exact Nat.le_refl _
    have e0 : (List.range (i + 1)).filterMap f = (List.range i).filterMap f ++ (f i).toList := by
      rw [List.range_succ, List.filterMap_append]
      congr 1
      all_goals (cases q : f i <;> simp [q])
    refine hs i H' _ _ hi k2 (fun y H4 e hf hy k4 => ?_) (fun H4 hf k4 => ?_)
    · refine r_ap (k4.get0 eD) (small1e4 (by omega)) fun H5 e5 k5 => ⟨Kp.trN k5 (Kp.tr0 k4 k2) hD, hD, _, e5, ?_⟩
      rw [e0, hf]
      exact (k5.imAll (k4.imAll hA)).snoc (k5.im hy)
    · refine ⟨Kp.tr0 k4 k2, hD, acc, k4.get0 eD, ?_⟩
      rw [e0, hf]
      simpa using k4.imAll hA
  · rintro D H' ⟨k2, hD, acc, eD, hA⟩
    exact hd D H' acc hD eD hA k2
/-- over a tuple of data: each item's answer -/
theorem lcT_m [hw : Wip σ vs σ0] (s : SqT K H p xs) (ia : ImAll K H xs (as.map d)) (f : α → PyData) (small : as.length ≤ 10000)
    (hs : ∀ (i : Nat) (a : α) (x : V) (H' : Hp) (R : V → Hp → Prop) (R' : Hp → Prop), as[i]? = some a → Kp [] H H' → Im K H' x (d a) → (∀ y H4, Im K H4 y (f a) → Kp [] H' H4 → R y H4) → lcTurn g tt te vs σ σ0 x H' R R')
    (hd : ∀ D H' acc, H D = none → H' D = some (.lst acc) → ImAll K H' acc (as.map f) → Kp [] H H' → Q (.ref D) H') : lcS (Itt K p) g tt te vs σ H Q :=
  lcT_f s ia (fun a => some (f a)) small (fun i a x H' R R' ha k hx h1 _ => hs i a x H' R R' ha k hx fun y H4 hy k4 => h1 y H4 _ rfl hy k4) fun D H' acc hD eD hA k => hd D H' acc hD eD (by rw [fm_some] at hA; exact hA) k
theorem lcL_m [hw : Wip σ vs σ0] (s : H p = some (.lst xs)) (ia : ImAll K H xs (as.map d)) (f : α → PyData) (small : as.length ≤ 10000)
    (hs : ∀ (i : Nat) (a : α) (x : V) (H' : Hp) (R : V → Hp → Prop) (R' : Hp → Prop), as[i]? = some a → Kp [] H H' → Im K H' x (d a) → (∀ y H4, Im K H4 y (f a) → Kp [] H' H4 → R y H4) → lcTurn g tt te vs σ σ0 x H' R R')
    (hd : ∀ D H' acc, H D = none → H' D = some (.lst acc) → ImAll K H' acc (as.map f) → Kp [] H H' → Q (.ref D) H') : lcS (Itl K p) g tt te vs σ H Q :=
  lcL_f s ia (fun a => some (f a)) small (fun i a x H' R R' ha k hx h1 _ => hs i a x H' R R' ha k hx fun y H4 hy k4 => h1 y H4 _ rfl hy k4) fun D H' acc hD eD hA k => hd D H' acc hD eD (by rw [fm_some] at hA; exact hA) k
theorem lcR_m [hw : Wip σ vs σ0] (f : Nat → PyData) (small : n ≤ 10000)
    (hs : ∀ (i : Nat) (H' : Hp) (R : V → Hp → Prop) (R' : Hp → Prop), i < n → Kp [] H H' → (∀ y H4, Im K H4 y (f i) → Kp [] H' H4 → R y H4) → lcTurn g tt te vs σ σ0 (.int (lo + (i : Int))) H' R R')
    (hd : ∀ D H' acc, H D = none → H' D = some (.lst acc) → ImAll K H' acc ((List.range n).map f) → Kp [] H H' → Q (.ref D) H') : lcS (Itr lo n) g tt te vs σ H Q :=
  lcR_f (fun i => some (f i)) small (fun i H' R R' hi k h1 _ => hs i H' R R' hi k fun y H4 hy k4 => h1 y H4 _ rfl hy k4) fun D H' acc hD eD hA k => hd D H' acc hD eD (by rw [fm_some] at hA; exact hA) k
/-- .. a truth value for each -/
theorem lcT_b [hw : Wip σ vs σ0] (s : SqT K H p xs) (ia : ImAll K H xs (as.map d)) (f : α → Bool) (small : as.length ≤ 10000)
    (hs : ∀ (i : Nat) (a : α) (x : V) (H' : Hp) (R : V → Hp → Prop) (R' : Hp → Prop), as[i]? = some a → Kp [] H H' → Im K H' x (d a) → (∀ H4, Kp [] H' H4 → R (.bl (f a)) H4) → lcTurn g tt te vs σ σ0 x H' R R')
    (hd : ∀ D H', H D = none → H' D = some (.lst ((as.map f).map V.bl)) → Kp [] H H' → Q (.ref D) H') : lcS (Itt K p) g tt te vs σ H Q :=
  lcT_m s ia (fun a => .bool (f a)) small (fun i a x H' R R' ha k hx h1 => hs i a x H' R R' ha k hx fun H4 k4 => h1 _ H4 (.bl _) k4) fun D H' acc hD eD hA k => hd D H' hD (by
    rw [eD]
    have q : as.map (fun a => PyData.bool (f a)) = (as.map f).map PyData.bool := by simp
    rw [q] at hA
    rw [hA.bls]) k
theorem lcL_b [hw : Wip σ vs σ0] (s : H p = some (.lst xs)) (ia : ImAll K H xs (as.map d)) (f : α → Bool) (small : as.length ≤ 10000)
    (hs : ∀ (i : Nat) (a : α) (x : V) (H' : Hp) (R : V → Hp → Prop) (R' : Hp → Prop), as[i]? = some a → Kp [] H H' → Im K H' x (d a) → (∀ H4, Kp [] H' H4 → R (.bl (f a)) H4) → lcTurn g tt te vs σ σ0 x H' R R')
    (hd : ∀ D H', H D = none → H' D = some (.lst ((as.map f).map V.bl)) → Kp [] H H' → Q (.ref D) H') : lcS (Itl K p) g tt te vs σ H Q :=
  lcL_m s ia (fun a => .bool (f a)) small (fun i a x H' R R' ha k hx h1 => hs i a x H' R R' ha k hx fun H4 k4 => h1 _ H4 (.bl _) k4) fun D H' acc hD eD hA k => hd D H' hD (by
    rw [eD]
    have q : as.map (fun a => PyData.bool (f a)) = (as.map f).map PyData.bool := by simp
    rw [q] at hA
    rw [hA.bls]) k
/-- .. an int for each -/
theorem lcT_i [hw : Wip σ vs σ0] (s : SqT K H p xs) (ia : ImAll K H xs (as.map d)) (f : α → Int) (small : as.length ≤ 10000)
    (hs : ∀ (i : Nat) (a : α) (x : V) (H' : Hp) (R : V → Hp → Prop) (R' : Hp → Prop), as[i]? = some a → Kp [] H H' → Im K H' x (d a) → (∀ H4, Kp [] H' H4 → R (.int (f a)) H4) → lcTurn g tt te vs σ σ0 x H' R R')
    (hd : ∀ D H', H D = none → H' D = some (.lst ((as.map f).map V.int)) → Kp [] H H' → Q (.ref D) H') : lcS (Itt K p) g tt te vs σ H Q :=
  lcT_m s ia (fun a => .int (f a)) small (fun i a x H' R R' ha k hx h1 => hs i a x H' R R' ha k hx fun H4 k4 => h1 _ H4 (.int _) k4) fun D H' acc hD eD hA k => hd D H' hD (by
    rw [eD]
    have q : as.map (fun a => PyData.int (f a)) = (as.map f).map PyData.int := by simp
    rw [q] at hA
    rw [hA.ints]) k
theorem lcL_i [hw : Wip σ vs σ0] (s : H p = some (.lst xs)) (ia : ImAll K H xs (as.map d)) (f : α → Int) (small : as.length ≤ 10000)
    (hs : ∀ (i : Nat) (a : α) (x : V) (H' : Hp) (R : V → Hp → Prop) (R' : Hp → Prop), as[i]? = some a → Kp [] H H' → Im K H' x (d a) → (∀ H4, Kp [] H' H4 → R (.int (f a)) H4) → lcTurn g tt te vs σ σ0 x H' R R')
    (hd : ∀ D H', H D = none → H' D = some (.lst ((as.map f).map V.int)) → Kp [] H H' → Q (.ref D) H') : lcS (Itl K p) g tt te vs σ H Q :=
  lcL_m s ia (fun a => .int (f a)) small (fun i a x H' R R' ha k hx h1 => hs i a x H' R R' ha k hx fun H4 k4 => h1 _ H4 (.int _) k4) fun D H' acc hD eD hA k => hd D H' hD (by
    rw [eD]
    have q : as.map (fun a => PyData.int (f a)) = (as.map f).map PyData.int := by simp
    rw [q] at hA
    rw [hA.ints]) k
/-- draws, one for each number of a range: what they have in common -/
theorem lcR_d [hw : Wip σ vs σ0] (d : α → PyData) (Pr : Nat → α → Prop) (T : Tp t c H) (small : n ≤ 10000)
    (hs : ∀ (i : Nat) (H' : Hp) (R : V → Hp → Prop) (R' : Hp → Prop), i < n → Tp t c H' → Kp [t] H H' → (∀ y H4 a, Pr i a → Im K H4 y (d a) → Tp t c H4 → Kp [t] H' H4 → R y H4) → lcTurn g tt te vs σ σ0 (.int (lo + (i : Int))) H' R R')
    (hd : ∀ D H' acc (as : List α), H D = none → H' D = some (.lst acc) → as.length = n → (∀ (i : Nat) a, as[i]? = some a → Pr i a) → ImAll K H' acc (as.map d) → Tp t c H' → Kp [t] H H' → Q (.ref D) H') : lcS (Itr lo n) g tt te vs σ H Q := by
  refine r_lcR (fun D i H' => Kp [t] H H' ∧ H D = none ∧ Tp t c H' ∧ ∃ (acc : List V) (as : List α), H' D = some (.lst acc) ∧ as.length = i ∧ (∀ (i : Nat) a, as[i]? = some a → Pr i a) ∧ ImAll K H' acc (as.map d))
    (fun D H2 hD e2 k2 => ⟨Kp.tr0 k2 (Tp.base T), hD, Tp.kp0 k2 T, [], [], e2, rfl, (fun i a h => by simp at h), .nil⟩) ?_ ?_
  · rintro D i H' hi ⟨k2, hD, T2, acc, as, eD, hl, hP, hA⟩
    have nt : D ≠ t := Tp.nef hD T
    have nc : D ≠ c := Tp.nefc hD T
    have hal : acc.length = i := by rw [hA.length, List.length_map, hl]
    refine hs i H' _ _ hi T2 k2 fun y H4 a ha hy T4 k4 => ?_
    refine r_ap (k4.get1 nt eD) (small1e4 (by omega)) fun H5 e5 k5 => ⟨Kp.trN k5 (Kp.tr1 k4 k2) hD, hD, Tp.kp1 k5 T4 nt.symm nc.symm, _, as ++ [a], e5, by simp [hl], fun j b hb => ?_, ?_⟩
    · rcases Nat.lt_or_ge j as.length with h | h
      · rw [List.getElem?_append_left h] at hb
        exact hP j b hb
      · rw [List.getElem?_append_right h] at hb
        have e0 : j - as.length = 0 := by
          have := (List.getElem?_eq_some_iff.mp hb).1
          simp at this
          omega
        rw [e0] at hb
        simp at hb
        subst hb
        rw [show j = i by omega]
        exact ha
    · rw [List.map_append]
      exact (k5.imAll (k4.imAll hA)).snoc (k5.im hy)
  · rintro D H' ⟨k2, hD, T2, acc, as, eD, hl, hP, hA⟩
    exact hd D H' acc as hD eD hl hP hA T2 k2
/-- .. one for each item of a tuple -/
theorem lcT_d {β : Type} {bs : List β} {e : β → PyData} [hw : Wip σ vs σ0] (s : SqT K H p xs) (ib : ImAll K H xs (bs.map e)) (d : α → PyData) (Pr : β → α → Prop) (T : Tp t c H) (small : bs.length ≤ 10000)
    (hs : ∀ (i : Nat) (b : β) (x : V) (H' : Hp) (R : V → Hp → Prop) (R' : Hp → Prop), bs[i]? = some b → Im K H' x (e b) → Tp t c H' → Kp [t] H H' → (∀ y H4 a, Pr b a → Im K H4 y (d a) → Tp t c H4 → Kp [t] H' H4 → R y H4) → lcTurn g tt te vs σ σ0 x H' R R')
    (hd : ∀ D H' acc (as : List α), H D = none → H' D = some (.lst acc) → as.length = bs.length → (∀ (i : Nat) a, as[i]? = some a → ∃ b, bs[i]? = some b ∧ Pr b a) → ImAll K H' acc (as.map d) → Tp t c H' → Kp [t] H H' → Q (.ref D) H') : lcS (Itt K p) g tt te vs σ H Q := by
  have hxl := mapLenP ib
  refine r_lcT xs (fun D i H' => Kp [t] H H' ∧ H D = none ∧ Tp t c H' ∧ ∃ (acc : List V) (as : List α), H' D = some (.lst acc) ∧ as.length = i ∧ (∀ (i : Nat) a, as[i]? = some a → ∃ b, bs[i]? = some b ∧ Pr b a) ∧ ImAll K H' acc (as.map d))
    (fun D H2 hD e2 k2 => ⟨Kp.tr0 k2 (Tp.base T), hD, Tp.kp0 k2 T, [], [], e2, rfl, (fun i a h => by simp at h), .nil⟩) (fun D i H' h => h.1.tup s) ?_ ?_
  · rintro D i x H' hx ⟨k2, hD, T2, acc, as, eD, hl, hP, hA⟩
    obtain ⟨b, hb, hxd⟩ := mapGetP (k2.imAll ib) hx
    have hi : i < bs.length := (List.getElem?_eq_some_iff.mp hb).1
    have nt : D ≠ t := Tp.nef hD T
    have nc : D ≠ c := Tp.nefc hD T
    have hal : acc.length = i := by rw [hA.length, List.length_map, hl]
    refine hs i b x H' _ _ hb hxd T2 k2 fun y H4 a ha hy T4 k4 => ?_
    refine r_ap (k4.get1 nt eD) (small1e4 (by omega)) fun H5 e5 k5 => ⟨Kp.trN k5 (Kp.tr1 k4 k2) hD, hD, Tp.kp1 k5 T4 nt.symm nc.symm, _, as ++ [a], e5, by simp [hl], fun j b' hb' => ?_, ?_⟩
    · rcases Nat.lt_or_ge j as.length with h | h
      · rw [List.getElem?_append_left h] at hb'
        exact hP j b' hb'
      · rw [List.getElem?_append_right h] at hb'
        have e0 : j - as.length = 0 := by
          have := (List.getElem?_eq_some_iff.mp hb').1
          simp at this
          omega
        rw [e0] at hb'
        simp at hb'
        subst hb'
        rw [show j = i by omega]
        exact ⟨b, hb, ha⟩
    · rw [List.map_append]
      exact (k5.imAll (k4.imAll hA)).snoc (k5.im hy)
  · rintro D H' ⟨k2, hD, T2, acc, as, eD, hl, hP, hA⟩
    exact hd D H' acc as hD eD (by rw [hl, hxl]) hP hA T2 k2
end
section
variable {σ : St} {H : Hp} {K : PySem.W.Frag} {p : Addr} {xs : List V} {g : TG} {tb : TS} {nx bk ct : St → Hp → Prop} {rt : VK} {α : Type} {as : List α} {d : α → PyData}
/-- a for over a tuple of data -/
theorem r_forTI (S : List Addr) (s : SqT K H p xs) (ia : ImAll K H xs (as.map d)) (Pv : Nat → St → Hp → Prop) (h0 : Pv 0 σ H) (hk : ∀ i σ' H', Pv i σ' H' → Kp S H H')
    (hs : ∀ (i : Nat) (a : α) (x : V) σ' H', as[i]? = some a → Im K H' x (d a) → Kp S H H' → Pv i σ' H' → g x σ' H' fun σ2 H2 => tb ⟨Pv (i + 1), rt, nx, Pv (i + 1)⟩ σ2 H2) (hd : ∀ σ' H', Kp S H H' → Pv as.length σ' H' → nx σ' H') : forS (Itt K p) g tb ⟨nx, rt, bk, ct⟩ σ H := by
  refine r_forT xs Pv h0 (fun i σ' H' h => (hk i σ' H' h).tup s) (fun i x σ' H' hx h => ?_) (fun σ' H' h => ?_)
  · obtain ⟨a, ha, hxd⟩ := mapGetP ((hk i σ' H' h).imAll ia) hx
    exact hs i a x σ' H' ha hxd (hk i σ' H' h) h
  · rw [mapLenP ia] at h
    exact hd σ' H' (hk _ σ' H' h) h
/-- a for over a list of data that stands -/
theorem r_forLD (S : List Addr) (s : H p = some (.lst xs)) (np : ¬ p ∈ S) (ia : ImAll K H xs (as.map d)) (Pv : Nat → St → Hp → Prop) (h0 : Pv 0 σ H) (hk : ∀ i σ' H', Pv i σ' H' → Kp S H H')
    (hs : ∀ (i : Nat) (a : α) (x : V) σ' H', as[i]? = some a → Im K H' x (d a) → Kp S H H' → Pv i σ' H' → g x σ' H' fun σ2 H2 => tb ⟨Pv (i + 1), rt, nx, Pv (i + 1)⟩ σ2 H2) (hd : ∀ σ' H', Kp S H H' → Pv as.length σ' H' → nx σ' H') : forS (Itl K p) g tb ⟨nx, rt, bk, ct⟩ σ H := by
  refine r_forL xs Pv h0 (fun i σ' H' h => (hk i σ' H' h).get np s) (fun i x σ' H' hx h => ?_) (fun σ' H' h => ?_)
  · obtain ⟨a, ha, hxd⟩ := mapGetP ((hk i σ' H' h).imAll ia) hx
    exact hs i a x σ' H' ha hxd (hk i σ' H' h) h
  · rw [mapLenP ia] at h
    exact hd σ' H' (hk _ σ' H' h) h
end
/-! ### sets of ints, sorted -/
section
variable {K : PySem.W.Frag} {w : World} {H : Hp} {Q : VK} {l S : Addr} {ns : List Int} {f : Int → Bool} {c : Nat}
theorem r_setS (h : H l = some (.lst (ns.map V.int))) (hn : ns.length ≤ 4000) (q : ∀ S H2 c, H S = none → H2 S = some (SetO w S (fun j => decide (j ∈ ns)) c) → c ≤ ns.length → Kp [] H H2 → Q (.ref S) H2) : rSetL K w [.ref l] H Q :=
  ⟨l, ns, rfl, SqL.of h, hn, fun p c hp hc _ => q p _ c hp upd_same hc (Kp.new hp)⟩
theorem r_setS2 (h : H l = some (.lst (ns.map V.int))) (hn : ns.length ≤ 4000) (q : ∀ S H2 c, H S = none → H2 S = some (SetO w S (fun j => decide (j ∈ ns)) c) → (∀ us : List Int, (∀ j ∈ ns, j ∈ us) → c ≤ us.length) → Kp [] H H2 → Q (.ref S) H2) : rSetL K w [.ref l] H Q :=
  ⟨l, ns, rfl, SqL.of h, hn, fun p c hp _ hc => q p _ c hp upd_same hc (Kp.new hp)⟩
theorem r_sortS (h : H S = some (SetO w S f c)) (hc : c < 64) (q : ∀ l (ns : List Int) H2, H l = none → H2 l = some (.lst (ns.map V.int)) → ns.Pairwise (· < ·) → (∀ j, j ∈ ns ↔ f j = true) → Kp [] H H2 → Q (.ref l) H2) : rSortedSet w [.ref S] H Q :=
  ⟨S, f, c, rfl, h, hc, fun ns l hp hm hn hl => q l ns _ hl upd_same hp (fun j => by rw [hm j]) (Kp.new hl)⟩
end
/-! ### more rows of tactics -/
theorem Kp.free1 {H0 H1 : Hp} {p : Addr} (h : H1 p = none) (f : Kp [] H0 H1) : H0 p = none := f.free0 h
local macro_rules | `(tactic| walk_at "cg fr") => `(tactic| (first
  | assumption
  | exact Kp.free1 (by assumption) (by walk_at "cg kp")
  | fail))
section
variable {K : PySem.W.Frag} {H : Hp} {Q : VK} {p : Addr} {xs : List V} {x : V} {neg : Bool}
theorem r_inTt (h : SqT K H p xs) (fx : flatV x = true) (fs : xs.all flatV = true) (e : (if neg then !inV x xs else inV x xs) = true) (q : Q (.bl true) H) : rIn K neg x (.ref p) H Q := r_inT h fx fs e q
theorem r_inTf (h : SqT K H p xs) (fx : flatV x = true) (fs : xs.all flatV = true) (e : (if neg then !inV x xs else inV x xs) = false) (q : Q (.bl false) H) : rIn K neg x (.ref p) H Q := r_inT h fx fs e q
theorem r_inLt (h : H p = some (.lst xs)) (fx : flatV x = true) (fs : xs.all flatV = true) (e : (if neg then !inV x xs else inV x xs) = true) (q : Q (.bl true) H) : rIn K neg x (.ref p) H Q := r_inL h fx fs e q
theorem r_inLf (h : H p = some (.lst xs)) (fx : flatV x = true) (fs : xs.all flatV = true) (e : (if neg then !inV x xs else inV x xs) = false) (q : Q (.bl false) H) : rIn K neg x (.ref p) H Q := r_inL h fx fs e q
end
local macro_rules | `(tactic| walk_at "cg s") => `(tactic| (first
  | ((with_reducible apply r_inTt); (focus (walk_at "cg h")); exact rfl; exact rfl; (focus (decide +kernel)))
  | ((with_reducible apply r_inTf); (focus (walk_at "cg h")); exact rfl; exact rfl; (focus (decide +kernel)))
  | ((with_reducible apply r_inLt); (focus (walk_at "cg h")); exact rfl; exact rfl; (focus (decide +kernel)))
  | ((with_reducible apply r_inLf); (focus (walk_at "cg h")); exact rfl; exact rfl; (focus (decide +kernel)))
  | fail))

/-! ### terms and rows -/
structure Shp (n : Nat) (d : PyData) : Prop where
  lay : d.canLay0 = true
  dep : d.depth ≤ n
theorem Shp.int {n : Nat} (i : Int) : Shp n (.int i) := ⟨rfl, Nat.zero_le _⟩
theorem Shp.bool {n : Nat} (b : Bool) : Shp n (.bool b) := ⟨rfl, Nat.zero_le _⟩
theorem Shp.none {n : Nat} : Shp n .none := ⟨rfl, Nat.zero_le _⟩
theorem Shp.str {n : Nat} {x : Str} (h : PyData.strOk x = true) : Shp n (.str x) := ⟨by simp only [PyData.canLay0]; exact h, Nat.zero_le _⟩
theorem shpAll {n : Nat} : ∀ {ds : List PyData}, (∀ d ∈ ds, Shp n d) → PyData.canLayAll0 ds = true ∧ PyData.depthAll ds ≤ n
  | [], _ => ⟨rfl, Nat.zero_le _⟩
  | d :: ds, h => by
    have h1 := h d List.mem_cons_self
    have h2 := shpAll (ds := ds) fun e he => h e (List.mem_cons_of_mem _ he)
    refine ⟨?_, ?_⟩
    · simp only [PyData.canLayAll0, h1.lay, h2.1, Bool.and_self]
    · simp only [PyData.depthAll]
      exact Nat.max_le.mpr ⟨h1.dep, h2.2⟩
theorem Shp.tup {n : Nat} {ds : List PyData} (h : ∀ d ∈ ds, Shp n d) : Shp (n + 1) (.tuple ds) := by
  have q := shpAll h
  exact ⟨by simp only [PyData.canLay0]; exact q.1, by simp only [PyData.depth]; omega⟩
theorem Shp.list {n : Nat} {ds : List PyData} (h : ∀ d ∈ ds, Shp n d) : Shp (n + 1) (.list ds) := by
  have q := shpAll h
  exact ⟨by simp only [PyData.canLay0]; exact q.1, by simp only [PyData.depth]; omega⟩
theorem Shp.mono {n m : Nat} {d : PyData} (h : Shp n d) (l : n ≤ m) : Shp m d := ⟨h.lay, Nat.le_trans h.dep l⟩
theorem Shp.ok {n : Nat} {d : PyData} (h : Shp n d) (l : n ≤ 64 := by decide) : SeqAt.shaped d = true := by
  unfold SeqAt.shaped
  rw [h.lay, decide_eq_true (Nat.le_trans h.dep l)]
  rfl
theorem Shp.self {n : Nat} {d : PyData} (h : Shp n d) : PyData.eqv d d = true := PySem.SeqAt.eqv_refl d h.lay
theorem shp_nil {n : Nat} : ∀ d ∈ ([] : List PyData), Shp n d := fun _ h => by cases h
theorem shp_cons {n : Nat} {d : PyData} {ds : List PyData} (h : Shp n d) (h' : ∀ e ∈ ds, Shp n e) : ∀ e ∈ d :: ds, Shp n e := fun e he => by
  rcases List.mem_cons.mp he with rfl | he
  · exact h
  · exact h' e he
abbrev Tms := List (Int × Int)
def tD (z : Int × Int) : PyData := .tuple [.int z.1, .int z.2]
def tmD (ts : Tms) : PyData := .tuple (ts.map tD)
def negT (ts : Tms) : Tms := ts.map fun z => (z.1, -z.2)
/-- a point: what each unknown is worth -/
abbrev Pt := Int → Int
def sumF (ts : Tms) (f : Pt) : Int := (ts.map fun z => z.2 * f z.1).sum
theorem tD_shp (z : Int × Int) : Shp 1 (tD z) := .tup (shp_cons (.int _) (shp_cons (.int _) shp_nil))
theorem tmD_shp (ts : Tms) : Shp 2 (tmD ts) := .tup fun d hd => by
  obtain ⟨z, _, rfl⟩ := List.mem_map.mp hd
  exact tD_shp z
theorem sumF_neg (ts : Tms) (f : Pt) : sumF (negT ts) f = -sumF ts f := by
  induction ts with
  | nil => rfl
  | cons z ts ih =>
    have e1 : sumF (negT (z :: ts)) f = (-z.2) * f z.1 + sumF (negT ts) f := by simp [sumF, negT]
    have e2 : sumF (z :: ts) f = z.2 * f z.1 + sumF ts f := by simp [sumF]
    rw [e1, e2, ih, Int.neg_mul]
    omega
theorem sumF_snoc (ts : Tms) (z : Int × Int) (f : Pt) : sumF (ts ++ [z]) f = sumF ts f + z.2 * f z.1 := by
  simp [sumF]
theorem sumF_take {ts : Tms} {z : Int × Int} {i : Nat} (f : Pt) (h : ts[i]? = some z) : sumF (ts.take (i + 1)) f = sumF (ts.take i) f + z.2 * f z.1 := by
  rw [List.take_add_one, h]
  exact sumF_snoc _ _ _
theorem sumF_congr {ts : Tms} {f g : Pt} (h : ∀ z ∈ ts, f z.1 = g z.1) : sumF ts f = sumF ts g := by
  unfold sumF
  congr 1
  exact List.map_congr_left fun z hz => by rw [h z hz]
theorem map_take_snoc {α β : Type} {l : List α} {f : α → β} {i : Nat} {x : α} (h : l[i]? = some x) : (l.take (i + 1)).map f = (l.take i).map f ++ [f x] := by
  rw [List.take_add_one, h]
  simp
theorem term_at {K : PySem.W.Frag} {H : Hp} {x : V} {z : Int × Int} (h : Im K H x (tD z)) : ∃ q, x = .ref q ∧ SqT K H q [.int z.1, .int z.2] := by
  obtain ⟨q, rfl⟩ := Im.isRef h
  exact ⟨q, rfl, Im.sq h rfl⟩
/-! ### points -/
/-- at q a point is to be read: f v at each v of dom -/
def PtAt (K : PySem.W.Frag) (H : Hp) (q : Addr) (f : Pt) (dom : Int → Prop) : Prop := ∀ v, dom v → (∃ xs, SqT K H q xs ∧ atI xs v = some (.int (f v))) ∨ (∃ xs, H q = some (.lst xs) ∧ atI xs v = some (.int (f v))) ∨ ∃ kvs, H q = some (.dK kvs) ∧ valV kvs (Sum.inl v) = some (.int (f v))
/-- a dict with numbers as keys, read by [..] -/
def rIxDK : R2 := fun x y H Q => ∃ a kvs k v, x = .ref a ∧ y = .int k ∧ H a = some (.dK kvs) ∧ valV kvs (Sum.inl k) = some v ∧ Q v H
open PySem.Spec PyProof.Rows in
theorem ix_dK {X : Cx} : IxR X rIxDK := by
  intro value slice pins s σ H x y v u Q I rx ry h hs
  obtain ⟨a, kvs, k, z, rfl, rfl, hq, he, q⟩ := h
  obtain rfl : v = Value.ref a := rx
  obtain ⟨z1, hd, vs, rel, dd⟩ := dk_of I.hok hq
  obtain ⟨w', hw, rw'⟩ := RelO.some_of (v := z) (o := valueAt vs (Sum.inl k)) (by rw [← he]; exact rel.val _)
  exact tail_any dd.typeIs PySem.F.slot_dict_getitem.lookup (wpAny_getItem_of (kV_is (k := Sum.inl k) ry) dd.mapOf hw ⟨z, H, I.tok _, rw', q⟩) hs
def rPt (K : PySem.W.Frag) : R2 := fun x y H Q => rIxT K x y H Q ∨ (rIxL K x y H Q ∨ rIxDK x y H Q)
theorem ixP {X : Cx} (K : PySem.W.Frag) (h : X.K = K := by rfl) : IxR X (rPt K) := h ▸ ix_tup.or (ix_list.or ix_dK)
def at_ (pt : List Int) : Pt := fun v => pt.getD v.toNat 0
section
variable {K : PySem.W.Frag} {H H' : Hp} {q : Addr} {f : Pt} {dom dom' : Int → Prop} {v : Int} {Q : VK} {pt : List Int} {S : List Addr}
theorem r_pt (h : PtAt K H q f dom) (hv : dom v) (k : Q (.int (f v)) H) : rPt K (.ref q) (.int v) H Q := by
  rcases h v hv with ⟨xs, h1, h2⟩ | ⟨xs, h1, h2⟩ | ⟨kvs, h1, h2⟩
  · exact .inl ⟨q, xs, v, _, rfl, rfl, h1, h2, k⟩
  · exact .inr (.inl ⟨q, xs, v, _, rfl, rfl, SqL.of h1, h2, k⟩)
  · exact .inr (.inr ⟨q, kvs, v, _, rfl, rfl, h1, h2, k⟩)
theorem PtAt.kp (k : Kp S H H') (h : PtAt K H q f dom) (n : ¬ q ∈ S) : PtAt K H' q f dom := fun v hv => by
  rcases h v hv with ⟨xs, h1, h2⟩ | ⟨xs, h1, h2⟩ | ⟨kvs, h1, h2⟩
  · exact .inl ⟨xs, k.tup h1, h2⟩
  · exact .inr (.inl ⟨xs, k.get n h1, h2⟩)
  · exact .inr (.inr ⟨kvs, k.get n h1, h2⟩)
theorem PtAt.kp0 (k : Kp [] H H') (h : PtAt K H q f dom) : PtAt K H' q f dom := h.kp k fun z => nomatch z
theorem PtAt.ofT (h : SqT K H q (pt.map V.int)) : PtAt K H q (at_ pt) fun v => 0 ≤ v ∧ v < pt.length := fun v hv => .inl ⟨_, h, atI_ints hv.1 hv.2⟩
theorem PtAt.ofL (h : H q = some (.lst (pt.map V.int))) : PtAt K H q (at_ pt) fun v => 0 ≤ v ∧ v < pt.length := fun v hv => .inr (.inl ⟨_, h, atI_ints hv.1 hv.2⟩)
theorem PtAt.mono (h : PtAt K H q f dom) (l : ∀ v, dom' v → dom v) : PtAt K H q f dom' := fun v hv => h v (l v hv)
end
def tmBd (ts : Tms) : Prop := ∀ z ∈ ts, -2000000000000000000 < z.2 ∧ z.2 < 2000000000000000000
def spSumF (K : PySem.W.Frag) : Sp := fun vs H Q _ => ∃ (p q : Addr) (ts : Tms) (f : Pt) (dom : Int → Prop), vs = [.ref p, .ref q] ∧ Im K H (.ref p) (tmD ts) ∧ PtAt K H q f dom ∧ (∀ z ∈ ts, dom z.1) ∧ tmBd ts ∧ Q (.int (sumF ts f)) H
theorem spSumF_i {K : PySem.W.Frag} {H : Hp} {Q : VK} {E : XK} {p q : Addr} {ts : Tms} {f : Pt} {dom : Int → Prop} (h1 : Im K H (.ref p) (tmD ts)) (h2 : PtAt K H q f dom) (h3 : ∀ z ∈ ts, dom z.1) (h4 : tmBd ts) (k : Q (.int (sumF ts f)) H) : spSumF K [.ref p, .ref q] H Q E :=
  ⟨p, q, ts, f, dom, rfl, h1, h2, h3, h4, k⟩
def spNegT (K : PySem.W.Frag) : Sp := fun vs H Q _ => ∃ (p : Addr) (ts : Tms), vs = [.ref p] ∧ Im K H (.ref p) (tmD ts) ∧ ts.length ≤ 1000 ∧ ∀ (p' : Addr) (H' : Hp), Im K H' (.ref p') (tmD (negT ts)) → Kp [] H H' → Q (.ref p') H'
local macro_rules | `(tactic| walk_at "cg h") => `(tactic| (first
  | ((with_reducible show PtAt _ _ _ _ _); exact PtAt.kp0 (by assumption) (by walk_at "cg h"))
  | fail))
local macro_rules | `(tactic| walk_at "cg h") => `(tactic| assumption)

/-! ### data: when equal -/
mutual
/-- no bool, no dict, no list within -/
def nb : PyData → Bool
  | .none => true
  | .int _ => true
  | .str _ => true
  | .tuple xs => nbAll xs
  | _ => false
def nbAll : List PyData → Bool
  | [] => true
  | x :: xs => nb x && nbAll xs
end
mutual
theorem eqv_nb : ∀ (d e : PyData), nb d = true → nb e = true → PyData.eqv d e = true → d = e
  | .none, .none, _, _, _ => rfl
  | .int i, .int j, _, _, h => by
    have h' : (i == j) = true := by simpa only [PyData.eqv] using h
    rw [beq_iff_eq.mp h']
  | .str i, .str j, _, _, h => by
    have h' : (i == j) = true := by simpa only [PyData.eqv] using h
    rw [beq_iff_eq.mp h']
  | .tuple xs, .tuple ys, h1, h2, h => by
    rw [eqvAll_nb xs ys (by simpa only [nb] using h1) (by simpa only [nb] using h2) (by simpa only [PyData.eqv] using h)]
  | .none, .int _, _, _, h => by simp [PyData.eqv] at h
  | .none, .str _, _, _, h => by simp [PyData.eqv] at h
  | .none, .tuple _, _, _, h => by simp [PyData.eqv] at h
  | .int _, .none, _, _, h => by simp [PyData.eqv] at h
  | .int _, .str _, _, _, h => by simp [PyData.eqv] at h
  | .int _, .tuple _, _, _, h => by simp [PyData.eqv] at h
  | .str _, .none, _, _, h => by simp [PyData.eqv] at h
  | .str _, .int _, _, _, h => by simp [PyData.eqv] at h
  | .str _, .tuple _, _, _, h => by simp [PyData.eqv] at h
  | .tuple _, .none, _, _, h => by simp [PyData.eqv] at h
  | .tuple _, .int _, _, _, h => by simp [PyData.eqv] at h
  | .tuple _, .str _, _, _, h => by simp [PyData.eqv] at h
  | .bool _, _, h, _, _ => by simp [nb] at h
  | .list _, _, h, _, _ => by simp [nb] at h
  | .dict _, _, h, _, _ => by simp [nb] at h
  | _, .bool _, _, h, _ => by simp [nb] at h
  | _, .list _, _, h, _ => by simp [nb] at h
  | _, .dict _, _, h, _ => by simp [nb] at h
theorem eqvAll_nb : ∀ (ds es : List PyData), nbAll ds = true → nbAll es = true → PyData.eqvAll ds es = true → ds = es
  | [], [], _, _, _ => rfl
  | [], _ :: _, _, _, h => by simp [PyData.eqvAll] at h
  | _ :: _, [], _, _, h => by simp [PyData.eqvAll] at h
  | d :: ds, e :: es, h1, h2, h => by
    simp only [nbAll, Bool.and_eq_true] at h1 h2
    simp only [PyData.eqvAll, Bool.and_eq_true] at h
    rw [eqv_nb d e h1.1 h2.1 h.1, eqvAll_nb ds es h1.2 h2.2 h.2]
end
theorem nbAll_of {ds : List PyData} (h : ∀ d ∈ ds, nb d = true) : nbAll ds = true := by
  induction ds with
  | nil => rfl
  | cons d ds ih => simp only [nbAll, h d List.mem_cons_self, ih fun e he => h e (List.mem_cons_of_mem _ he), Bool.and_self]
/-- an encoding whose values are equal exactly if the data are -/
theorem eqv_dec {α : Type} [DecidableEq α] {f : α → PyData} (hf : ∀ a b, f a = f b → a = b) (hn : ∀ a, nb (f a) = true) (hs : ∀ a, (f a).canLay0 = true) (a b : α) : PyData.eqv (f a) (f b) = decide (a = b) := by
  by_cases h : a = b
  · subst h
    rw [PySem.SeqAt.eqv_refl _ (hs a), decide_eq_true rfl]
  · rw [decide_eq_false h]
    cases q : PyData.eqv (f a) (f b) with
    | false => rfl
    | true => exact absurd (hf a b (eqv_nb _ _ (hn a) (hn b) q)) h
theorem map_inj {α β : Type} {f : α → β} (hf : ∀ a b, f a = f b → a = b) : ∀ {xs ys : List α}, xs.map f = ys.map f → xs = ys
  | [], [], _ => rfl
  | [], _ :: _, h => by simp at h
  | _ :: _, [], h => by simp at h
  | x :: xs, y :: ys, h => by
    simp only [List.map_cons, List.cons.injEq] at h
    rw [hf x y h.1, map_inj hf h.2]
theorem tD_inj (a b : Int × Int) (h : tD a = tD b) : a = b := by
  simp only [tD, PyData.tuple.injEq, List.cons.injEq, PyData.int.injEq, and_true] at h
  exact Prod.ext h.1 h.2
theorem tmD_inj (a b : Tms) (h : tmD a = tmD b) : a = b := by
  simp only [tmD, PyData.tuple.injEq] at h
  exact map_inj tD_inj h
theorem tmD_nb (a : Tms) : nb (tmD a) = true := by
  simp only [tmD, nb]
  exact nbAll_of fun d hd => by
    obtain ⟨z, _, rfl⟩ := List.mem_map.mp hd
    rfl
theorem tmD_eqv (a b : Tms) : PyData.eqv (tmD a) (tmD b) = decide (a = b) := eqv_dec tmD_inj tmD_nb (fun a => (tmD_shp a).lay) a b
/-! ### literals and facts -/
structure Lit where
  v : Int
  r : Rel
  a : Int
  deriving DecidableEq
def Lit.d (l : Lit) : PyData := litD l.v l.r l.a
theorem Rel.s_inj (a b : Rel) (h : a.s = b.s) : a = b := by
  have e : (decide (a = b) || !decide (a.s = b.s)) = true := by
    cases a <;> cases b <;> decide +kernel
  rw [h, decide_eq_true rfl, Bool.not_true, Bool.or_false] at e
  exact of_decide_eq_true e
theorem Lit.d_inj (a b : Lit) (h : a.d = b.d) : a = b := by
  simp only [Lit.d, litD, PyData.tuple.injEq, List.cons.injEq, PyData.int.injEq, PyData.str.injEq, and_true] at h
  obtain ⟨h1, h2, h3⟩ := h
  cases a
  cases b
  simp only at h1 h2 h3
  rw [h1, Rel.s_inj _ _ h2, h3]
theorem Lit.shp (l : Lit) : Shp 1 l.d := .tup (shp_cons (.int _) (shp_cons (.str (Rel.ok _)) (shp_cons (.int _) shp_nil)))
theorem Lit.d_nb (l : Lit) : nb l.d = true := rfl
theorem Lit.eqv (a b : Lit) : PyData.eqv a.d b.d = decide (a = b) := eqv_dec Lit.d_inj Lit.d_nb (fun a => (Lit.shp a).lay) a b
def litsD (ls : List Lit) : PyData := .tuple (ls.map Lit.d)
theorem litsD_shp (ls : List Lit) : Shp 2 (litsD ls) := .tup fun d hd => by
  obtain ⟨z, _, rfl⟩ := List.mem_map.mp hd
  exact Lit.shp z
def Lit.h (l : Lit) (f : Pt) : Bool := l.r.h (f l.v) l.a
theorem lit_mk {K : PySem.W.Frag} {H : Hp} {p : Addr} {v a : Int} {r : Rel} (h : LitAt K H p v r a) : Im K H (.ref p) (Lit.d ⟨v, r, a⟩) := .tup h (.cons (.int _) (.cons (.str _) (.cons (.int _) .nil)))
theorem lit_at {K : PySem.W.Frag} {H : Hp} {x : V} {l : Lit} (h : Im K H x l.d) : ∃ q, x = .ref q ∧ LitAt K H q l.v l.r l.a := by
  obtain ⟨q, rfl⟩ := Im.isRef h
  exact ⟨q, rfl, Im.sq h rfl⟩
theorem room65 {k : Nat} {A : Around} (r : Room k A) : A.units + 65 < cLine := by have := r.un; omega
/-! ### x in a tuple of data -/
section
variable {X : Cx}
def rInDT (K : PySem.W.Frag) : R2 := fun x y H Q => ∃ d ds, Dp K H x d ∧ Dp K H y (.tuple ds) ∧ SeqAt.shaped d = true ∧ SeqAt.shaped (.tuple ds) = true ∧ Q (.bl (ds.any fun z => PyData.eqv z d)) H
theorem cg_inDT (hu : X.A.units + 65 < cLine) : OpR X (compareOp .In) (rInDT X.K) := by
  intro pins s σ H x y v u Q I rx ry h
  obtain ⟨d, ds, hd, he, sd, se, q⟩ := h
  obtain ⟨as, r1⟩ := Dp.reads I d x v hd rx
  obtain ⟨bs, r2⟩ := Dp.reads I (.tuple ds) y u he ry
  exact SeqAt.in_tuple_reads r2 r1 (by have q := SeqAt.canLay_of_shaped se; simpa only [PyData.canLay0] using q) (SeqAt.canLay_of_shaped sd) (PyProof.Rows.room_in_shaped sd hu) ⟨.bl _, H, I, rfl, q⟩
theorem inDT (K : PySem.W.Frag) {k : Nat} {A : Around} (r : Room k A) (h : X.K = K := by rfl) (ha : X.A = A := by rfl) : OpR X (compareOp .In) (rInDT K) := h ▸ cg_inDT (by rw [ha]; exact room65 r)
end
theorem intsD_inj (a b : List Int) (h : intsD a = intsD b) : a = b := by
  simp only [intsD, PyData.tuple.injEq] at h
  exact map_inj (fun x y e => by simpa using e) h
theorem intsD_nb (a : List Int) : nb (intsD a) = true := by
  simp only [intsD, nb]
  exact nbAll_of fun d hd => by
    obtain ⟨z, _, rfl⟩ := List.mem_map.mp hd
    rfl
theorem intsD_shp (a : List Int) : Shp 1 (intsD a) := .tup fun d hd => by
  obtain ⟨z, _, rfl⟩ := List.mem_map.mp hd
  exact .int z
theorem intsD_eqv (a b : List Int) : PyData.eqv (intsD a) (intsD b) = decide (a = b) := eqv_dec intsD_inj intsD_nb (fun a => (intsD_shp a).lay) a b
theorem any_in {α : Type} [DecidableEq α] {d : α → PyData} (hd : ∀ a b, PyData.eqv (d a) (d b) = decide (a = b)) (as : List α) (a : α) : ((as.map d).any fun z => PyData.eqv z (d a)) = decide (a ∈ as) := by
  rw [List.any_map]
  have e : ((fun z => PyData.eqv z (d a)) ∘ d) = fun b => decide (b = a) := by
    funext b
    exact hd b a
  rw [e, Bool.eq_iff_iff]
  simp


/-! ### bodies -/
inductive Body where
  | row (ts : Tms) (r : Rel) (n : Int)
  | any (ls : List Lit)
  | when (l : Lit) (ts : Tms) (r : Rel) (n : Int)
  | diff (us : List Int)
  | table (us : List Int) (rows : List (List Int))
  | elem (x : Int) (es : List Int) (y : Int)
  | times (x y z : Int)
  deriving DecidableEq
def rowsD (rows : List (List Int)) : PyData := .tuple (rows.map intsD)
def Body.d : Body → PyData
  | .row ts r n => .tuple [.str (Str.ofString "row"), tmD ts, .str r.s, .int n]
  | .any ls => .tuple [.str (Str.ofString "any"), litsD ls]
  | .when l ts r n => .tuple [.str (Str.ofString "when"), l.d, tmD ts, .str r.s, .int n]
  | .diff us => .tuple [.str (Str.ofString "different"), intsD us]
  | .table us rows => .tuple [.str (Str.ofString "table"), intsD us, rowsD rows]
  | .elem x es y => .tuple [.str (Str.ofString "element"), .int x, intsD es, .int y]
  | .times x y z => .tuple [.str (Str.ofString "times"), .int x, .int y, .int z]
def Body.vars : Body → List Int
  | .row ts _ _ => ts.map (·.1)
  | .any ls => ls.map (·.v)
  | .when l ts _ _ => l.v :: ts.map (·.1)
  | .diff us => us
  | .table us _ => us
  | .elem x _ y => [x, y]
  | .times x y z => [x, y, z]
def Body.h (f : Pt) : Body → Bool
  | .row ts r n => r.h (sumF ts f) n
  | .any ls => ls.any fun l => l.h f
  | .when l ts r n => !l.h f || r.h (sumF ts f) n
  | .diff us => decide (us.map f).Nodup
  | .table us rows => decide (us.map f ∈ rows)
  | .elem x es y => decide (0 ≤ f x) && (decide (f x < es.length) && decide (es.getD (f x).toNat 0 = f y))
  | .times x y z => decide (f x * f y = f z)
/-- sizes for the walk -/
def Body.bd : Body → Prop
  | .row ts _ _ => tmBd ts ∧ ts.length ≤ 62
  | .any ls => ls.length ≤ 62
  | .when _ ts _ _ => tmBd ts ∧ ts.length ≤ 62
  | .diff us => us.length ≤ 62
  | .table us rows => us.length ≤ 62 ∧ rows.length ≤ 1000
  | .elem _ es _ => es.length ≤ 1000
  | .times _ _ _ => True
theorem any_congr' {α : Type} {as : List α} {f g : α → Bool} (h : ∀ a ∈ as, f a = g a) : as.any f = as.any g := by
  induction as with
  | nil => rfl
  | cons a as ih => rw [List.any_cons, List.any_cons, h a List.mem_cons_self, ih fun b hb => h b (List.mem_cons_of_mem _ hb)]
theorem Body.bd_vars {b : Body} (h : b.bd) : b.vars.length ≤ 63 := by
  cases b <;> simp only [Body.bd, Body.vars, List.length_map, List.length_cons, List.length_nil] at h ⊢ <;> omega
theorem Body.h_congr {b : Body} {f g : Pt} (h : ∀ v ∈ b.vars, f v = g v) : b.h f = b.h g := by
  have m : ∀ us : List Int, (∀ v ∈ us, f v = g v) → us.map f = us.map g := fun us h => List.map_congr_left h
  have s : ∀ ts : Tms, (∀ v ∈ ts.map (·.1), f v = g v) → sumF ts f = sumF ts g := fun ts h => sumF_congr fun z hz => h _ (List.mem_map.mpr ⟨z, hz, rfl⟩)
  cases b with
  | row ts r n => simp only [Body.h, s ts h]
  | any ls =>
    simp only [Body.h]
    refine any_congr' fun l hl => ?_
    simp only [Lit.h, h l.v (List.mem_map.mpr ⟨l, hl, rfl⟩)]
  | when l ts r n =>
    simp only [Body.h, Lit.h, h l.v List.mem_cons_self, s ts fun v hv => h v (List.mem_cons_of_mem _ hv)]
  | diff us => simp only [Body.h, m us h]
  | table us rows => simp only [Body.h, m us h]
  | elem x es y => simp only [Body.h, h x (by simp [Body.vars]), h y (by simp [Body.vars])]
  | times x y z => simp only [Body.h, h x (by simp [Body.vars]), h y (by simp [Body.vars]), h z (by simp [Body.vars])]
theorem rowsD_shp (rows : List (List Int)) : Shp 2 (rowsD rows) := .tup fun d hd => by
  obtain ⟨z, _, rfl⟩ := List.mem_map.mp hd
  exact intsD_shp z
theorem Body.shp (b : Body) : Shp 3 b.d := by
  have t1 : ∀ ts, Shp 2 (tmD ts) := tmD_shp
  cases b with
  | row ts r n => exact .tup (shp_cons (.str (by decide +kernel)) (shp_cons (tmD_shp ts) (shp_cons (.str (Rel.ok r)) (shp_cons (.int _) shp_nil))))
  | any ls => exact .tup (shp_cons (.str (by decide +kernel)) (shp_cons (litsD_shp ls) shp_nil))
  | when l ts r n => exact .tup (shp_cons (.str (by decide +kernel)) (shp_cons ((Lit.shp l).mono (by decide)) (shp_cons (tmD_shp ts) (shp_cons (.str (Rel.ok r)) (shp_cons (.int _) shp_nil)))))
  | diff us => exact .tup (shp_cons (.str (by decide +kernel)) (shp_cons ((intsD_shp us).mono (by decide)) shp_nil))
  | table us rows => exact .tup (shp_cons (.str (by decide +kernel)) (shp_cons ((intsD_shp us).mono (by decide)) (shp_cons (rowsD_shp rows) shp_nil)))
  | elem x es y => exact .tup (shp_cons (.str (by decide +kernel)) (shp_cons (.int _) (shp_cons ((intsD_shp es).mono (by decide)) (shp_cons (.int _) shp_nil))))
  | times x y z => exact .tup (shp_cons (.str (by decide +kernel)) (shp_cons (.int _) (shp_cons (.int _) (shp_cons (.int _) shp_nil))))
abbrev BodyAt (K : PySem.W.Frag) (H : Hp) (p : Addr) (b : Body) : Prop := Im K H (.ref p) b.d
theorem ImAll.c {K : PySem.W.Frag} {H : Hp} {xs : List V} {d : PyData} {ds : List PyData} (h : ImAll K H xs (d :: ds)) : ∃ x ys, xs = x :: ys ∧ Im K H x d ∧ ImAll K H ys ds := by
  cases h with
  | cons h a => exact ⟨_, _, rfl, h, a⟩
theorem ImAll.n {K : PySem.W.Frag} {H : Hp} {xs : List V} (h : ImAll K H xs []) : xs = [] := by
  cases h
  rfl
section
variable {K : PySem.W.Frag} {H : Hp} {p : Addr} {ts : Tms} {n x y z : Int} {ls : List Lit} {l : Lit} {r : Rel} {us es : List Int} {rows : List (List Int)}
theorem b_row (h : BodyAt K H p (.row ts r n)) : ∃ q, SqT K H p [.str (Str.ofString "row"), .ref q, .str r.s, .int n] ∧ Im K H (.ref q) (tmD ts) := by
  obtain ⟨_, h1, h2⟩ := Im.open h
  obtain ⟨_, _, rfl, a1, h2⟩ := h2.c
  obtain ⟨_, _, rfl, a2, h2⟩ := h2.c
  obtain ⟨_, _, rfl, a3, h2⟩ := h2.c
  obtain ⟨_, _, rfl, a4, h2⟩ := h2.c
  obtain rfl := h2.n
  obtain ⟨q, rfl⟩ := a2.isRef
  cases a1; cases a3; cases a4
  exact ⟨q, h1, a2⟩
theorem b_any (h : BodyAt K H p (.any ls)) : ∃ q, SqT K H p [.str (Str.ofString "any"), .ref q] ∧ Im K H (.ref q) (litsD ls) := by
  obtain ⟨_, h1, h2⟩ := Im.open h
  obtain ⟨_, _, rfl, a1, h2⟩ := h2.c
  obtain ⟨_, _, rfl, a2, h2⟩ := h2.c
  obtain rfl := h2.n
  obtain ⟨q, rfl⟩ := a2.isRef
  cases a1
  exact ⟨q, h1, a2⟩
theorem b_when (h : BodyAt K H p (.when l ts r n)) : ∃ q1 q, SqT K H p [.str (Str.ofString "when"), .ref q1, .ref q, .str r.s, .int n] ∧ LitAt K H q1 l.v l.r l.a ∧ Im K H (.ref q) (tmD ts) := by
  obtain ⟨_, h1, h2⟩ := Im.open h
  obtain ⟨_, _, rfl, a1, h2⟩ := h2.c
  obtain ⟨_, _, rfl, a0, h2⟩ := h2.c
  obtain ⟨_, _, rfl, a2, h2⟩ := h2.c
  obtain ⟨_, _, rfl, a3, h2⟩ := h2.c
  obtain ⟨_, _, rfl, a4, h2⟩ := h2.c
  obtain rfl := h2.n
  obtain ⟨q, rfl⟩ := a2.isRef
  obtain ⟨q1, rfl, L⟩ := lit_at a0
  cases a1; cases a3; cases a4
  exact ⟨q1, q, h1, L, a2⟩
theorem b_diff (h : BodyAt K H p (.diff us)) : ∃ q, SqT K H p [.str (Str.ofString "different"), .ref q] ∧ SqT K H q (us.map V.int) := by
  obtain ⟨_, h1, h2⟩ := Im.open h
  obtain ⟨_, _, rfl, a1, h2⟩ := h2.c
  obtain ⟨_, _, rfl, a2, h2⟩ := h2.c
  obtain rfl := h2.n
  obtain ⟨q, rfl⟩ := a2.isRef
  cases a1
  exact ⟨q, h1, a2.intsT⟩
theorem b_table (h : BodyAt K H p (.table us rows)) : ∃ q q2, SqT K H p [.str (Str.ofString "table"), .ref q, .ref q2] ∧ SqT K H q (us.map V.int) ∧ Im K H (.ref q2) (rowsD rows) := by
  obtain ⟨_, h1, h2⟩ := Im.open h
  obtain ⟨_, _, rfl, a1, h2⟩ := h2.c
  obtain ⟨_, _, rfl, a2, h2⟩ := h2.c
  obtain ⟨_, _, rfl, a3, h2⟩ := h2.c
  obtain rfl := h2.n
  obtain ⟨q, rfl⟩ := a2.isRef
  obtain ⟨q2, rfl⟩ := a3.isRef
  cases a1
  exact ⟨q, q2, h1, a2.intsT, a3⟩
theorem b_elem (h : BodyAt K H p (.elem x es y)) : ∃ q, SqT K H p [.str (Str.ofString "element"), .int x, .ref q, .int y] ∧ SqT K H q (es.map V.int) := by
  obtain ⟨_, h1, h2⟩ := Im.open h
  obtain ⟨_, _, rfl, a1, h2⟩ := h2.c
  obtain ⟨_, _, rfl, a3, h2⟩ := h2.c
  obtain ⟨_, _, rfl, a2, h2⟩ := h2.c
  obtain ⟨_, _, rfl, a4, h2⟩ := h2.c
  obtain rfl := h2.n
  obtain ⟨q, rfl⟩ := a2.isRef
  cases a1; cases a3; cases a4
  exact ⟨q, h1, a2.intsT⟩
theorem b_times (h : BodyAt K H p (.times x y z)) : SqT K H p [.str (Str.ofString "times"), .int x, .int y, .int z] := Im.sq h rfl
end
/-- a list of ints built by hand at l -/
def spUnkn (K : PySem.W.Frag) : Sp := fun vs H Q _ => ∃ (p : Addr) (b : Body), vs = [.ref p] ∧ BodyAt K H p b ∧ b.bd ∧ ∀ (l : Addr) (ns : List Int) (H' : Hp), H l = none → H' l = some (.lst (ns.map V.int)) → ns.Pairwise (· < ·) → (∀ k, k ∈ ns ↔ k ∈ b.vars) → Kp [] H H' → Q (.ref l) H'
def ptBd (f : Pt) (dom : Int → Prop) : Prop := ∀ v, dom v → -1000000000000 < f v ∧ f v < 1000000000000
def spHolds (K : PySem.W.Frag) : Sp := fun vs H Q _ => ∃ (p q : Addr) (b : Body) (f : Pt) (dom : Int → Prop), vs = [.ref p, .ref q] ∧ BodyAt K H p b ∧ b.bd ∧ PtAt K H q f dom ∧ ptBd f dom ∧ (∀ v ∈ b.vars, dom v) ∧ ∀ H', Kp [] H H' → Q (.bl (b.h f)) H'
def rCatL (K : PySem.W.Frag) : R2 := fun x y H Q => ∃ l b xs zs, x = .ref l ∧ y = .ref b ∧ H l = some (.lst xs) ∧ H b = some (.lst zs) ∧ xs.length + zs.length ≤ 10000 ∧ ∀ p H2, H p = none → H2 p = some (.lst (xs ++ zs)) → Kp [] H H2 → Q (.ref p) H2
theorem op_catL {X : Cx} (K : PySem.W.Frag) : OpR X (binaryOp .Add) (rCatL K) := fun pins s σ H x y v u Q I rx ry ⟨l, b, xs, zs, e1, e2, h1, h2, hz, q⟩ =>
  op_cat pins s σ H x y v u Q I rx ry ⟨l, b, xs, zs, e1, e2, h1, h2, by rw [sizeLine_eq]; omega, fun p hp => q p _ hp upd_same (Kp.new hp)⟩
theorem r_cat {K : PySem.W.Frag} {H : Hp} {Q : VK} {l b : Addr} {xs zs : List V} (h1 : H l = some (.lst xs)) (h2 : H b = some (.lst zs)) (hz : xs.length + zs.length ≤ 10000) (q : ∀ p H2, H p = none → H2 p = some (.lst (xs ++ zs)) → Kp [] H H2 → Q (.ref p) H2) : rCatL K (.ref l) (.ref b) H Q :=
  ⟨l, b, xs, zs, rfl, rfl, h1, h2, hz, q⟩

/-! ### the numbers of a range that are in a list -/
theorem sorted_ext : ∀ {xs ys : List Int}, xs.Pairwise (· < ·) → ys.Pairwise (· < ·) → (∀ k, k ∈ xs ↔ k ∈ ys) → xs = ys
  | [], [], _, _, _ => rfl
  | [], y :: ys, _, _, h => by simpa using (h y).2 List.mem_cons_self
  | x :: xs, [], _, _, h => by simpa using (h x).1 List.mem_cons_self
  | x :: xs, y :: ys, h1, h2, h => by
    rw [List.pairwise_cons] at h1 h2
    have e : x = y := by
      rcases List.mem_cons.mp ((h x).1 List.mem_cons_self) with q | q
      · exact q
      · rcases List.mem_cons.mp ((h y).2 List.mem_cons_self) with q2 | q2
        · exact q2.symm
        · have a := h1.1 _ q2
          have b := h2.1 _ q
          omega
    subst e
    rw [sorted_ext h1.2 h2.2 fun k => ?_]
    constructor
    · intro hk
      rcases List.mem_cons.mp ((h k).1 (List.mem_cons_of_mem _ hk)) with q | q
      · subst q
        exact absurd (h1.1 _ hk) (Int.lt_irrefl _)
      · exact q
    · intro hk
      rcases List.mem_cons.mp ((h k).2 (List.mem_cons_of_mem _ hk)) with q | q
      · subst q
        exact absurd (h2.1 _ hk) (Int.lt_irrefl _)
      · exact q
def numsOf (us : List Int) (i : Nat) : List Int := ((List.range i).map Int.ofNat).filter fun v => decide (v ∈ us)
theorem numsOf_succ (us : List Int) (i : Nat) : numsOf us (i + 1) = numsOf us i ++ (if decide (((i : Nat) : Int) ∈ us) = true then [((i : Nat) : Int)] else []) := by
  unfold numsOf
  rw [List.range_succ, List.map_append, List.filter_append]
  congr 1
  simp only [List.map_cons, List.map_nil, List.filter_cons, List.filter_nil]
  rfl
theorem numsOf_le (us : List Int) (i : Nat) : (numsOf us i).length ≤ i := by
  have q := List.length_filter_le (fun v => decide (v ∈ us)) ((List.range i).map Int.ofNat)
  rw [List.length_map, List.length_range] at q
  exact q
theorem numsOf_mem {us : List Int} {i : Nat} {k : Int} : k ∈ numsOf us i ↔ (0 ≤ k ∧ k < i) ∧ k ∈ us := by
  unfold numsOf
  rw [List.mem_filter, List.mem_map]
  simp only [decide_eq_true_eq, List.mem_range]
  constructor
  · rintro ⟨⟨j, hj, rfl⟩, h⟩
    exact ⟨⟨Int.natCast_nonneg j, by show (j : Int) < i; omega⟩, h⟩
  · rintro ⟨⟨h0, h1⟩, h⟩
    exact ⟨⟨k.toNat, by omega, by show ((k.toNat : Nat) : Int) = k; omega⟩, h⟩
theorem numsOf_asc (us : List Int) (i : Nat) : (numsOf us i).Pairwise (· < ·) := by
  refine List.Pairwise.filter _ ?_
  rw [List.pairwise_map]
  exact List.pairwise_lt_range.imp fun {a b} h => by show (a : Int) < b; omega
theorem intsL_dp {K : PySem.W.Frag} {H : Hp} {l : Addr} {ns : List Int} (h : H l = some (.lst (ns.map V.int))) : Dp K H (.ref l) (.list (ns.map PyData.int)) := .lst (SqL.of h) (imInts ns).dp
theorem intsL_shp (ns : List Int) : Shp 1 (.list (ns.map PyData.int)) := .list fun d hd => by
  obtain ⟨z, _, rfl⟩ := List.mem_map.mp hd
  exact .int z

/-! ### bodies that fit; the law's own -/
def litFit (m : Int) (l : Lit) : Prop := 0 ≤ l.v ∧ l.v < m ∧ -1001 ≤ l.a ∧ l.a ≤ 1001
def tmFit (m : Int) (ts : Tms) : Prop := ts.length ≤ 60 ∧ (ts.map (·.1)).Pairwise (· < ·) ∧ ∀ z ∈ ts, 0 ≤ z.1 ∧ z.1 < m ∧ z.2 ≠ 0 ∧ -1000000 ≤ z.2 ∧ z.2 ≤ 1000000
def numFit (m : Int) (us : List Int) : Prop := us.Nodup ∧ ∀ u ∈ us, 0 ≤ u ∧ u < m
def entFit (es : List Int) : Prop := ∀ e ∈ es, -1000 ≤ e ∧ e ≤ 1000
def linFit (m : Int) (ts : Tms) (r : Rel) (n : Int) : Prop := tmFit m ts ∧ r ≠ .ne ∧ -1000000000 ≤ n ∧ n ≤ 1000000000
def Body.fit (m : Int) : Body → Prop
  | .row ts r n => linFit m ts r n
  | .any ls => (1 ≤ ls.length ∧ ls.length ≤ 40) ∧ ls.Nodup ∧ ∀ l ∈ ls, litFit m l
  | .when l ts r n => litFit m l ∧ linFit m ts r n
  | .diff us => (2 ≤ us.length ∧ us.length ≤ 20) ∧ numFit m us
  | .table us rows => ((1 ≤ us.length ∧ us.length ≤ 6) ∧ numFit m us) ∧ (1 ≤ rows.length ∧ rows.length ≤ 200) ∧ ∀ r ∈ rows, r.length = us.length ∧ entFit r
  | .elem x es y => ((0 ≤ x ∧ x < m) ∧ (0 ≤ y ∧ y < m)) ∧ (1 ≤ es.length ∧ es.length ≤ 60) ∧ entFit es
  | .times x y z => (0 ≤ x ∧ x < m) ∧ (0 ≤ y ∧ y < m) ∧ (0 ≤ z ∧ z < m)
theorem tmFit.bd {m : Int} {ts : Tms} (h : tmFit m ts) : tmBd ts := fun z hz => by
  have q := h.2.2 z hz
  omega
theorem Body.fit_bd {m : Int} {b : Body} (h : b.fit m) : b.bd := by
  cases b with
  | row ts r n => exact ⟨h.1.bd, by have := h.1.1; omega⟩
  | any ls => exact (show ls.length ≤ 62 by have := h.1.2; omega)
  | when l ts r n => exact ⟨h.2.1.bd, by have := h.2.1.1; omega⟩
  | diff us => exact (show us.length ≤ 62 by have := h.1.2; omega)
  | table us rows => exact ⟨by have := h.1.1.2; omega, by have := h.2.1.2; omega⟩
  | elem x es y => exact (show es.length ≤ 1000 by have := h.2.1.2; omega)
  | times x y z => trivial
theorem Body.fit_vars {m : Int} {b : Body} (h : b.fit m) : ∀ v ∈ b.vars, 0 ≤ v ∧ v < m := by
  have t : ∀ ts, tmFit m ts → ∀ v ∈ ts.map (fun z : Int × Int => z.1), 0 ≤ v ∧ v < m := fun ts h v hv => by
    obtain ⟨z, hz, rfl⟩ := List.mem_map.mp hv
    have q := h.2.2 z hz
    exact ⟨q.1, q.2.1⟩
  cases b with
  | row ts r n => exact t ts h.1
  | any ls =>
    intro v hv
    obtain ⟨l, hl, rfl⟩ := List.mem_map.mp hv
    have q := h.2.2 l hl
    exact ⟨q.1, q.2.1⟩
  | when l ts r n =>
    intro v hv
    rcases List.mem_cons.mp hv with rfl | hv
    · exact ⟨h.1.1, h.1.2.1⟩
    · exact t ts h.2.1 v hv
  | diff us => exact h.2.2
  | table us rows => exact h.1.2.2
  | elem x es y =>
    intro v hv
    simp only [Body.vars, List.mem_cons, List.not_mem_nil, or_false] at hv
    rcases hv with rfl | rfl
    · exact h.1.1
    · exact h.1.2
  | times x y z =>
    intro v hv
    simp only [Body.vars, List.mem_cons, List.not_mem_nil, or_false] at hv
    rcases hv with rfl | rfl | rfl
    · exact h.1
    · exact h.2.1
    · exact h.2.2
/-- the law's terms: small -/
def tmLaw (m : Int) (ts : Tms) : Prop := (∀ z ∈ ts, 0 ≤ z.1 ∧ z.1 < m ∧ z.2 ≠ 0 ∧ -3 ≤ z.2 ∧ z.2 ≤ 3) ∧ (ts.map (·.1)).Pairwise (· < ·) ∧ (ts.length : Int) ≤ m
theorem tmLaw.fit {m : Int} {ts : Tms} (h : tmLaw m ts) (hm : m ≤ 60) : tmFit m ts := ⟨by have := h.2.2; omega, h.2.1, fun z hz => by have q := h.1 z hz; omega⟩
def spLawTerms (K : PySem.W.Frag) : Sp := fun vs H Q _ => ∃ (t c : Addr) (m : Int), vs = [.ref t, .int m] ∧ Tp t c H ∧ 0 ≤ m ∧ m ≤ 60 ∧ ∀ (p : Addr) (ts : Tms) (H' : Hp), Im K H' (.ref p) (tmD ts) → tmLaw m ts → Tp t c H' → Kp [t] H H' → Q (.ref p) H'
def spLawLiteral (K : PySem.W.Frag) : Sp := fun vs H Q _ => ∃ (t c : Addr) (m : Int), vs = [.ref t, .int m] ∧ Tp t c H ∧ 1 ≤ m ∧ m ≤ 60 ∧ ∀ (p : Addr) (l : Lit) (H' : Hp), LitAt K H' p l.v l.r l.a → litFit m l → Tp t c H' → Kp [t] H H' → Q (.ref p) H'
def spLawSome (K : PySem.W.Frag) : Sp := fun vs H Q _ => ∃ (t c : Addr) (m k : Int), vs = [.ref t, .int m, .int k] ∧ Tp t c H ∧ 0 ≤ k ∧ k ≤ m ∧ m ≤ 60 ∧ ∀ (p : Addr) (us : List Int) (H' : Hp), SqT K H' p (us.map V.int) → numFit m us → k ≤ us.length → (us.length : Int) ≤ m → Tp t c H' → Kp [t] H H' → Q (.ref p) H'
def spLawBody (K : PySem.W.Frag) : Sp := fun vs H Q _ => ∃ (t c : Addr) (m : Int), vs = [.ref t, .int m] ∧ Tp t c H ∧ 1 ≤ m ∧ m ≤ 20 ∧ ∀ (p : Addr) (b : Body) (H' : Hp), BodyAt K H' p b → b.fit m → Tp t c H' → Kp [t] H H' → Q (.ref p) H'
theorem notInDL {X : Cx} (K : PySem.W.Frag) {k : Nat} {A : Around} (r : Room k A) (h : X.K = K := by rfl) (ha : X.A = A := by rfl) : OpR X (compareOp .NotIn) (rNotInD K) := h ▸ op_notInD (by rw [ha]; exact room65 r)
theorem inDL {X : Cx} (K : PySem.W.Frag) {k : Nat} {A : Around} (r : Room k A) (h : X.K = K := by rfl) (ha : X.A = A := by rfl) : OpR X (compareOp .In) (rInD K) := h ▸ op_inD (by rw [ha]; exact room65 r)
theorem slA {X : Cx} (K : PySem.W.Frag) (h : X.K = K := by rfl) : SlR X (rSlA K) := h ▸ sl_tupA
theorem cut_to {xs : List V} {n : Nat} : cutV xs none (some (n : Int)) = xs.take n := by
  unfold cutV
  rw [HT.sIx_nat, HT.sIx_none, List.drop_zero, Nat.sub_zero]
  by_cases h : n ≤ xs.length
  · rw [Nat.min_eq_left h]
  · rw [Nat.min_eq_right (by omega), List.take_of_length_le (Nat.le_refl _), List.take_of_length_le (by omega)]
/-- t[:n] -/
theorem r_slA {K : PySem.W.Frag} {H : Hp} {Q : VK} {p : Addr} {xs : List V} {n : Nat} (h : SqT K H p xs) (q : ∀ l H2, SqT K H2 l (xs.take n) → Kp [] H H2 → Q (.ref l) H2) : rSlA K (.ref p) none (some (n : Int)) H Q := by
  refine ⟨p, xs, rfl, h, fun e => ?_, fun _ l hl => ?_⟩
  · have e2 := e.2
    rw [HT.sIx_nat] at e2
    refine q p H ?_ .refl
    rw [List.take_of_length_le (by omega)]
    exact h
  · rw [cut_to]
    exact q l _ (SqT.of upd_same) (Kp.new hl)
/-- the ints of a range -/
def rgI (a b : Int) : List Int := (List.range (b - a).toNat).map fun i => a + ((i : Nat) : Int)
theorem rgV_eq (a b : Int) : rgV a b = (rgI a b).map V.int := by
  unfold rgV rgI
  rw [List.map_map]
  rfl
theorem rgI_mem {a b k : Int} : k ∈ rgI a b ↔ a ≤ k ∧ k < b := by
  unfold rgI
  rw [List.mem_map]
  constructor
  · rintro ⟨i, hi, rfl⟩
    rw [List.mem_range] at hi
    omega
  · intro h
    exact ⟨(k - a).toNat, by rw [List.mem_range]; omega, by omega⟩
theorem rgI_asc (a b : Int) : (rgI a b).Pairwise (· < ·) := by
  unfold rgI
  rw [List.pairwise_map]
  exact List.pairwise_lt_range.imp fun {a b} h => by omega
theorem rgI_len (a b : Int) : (rgI a b).length = (b - a).toNat := by
  unfold rgI
  rw [List.length_map, List.length_range]
def lstRg (a b : Int) (H : Hp) (Q : VK) : Prop := RgOk a b ∧ ∀ q, H q = none → Q (.ref q) (upd H q (.lst (rgV a b)))
instance s_lstRg {te : St → Hp → (Int → Int → Hp → Prop) → Prop} {σ : St} {H : Hp} {Q : VK} : Stp (tLstRg te σ H Q) (te σ H fun a b H1 => lstRg a b H1 Q) := ⟨id⟩
instance s_rg1 {ta : TE} {σ : St} {H : Hp} {R : Int → Int → Hp → Prop} : Stp (tRg1 ta σ H R) (ta σ H fun x H1 => asI x fun n => R 0 n H1) := ⟨id⟩
def asI2 (x y : V) (R : Int → Int → Prop) : Prop := ∃ i j, x = .int i ∧ y = .int j ∧ R i j
instance s_asI2 {i j : Int} {R : Int → Int → Prop} : Stp (asI2 (.int i) (.int j) R) (R i j) := ⟨fun h => ⟨i, j, rfl, rfl, h⟩⟩
instance s_rg2 {ta tb : TE} {σ : St} {H : Hp} {R : Int → Int → Hp → Prop} : Stp (tRg2 ta tb σ H R) (ta σ H fun x H1 => tb σ H1 fun y H2 => asI2 x y fun i j => R i j H2) := ⟨id⟩
theorem r_lstRg {a b : Int} {H : Hp} {Q : VK} (h0 : -1000000 ≤ a ∧ a ≤ 1000000) (h1 : -1000000 ≤ b ∧ b ≤ 1000000) (q : ∀ l H2, H l = none → H2 l = some (.lst ((rgI a b).map V.int)) → Kp [] H H2 → Q (.ref l) H2) : lstRg a b H Q :=
  ⟨⟨by omega, by omega, by omega, by omega, by omega⟩, fun l hl => q l _ hl (by rw [← rgV_eq]; exact upd_same) (Kp.new hl)⟩
theorem erase_map {α β : Type} (f : α → β) : ∀ (xs : List α) (k : Nat), (xs.map f).eraseIdx k = (xs.eraseIdx k).map f
  | [], _ => rfl
  | _ :: _, 0 => rfl
  | x :: xs, k + 1 => by
    show f x :: (xs.map f).eraseIdx k = f x :: (xs.eraseIdx k).map f
    rw [erase_map f xs k]
theorem erase_perm {α : Type} : ∀ (xs : List α) (k : Nat) (y : α), xs[k]? = some y → (y :: xs.eraseIdx k).Perm xs
  | [], _, _, h => by simp at h
  | x :: xs, 0, y, h => by
    simp at h
    subst h
    exact .refl _
  | x :: xs, k + 1, y, h => by
    rw [List.getElem?_cons_succ] at h
    exact (List.Perm.swap x y (xs.eraseIdx k)).trans ((erase_perm xs k y h).cons x)
theorem some_step {base fs rs : List Int} {k : Nat} {y : Int} (h : (fs ++ rs).Perm base) (e : rs[k]? = some y) : ((fs ++ [y]) ++ rs.eraseIdx k).Perm base := by
  refine List.Perm.trans ?_ h
  rw [List.append_assoc]
  exact (erase_perm rs k y e).append_left fs

/-! ### the law's own reading of a body -/
def spLawLit (K : PySem.W.Frag) : Sp := fun vs H Q _ => ∃ (p q : Addr) (l : Lit) (f : Pt) (dom : Int → Prop), vs = [.ref p, .ref q] ∧ LitAt K H p l.v l.r l.a ∧ PtAt K H q f dom ∧ dom l.v ∧ Q (.bl (l.h f)) H
theorem inV_ints_t (v : Int) (us : List Int) : (if false = true then !inV (.int v) (us.map V.int) else inV (.int v) (us.map V.int)) = decide (v ∈ us) := by
  rw [if_neg (by decide), inV_ints]

/-! ### a <= b <= c <= d -/
def tChain3 (r r' r2 : R2) (ta tb tc td : TE) : TE := fun σ H Q => ta σ H fun x H1 => tb σ H1 fun y H2 => r x y H2 fun z H3 => asB z fun k => iteP k (tc σ H3 fun u H4 => r' y u H4 fun z2 H5 => asB z2 fun k2 => iteP k2 (td σ H5 fun v H6 => r2 u v H6 Q) (Q (.bl false) H5)) (Q (.bl false) H3)
open PySem.Spec PyProof.Rows in
theorem pe_chain3 {X : Cx} {a b c d : Expr} {ta tb tc td : TE} {pos : Pos} {op op' op2 : CmpOp} {r r' r2 : R2} (ho : OpR X (compareOp op) r) (ho' : OpR X (compareOp op') r') (ho2 : OpR X (compareOp op2) r2) (ha : PE X a ta) (hb : PE X b tb) (hc : PE X c tc) (hd : PE X d td)
    (hm : lastMarks [op, op', op2] [b, c, d] = false := by with_unfolding_all rfl) : PE X (.Compare a [op, op', op2] [b, c, d] pos) (tChain3 r r' r2 ta tb tc td) := by
  refine ⟨fun pins s σ H Q I h => ?_⟩
  refine Compare_chain (thn (ha.run pins s σ H _ I h) fun v s1 ⟨x, H1, I1, r1, q1⟩ => chain_link (thn (hb.run pins s1 σ H1 _ I1 q1) fun u s2 ⟨y, H2, I2, w2, q2⟩ =>
    thn (ho pins s2 σ H2 x y v u _ I2 r1 w2 q2) fun z0 s3 ⟨z, H3, I3, r3, k, e, q3⟩ => ?_)) hm
  subst e
  cases r3
  refine wpAny_truthy_bool ?_
  cases k with
  | false => exact ite_ff ⟨.bl false, H3, I3, rfl, q3⟩
  | true =>
    refine ite_tt (chain_link (thn (hc.run pins s3 σ H3 _ I3 q3) fun v4 s4 ⟨y4, H4, I4, r4, q4⟩ => thn (ho' pins s4 σ H4 y y4 u v4 _ I4 w2 r4 q4) fun z5 s5 ⟨z6, H5, I5, r5, k2, e2, q5⟩ => ?_))
    subst e2
    cases r5
    refine wpAny_truthy_bool ?_
    cases k2 with
    | false => exact ite_ff ⟨.bl false, H5, I5, rfl, q5⟩
    | true => exact ite_tt (chain_last (thn (hd.run pins s5 σ H5 _ I5 q5) fun v7 s7 ⟨y7, H7, I7, r7, q7⟩ => ho2 pins s7 σ H7 y4 y7 v4 v7 Q I7 r4 r7 q7))
instance s_chain3 {r r' r2 : R2} {ta tb tc td : TE} {σ : St} {H : Hp} {Q : VK} : Stp (tChain3 r r' r2 ta tb tc td σ H Q) (ta σ H fun x H1 => tb σ H1 fun y H2 => r x y H2 fun z H3 => asB z fun k => iteP k (tc σ H3 fun u H4 => r' y u H4 fun z2 H5 => asB z2 fun k2 => iteP k2 (td σ H5 fun v H6 => r2 u v H6 Q) (Q (.bl false) H5)) (Q (.bl false) H3)) := ⟨id⟩
/-! ### own classes -/
structure IsM (P : Program) (w : World) (K : PySem.W.Frag) (mg : Str → Option Value) (base : Heap) (CX : CXT) (k : Nat) (C : Addr) (m : Str) (ps : List Str) (sp : Sp) : Prop where
  ex : ∃ (f : Addr) (fd : FuncData), FnOk P w K mg base CX k f fd ps sp ∧ Meth K C m f ∧ Binds K fd ps []
  cl : Cls K C
structure IsI (P : Program) (w : World) (K : PySem.W.Frag) (mg : Str → Option Value) (base : Heap) (CX : CXT) (k : Nat) (C : Addr) (x : Str) (ps : List Str) (sp : Sp) : Prop where
  ex : ∃ (f : Addr) (fd : FuncData), FnOk P w K mg base CX k f fd ps sp ∧ Mk K C f ∧ Binds K fd ps [] ∧ mg x = some (.ref C)
def mtS (C : Addr) (m : Str) (x : V) (H : Hp) (R : Prop) : Prop := ∃ a dx fs, x = .ref a ∧ H a = some (.ins C dx fs) ∧ fs.lookup m = none ∧ R
def mkS (C : Addr) (sp : Sp) (E : XK) (vs : List V) (H1 : Hp) (Q : VK) : Prop := ∀ x dx, H1 x = none → H1 dx = none → dx ≠ x → sp (.ref x :: (vs ++ [])) (upd (upd H1 dx (.own x)) x (.ins C dx [])) (fun v H2 => v = .non ∧ Q (.ref x) H2) E
def fldS (K : PySem.W.Frag) (f : Str) (x : V) (H : Hp) (Q : VK) : Prop := ∃ a C dx fs v, x = .ref a ∧ H a = some (.ins C dx fs) ∧ Cls K C ∧ NoAttr K C f ∧ fs.lookup f = some v ∧ Q v H
def setF (K : PySem.W.Frag) (f : Str) (x y : V) (H2 : Hp) (R : Hp → Prop) : Prop := ∃ a C dx fs, x = .ref a ∧ H2 a = some (.ins C dx fs) ∧ Cls K C ∧ NoAttr K C f ∧ fs.length < 1000 ∧ R (upd H2 a (.ins C dx (putF f y fs)))
def newD (H : Hp) (Q : VK) : Prop := ∀ p, H p = none → Q (.ref p) (upd H p (.dK []))
def inDk (x y : V) (H : Hp) (Q : VK) : Prop := ∃ a o, x = .ref a ∧ DGet H a y o ∧ Q (.bl o.isSome) H
def putD (x y v : V) (H3 : Hp) (R : Hp → Prop) : Prop := ∃ a H4, x = .ref a ∧ DPut H3 a y v H4 ∧ R H4
section
variable {K : PySem.W.Frag} {C : Addr} {m f : Str} {sp : Sp} {E : XK} {ta tv td ty : TE} {t : TA} {σ : St} {H : Hp} {Q : VK} {a dx : Addr} {fs : List (Str × V)} {v x y : V} {nx bk ct : St → Hp → Prop} {rt : VK} {R : Hp → Prop}
instance s_meth : Stp (tMeth C m sp [] E ta t σ H Q) (ta σ H fun x H1 => mtS C m x H1 (t σ H1 fun vs H2 => sp (x :: vs) H2 Q E)) := ⟨fun h => by
  unfold tMeth
  simp only [List.append_nil]
  exact h⟩
theorem r_mt {R : Prop} (h : H a = some (.ins C dx fs)) (l : fs.lookup m = none) (q : R) : mtS C m (.ref a) H R := ⟨a, dx, fs, rfl, h, l, q⟩
instance s_make : Stp (tMake C sp [] E t σ H Q) (t σ H fun vs H1 => mkS C sp E vs H1 Q) := ⟨id⟩
theorem r_make {vs : List V} (q : ∀ x dx H2, H x = none → H2 x = some (.ins C dx []) → Kp [] H H2 → sp (.ref x :: vs) H2 (fun v H3 => v = .non ∧ Q (.ref x) H3) E) : mkS C sp E vs H Q := fun x dx nx ndx ne => by
  rw [List.append_nil]
  exact q x dx _ nx upd_same ⟨fun b o _ h => by rw [upd_ne (ne_of_none h nx), upd_ne (ne_of_none h ndx)]; exact h, fun _ h => nomatch h⟩
instance s_fld : Stp (tFld K ta f σ H Q) (ta σ H fun x H1 => fldS K f x H1 Q) := ⟨id⟩
theorem r_fld (h : H a = some (.ins C dx fs)) (c : Cls K C) (n : NoAttr K C f) (l : fs.lookup f = some v) (q : Q v H) : fldS K f (.ref a) H Q := ⟨a, C, dx, fs, v, rfl, h, c, n, l, q⟩
instance s_sfld : Stp (sFld K ta tv f ⟨nx, rt, bk, ct⟩ σ H) (tv σ H fun y H1 => ta σ H1 fun x H2 => setF K f x y H2 fun H3 => nx σ H3) := ⟨id⟩
theorem r_setF (h : H a = some (.ins C dx fs)) (c : Cls K C) (n : NoAttr K C f) (few : fs.length < 1000) (q : ∀ H2, H2 a = some (.ins C dx (putF f y fs)) → Kp [a] H H2 → R H2) : setF K f (.ref a) y H R :=
  ⟨a, C, dx, fs, rfl, h, c, n, few, q _ upd_same (Kp.put h trivial)⟩
instance s_dnew : Stp (tDNewK σ H Q) (newD H Q) := ⟨id⟩
theorem r_newD (q : ∀ p H2, H p = none → H2 p = some (.dK []) → Kp [] H H2 → Q (.ref p) H2) : newD H Q := fun p hp => q p _ hp upd_same (Kp.new hp)
instance s_dIn : Stp (tDIn ty td σ H Q) (ty σ H fun y H1 => td σ H1 fun x H2 => inDk x y H2 Q) := ⟨id⟩
theorem r_inDk {kvs : List (Key × V)} {k : Key} {o : Option V} (h : H a = some (.dK kvs)) (e : valV kvs k = o) (q : Q (.bl o.isSome) H) : inDk (.ref a) (kV k) H Q := ⟨a, o, rfl, e ▸ DGet.k h, q⟩
theorem r_inDk0 {kvs : List (Key × V)} {k : Key} (h : H a = some (.dK kvs)) (e : valV kvs k = none) (q : Q (.bl false) H) : inDk (.ref a) (kV k) H Q := r_inDk h e q
theorem r_inDk1 {kvs : List (Key × V)} {k : Key} {w : V} (h : H a = some (.dK kvs)) (e : valV kvs k = some w) (q : Q (.bl true) H) : inDk (.ref a) (kV k) H Q := r_inDk h e q
instance s_dPut : Stp (sDPut td ty tv ⟨nx, rt, bk, ct⟩ σ H) (tv σ H fun v H1 => td σ H1 fun x H2 => ty σ H2 fun y H3 => putD x y v H3 fun H4 => nx σ H4) := ⟨id⟩
theorem r_putD {kvs : List (Key × V)} {k : Key} (h : H a = some (.dK kvs)) (few : kvs.length ≤ 10000) (q : ∀ H2, H2 a = some (.dK (putK kvs k v)) → Kp [a] H H2 → R H2) : putD (.ref a) (kV k) v H R :=
  ⟨a, _, rfl, DPut.k h (small1e4 few), q _ upd_same (Kp.put h trivial)⟩
theorem not_valV {κ : Type} [DecidableEq κ] {kvs : List (κ × V)} {k : κ} (h : ¬ k ∈ kvs.map (·.1)) : valV kvs k = none := by
  cases e : valV kvs k with
  | none => rfl
  | some v => exact absurd (valV_in e) h
end
/-! ### texts -/
section
variable {s : Str} {σ : St} {H : Hp} {g : TG} {tb : TS} {nx bk ct : St → Hp → Prop} {rt : VK} {te : TE} {R : It → Hp → Prop} {Q : VK}
def isS (x : V) (H : Hp) (R : It → Hp → Prop) : Prop := ∃ z, x = .str z ∧ R (Its z) H
instance s_iStr : Stp (iStr te σ H R) (te σ H fun x H1 => isS x H1 R) := ⟨id⟩
instance s_isS : Stp (isS (.str s) H R) (R (Its s) H) := ⟨fun h => ⟨s, rfl, h⟩⟩
theorem r_forS (Pv : Nat → St → Hp → Prop) (h0 : Pv 0 σ H) (hs : ∀ (i c : Nat) σ' H', s.cps[i]? = some c → Pv i σ' H' → g (.str ⟨#[c]⟩) σ' H' fun σ2 H2 => tb ⟨Pv (i + 1), rt, nx, Pv (i + 1)⟩ σ2 H2)
    (hd : ∀ σ' H', Pv s.cps.size σ' H' → nx σ' H') : forS (Its s) g tb ⟨nx, rt, bk, ct⟩ σ H :=
  for_it walk_str Pv h0 (fun _ _ _ _ _ => trivial) (fun i x σ' H1 H2 hi h y => by obtain ⟨rfl, c, hc, rfl⟩ := y; exact hs i c σ' _ hc h) hd
def rLenS : List V → Hp → VK → Prop := fun xs H Q => ∃ z, xs = [.str z] ∧ z.length ≤ sizeLine ∧ Q (.int z.length) H
theorem cg_lenS {X : Cx} : CallR X (.builtin "len") rLenS := call_len_str
theorem r_lenS (h : s.length ≤ 10000) (q : Q (.int s.length) H) : rLenS [.str s] H Q := ⟨s, rfl, by rw [sizeLine_eq]; omega, q⟩
def rSgnNot : R2 := fun x y H Q => ∃ (c : Nat) (z : Str), x = .str ⟨#[c]⟩ ∧ y = .str z ∧ Q (.bl (!decide (c ∈ z.cps.toList))) H
theorem op_sgnNot {X : Cx} : OpR X (compareOp .NotIn) rSgnNot := op_notIn_sign
instance s_sgnNot {c : Nat} {z : Str} : Stp (rSgnNot (.str ⟨#[c]⟩) (.str z) H Q) (Q (.bl (!decide (c ∈ z.cps.toList))) H) := ⟨fun h => ⟨c, z, rfl, rfl, h⟩⟩
theorem r_ixS {i : Int} {c : Nat} (h : s.length ≤ 10000) (e : atI s.cps.toList i = some c) (q : Q (.str ⟨#[c]⟩) H) : rIxS (.str s) (.int i) H Q := ⟨s, i, c, rfl, rfl, by rw [sizeLine_eq]; omega, e, q⟩
end
/-! ### labels -/
def lettersS : Str := Str.ofString "abcdefghijklmnopqrstuvwxyz"
def digitsS : Str := Str.ofString "0123456789"
def sgnOk (c : Nat) : Bool := decide (c ∈ lettersS.cps.toList) || decide (c ∈ digitsS.cps.toList)
def labelB (s : Str) : Bool := decide (1 ≤ s.length) && decide (s.length ≤ 20) && (match s.cps.toList with | [] => false | c :: _ => decide (c ∈ lettersS.cps.toList)) && s.cps.toList.all sgnOk
def spLabel : Sp := fun vs H Q _ => ∃ s : Str, vs = [.str s] ∧ s.length ≤ 10000 ∧ Q (.bl (labelB s)) H

/-! ### models -/
structure Goal where
  mx : Bool
  ts : Tms
  c : Int
def senseS (b : Bool) : Str := if b then Str.ofString "max" else Str.ofString "min"
def Goal.d (g : Goal) : PyData := .tuple [.str (senseS g.mx), tmD g.ts, .int g.c]
structure Mdl where
  us : List (Str × Int × Int)
  bs : List (Str × Body)
  g : Goal
def unD (u : Str × Int × Int) : PyData := .tuple [.str u.1, .int u.2.1, .int u.2.2]
structure MA where
  p : Addr
  n : Addr
  l : Addr
  h : Addr
  b : Addr
def MA.all (a : MA) : List Addr := [a.p, a.n, a.l, a.h, a.b]
structure MFs (fs : List (Str × V)) (a : MA) (g : V) : Prop where
  nm : fs.lookup (Str.ofString "_names") = some (.ref a.n)
  lo : fs.lookup (Str.ofString "_lows") = some (.ref a.l)
  hi : fs.lookup (Str.ofString "_highs") = some (.ref a.h)
  bo : fs.lookup (Str.ofString "_bodies") = some (.ref a.b)
  go : fs.lookup (Str.ofString "_goal") = some g
  le : fs.length ≤ 10
  no : ∀ m : Str, ¬ m = "_names" → ¬ m = "_lows" → ¬ m = "_highs" → ¬ m = "_bodies" → ¬ m = "_goal" → fs.lookup m = none
theorem putF_len (f : Str) (v w : V) : ∀ fs : List (Str × V), fs.lookup f = some w → (putF f v fs).length = fs.length
  | [], h => by simp at h
  | (x, y) :: fs, h => by
    show (if x = f then (x, v) :: fs else (x, y) :: putF f v fs).length = _
    by_cases e : x = f
    · rw [if_pos e]
      rfl
    · rw [if_neg e, List.length_cons, List.length_cons, putF_len f v w fs (by
        rw [List.lookup_cons] at h
        have : (f == x) = false := beq_false_of_ne (fun z => e z.symm)
        rw [this] at h
        exact h)]
theorem putF_le (f : Str) (v : V) : ∀ fs : List (Str × V), (putF f v fs).length ≤ fs.length + 1
  | [] => Nat.le_refl _
  | (x, y) :: fs => by
    show (if x = f then (x, v) :: fs else (x, y) :: putF f v fs).length ≤ _
    by_cases e : x = f
    · rw [if_pos e]
      simp
    · rw [if_neg e, List.length_cons, List.length_cons]
      have := putF_le f v fs
      omega
theorem MFs.goal {fs : List (Str × V)} {a : MA} {g g' : V} (h : MFs fs a g) : MFs (putF (Str.ofString "_goal") g' fs) a g' := by
  have l : ∀ m : Str, ¬ m = Str.ofString "_goal" → (putF (Str.ofString "_goal") g' fs).lookup m = fs.lookup m := fun m hm => by rw [lookup_putF, if_neg hm]
  exact ⟨(l _ (by decide +kernel)).trans h.nm, (l _ (by decide +kernel)).trans h.lo, (l _ (by decide +kernel)).trans h.hi, (l _ (by decide +kernel)).trans h.bo, by rw [lookup_putF, if_pos rfl], by rw [putF_len _ _ _ _ h.go]; exact h.le,
    fun m h1 h2 h3 h4 h5 => (l m h5).trans (h.no m h1 h2 h3 h4 h5)⟩
def fs3 (n l h : Addr) : List (Str × V) := putF (Str.ofString "_highs") (.ref h) (putF (Str.ofString "_lows") (.ref l) (putF (Str.ofString "_names") (.ref n) []))
theorem fs3_nm (n l h : Addr) : (fs3 n l h).lookup (Str.ofString "_names") = some (.ref n) := by
  unfold fs3
  rw [lookup_putF, if_neg (by decide +kernel), lookup_putF, if_neg (by decide +kernel), lookup_putF, if_pos rfl]
theorem fs3_lo (n l h : Addr) : (fs3 n l h).lookup (Str.ofString "_lows") = some (.ref l) := by
  unfold fs3
  rw [lookup_putF, if_neg (by decide +kernel), lookup_putF, if_pos rfl]
theorem fs3_hi (n l h : Addr) : (fs3 n l h).lookup (Str.ofString "_highs") = some (.ref h) := by
  unfold fs3
  rw [lookup_putF, if_pos rfl]
theorem fs3_len (n l h : Addr) : (fs3 n l h).length ≤ 3 := by
  unfold fs3
  refine Nat.le_trans (putF_le _ _ _) (Nat.succ_le_succ (Nat.le_trans (putF_le _ _ _) (Nat.succ_le_succ (putF_le _ _ _))))
theorem MFs.new {p n l h b : Addr} {g : V} : MFs (putF (Str.ofString "_goal") g (putF (Str.ofString "_bodies") (.ref b) (fs3 n l h))) ⟨p, n, l, h, b⟩ g := by
  have k : ∀ m : Str, ¬ m = Str.ofString "_goal" → ¬ m = Str.ofString "_bodies" → (putF (Str.ofString "_goal") g (putF (Str.ofString "_bodies") (.ref b) (fs3 n l h))).lookup m = (fs3 n l h).lookup m := fun m h1 h2 => by rw [lookup_putF, if_neg h1, lookup_putF, if_neg h2]
  refine ⟨(k _ (by decide +kernel) (by decide +kernel)).trans (fs3_nm n l h), (k _ (by decide +kernel) (by decide +kernel)).trans (fs3_lo n l h), (k _ (by decide +kernel) (by decide +kernel)).trans (fs3_hi n l h), by rw [lookup_putF, if_neg (by decide +kernel), lookup_putF, if_pos rfl], by rw [lookup_putF, if_pos rfl], ?_, fun m h1 h2 h3 h4 h5 => ?_⟩
  · have a1 := putF_le (Str.ofString "_goal") g (putF (Str.ofString "_bodies") (.ref b) (fs3 n l h))
    have a2 := putF_le (Str.ofString "_bodies") (.ref b) (fs3 n l h)
    have a3 := fs3_len n l h
    omega
  · rw [k m h5 h4]
    unfold fs3
    rw [lookup_putF, if_neg h3, lookup_putF, if_neg h2, lookup_putF, if_neg h1]
    rfl
/-- a model stands at a -/
structure MdlAt (K : PySem.W.Frag) (C : Addr) (H : Hp) (a : MA) (M : Mdl) : Prop where
  ob : ∃ dx fs g, H a.p = some (.ins C dx fs) ∧ MFs fs a g ∧ Im K H g M.g.d
  nm : H a.n = some (.lst (M.us.map fun u => V.str u.1))
  lo : H a.l = some (.lst (M.us.map fun u => V.int u.2.1))
  hi : H a.h = some (.lst (M.us.map fun u => V.int u.2.2))
  bo : ∃ kvs : List (Key × V), H a.b = some (.dK kvs) ∧ kvs.map (fun z => z.1) = M.bs.map (fun b => Sum.inr b.1) ∧ ImAll K H (kvs.map (fun z => z.2)) (M.bs.map fun b => b.2.d)
  ne : a.n ≠ a.l ∧ a.n ≠ a.h ∧ a.l ≠ a.h
section
variable {K : PySem.W.Frag} {C : Addr} {H H' : Hp} {a : MA} {M : Mdl} {S : List Addr}
theorem MdlAt.kp (k : Kp S H H') (h : MdlAt K C H a M) (d : ∀ x ∈ a.all, ¬ x ∈ S) : MdlAt K C H' a M := by
  obtain ⟨dx, fs, g, h1, h2, h3⟩ := h.ob
  obtain ⟨kvs, h4, h5, h6⟩ := h.bo
  exact ⟨⟨dx, fs, g, k.get (d _ (by simp [MA.all])) h1, h2, k.im h3⟩, k.get (d _ (by simp [MA.all])) h.nm, k.get (d _ (by simp [MA.all])) h.lo, k.get (d _ (by simp [MA.all])) h.hi, ⟨kvs, k.get (d _ (by simp [MA.all])) h4, h5, k.imAll h6⟩, h.ne⟩
theorem MdlAt.kp0 (k : Kp [] H H') (h : MdlAt K C H a M) : MdlAt K C H' a M := h.kp k fun _ _ z => nomatch z
/-- none of its places is one of these -/
def offA (a : MA) (t : Addr) : Prop := ∀ x ∈ a.all, x ≠ t
theorem MdlAt.kp1 {t : Addr} (k : Kp [t] H H') (h : MdlAt K C H a M) (n : offA a t) : MdlAt K C H' a M := h.kp k fun x hx z => n x hx (by simpa using z)
end
/-- what a model takes -/
def unOk (u : Str × Int × Int) : Prop := labelB u.1 = true ∧ u.1.length ≤ 10000 ∧ -1000 ≤ u.2.1 ∧ u.2.1 ≤ u.2.2 ∧ u.2.2 ≤ 1000
def Goal.fit (m : Int) (g : Goal) : Prop := tmFit m g.ts ∧ -1000000000 ≤ g.c ∧ g.c ≤ 1000000000
def goal0 : Goal := ⟨true, [], 0⟩
def spBounds : Sp := fun vs H Q _ => ∃ lo hi : Int, vs = [.int lo, .int hi] ∧ Q (.bl (decide (-1000 ≤ lo) && (decide (lo ≤ hi) && decide (hi ≤ 1000)))) H
def spInit (K : PySem.W.Frag) (C : Addr) : Sp := fun vs H Q _ => ∃ (p l dx : Addr) (refs : List V) (us : List (Str × Int × Int)), vs = [.ref p, .ref l] ∧ H p = some (.ins C dx []) ∧ H l = some (.lst refs) ∧ ImAll K H refs (us.map unD) ∧ 1 ≤ us.length ∧ us.length ≤ 60 ∧
  (∀ u ∈ us, unOk u) ∧ (us.map (·.1)).Nodup ∧ ∀ (a : MA) (H' : Hp), a.p = p → MdlAt K C H' a ⟨us, [], goal0⟩ → (∀ x ∈ a.all, x = p ∨ H x = none) → Kp [p] H H' → Q .non H'
def spPut (K : PySem.W.Frag) (C : Addr) : Sp := fun vs H Q _ => ∃ (a : MA) (s : Str) (pb : Addr) (b : Body) (M : Mdl), vs = [.ref a.p, .str s, .ref pb] ∧ MdlAt K C H a M ∧ labelB s = true ∧ s.length ≤ 10000 ∧ ¬ s ∈ M.bs.map (·.1) ∧ BodyAt K H pb b ∧ b.fit M.us.length ∧ M.bs.length < 200 ∧
  ∀ H', MdlAt K C H' a ⟨M.us, M.bs ++ [(s, b)], M.g⟩ → Kp [a.b] H H' → Q .non H'
def spAim (K : PySem.W.Frag) (C : Addr) : Sp := fun vs H Q _ => ∃ (a : MA) (pg : Addr) (g : Goal) (M : Mdl), vs = [.ref a.p, .ref pg] ∧ MdlAt K C H a M ∧ Im K H (.ref pg) g.d ∧ g.fit M.us.length ∧ ∀ H', MdlAt K C H' a ⟨M.us, M.bs, g⟩ → Kp [a.p] H H' → Q .non H'
theorem goal_at {K : PySem.W.Frag} {H : Hp} {x : V} {g : Goal} (h : Im K H x g.d) : ∃ p q, x = .ref p ∧ SqT K H p [.str (senseS g.mx), .ref q, .int g.c] ∧ Im K H (.ref q) (tmD g.ts) := by
  obtain ⟨p, rfl⟩ := Im.isRef h
  obtain ⟨_, h1, h2⟩ := Im.open h
  obtain ⟨_, _, rfl, a1, h2⟩ := h2.c
  obtain ⟨_, _, rfl, a2, h2⟩ := h2.c
  obtain ⟨_, _, rfl, a3, h2⟩ := h2.c
  obtain rfl := h2.n
  obtain ⟨q, rfl⟩ := a2.isRef
  cases a1; cases a3
  exact ⟨p, q, rfl, h1, a2⟩
theorem un_at {K : PySem.W.Frag} {H : Hp} {x : V} {u : Str × Int × Int} (h : Im K H x (unD u)) : ∃ p, x = .ref p ∧ SqT K H p [.str u.1, .int u.2.1, .int u.2.2] := by
  obtain ⟨p, rfl⟩ := Im.isRef h
  exact ⟨p, rfl, Im.sq h rfl⟩
theorem flat_strs (us : List Str) : (us.map V.str).all flatV = true := by
  rw [List.all_map]
  exact List.all_eq_true.mpr fun x _ => rfl
theorem inV_strs (v : Str) (us : List Str) : inV (.str v) (us.map V.str) = decide (v ∈ us) := by
  unfold inV
  rw [List.any_map]
  induction us with
  | nil => rfl
  | cons u us ih =>
    have e : ((fun y => eqV y (.str v)) ∘ V.str) u = decide (v = u) := by
      show (u == v) = decide (v = u)
      rw [Bool.eq_iff_iff, beq_iff_eq, decide_eq_true_eq]
      exact eq_comm
    rw [List.any_cons, ih, e, Bool.eq_iff_iff]
    simp only [Bool.or_eq_true, decide_eq_true_eq, List.mem_cons]
def mOk (m : Str) : Bool := decide (¬ m = Str.ofString "_names") && decide (¬ m = Str.ofString "_lows") && decide (¬ m = Str.ofString "_highs") && decide (¬ m = Str.ofString "_bodies") && decide (¬ m = Str.ofString "_goal")
/-- a method of a model is called -/
theorem r_mtM {K : PySem.W.Frag} {C : Addr} {H : Hp} {a : MA} {M : Mdl} {m : Str} {R : Prop} (h : MdlAt K C H a M) (n : mOk m = true) (q : R) : mtS C m (.ref a.p) H R := by
  obtain ⟨dx, fs, g, h1, h2, _⟩ := h.ob
  unfold mOk at n
  simp only [Bool.and_eq_true, decide_eq_true_eq] at n
  exact r_mt h1 (h2.no m n.1.1.1.1 n.1.1.1.2 n.1.1.2 n.1.2 n.2) q
local macro_rules | `(tactic| walk_at "cg h") => `(tactic| (first
  | ((with_reducible show MdlAt _ _ _ _ _); exact MdlAt.kp0 (by assumption) (by walk_at "cg h"))
  | ((with_reducible show MdlAt _ _ _ _ _); exact MdlAt.kp1 (by assumption) (by walk_at "cg h") (by assumption))
  | fail))
local macro_rules | `(tactic| walk_at "cg h") => `(tactic| assumption)
local macro_rules | `(tactic| walk_at "cg s") => `(tactic| (first
  | ((with_reducible apply r_fld); (focus (walk_at "cg h")); (focus assumption); (focus assumption); (focus assumption))
  | ((with_reducible apply r_mt); (focus (walk_at "cg h")); (focus assumption))
  | ((with_reducible apply r_newD); intro _ _ _ _ _)
  | ((with_reducible apply r_setF); (focus (walk_at "cg h")); (focus assumption); (focus assumption); (focus (first | assumption | exact Nat.lt_of_sub_pos (by decide) | omega)); intro _ _ _)
  | fail))
local macro_rules | `(tactic| walk_at "cg s") => `(tactic| ((with_reducible apply r_mtM); (focus (walk_at "cg h")); (focus (decide +kernel))))

/-! ### the law's own world -/
section
variable {σ σ0 : St} {H : Hp} {K : PySem.W.Frag} {p : Addr} {xs : List V} {g : TG} {tt : TT} {te : TE} {vs : List Nat} {Q : VK} {n : Nat} {lo : Int} {α : Type} {as : List α} {d : α → PyData} {t c : Addr}
/-- .. one for each item of a list -/
theorem lcL_d {β : Type} {bs : List β} {e : β → PyData} [hw : Wip σ vs σ0] (s : H p = some (.lst xs)) (np : p ≠ t) (ib : ImAll K H xs (bs.map e)) (d : α → PyData) (Pr : β → α → Prop) (T : Tp t c H) (small : bs.length ≤ 10000)
    (hs : ∀ (i : Nat) (b : β) (x : V) (H' : Hp) (R : V → Hp → Prop) (R' : Hp → Prop), bs[i]? = some b → Im K H' x (e b) → Tp t c H' → Kp [t] H H' → (∀ y H4 a, Pr b a → Im K H4 y (d a) → Tp t c H4 → Kp [t] H' H4 → R y H4) → lcTurn g tt te vs σ σ0 x H' R R')
    (hd : ∀ D H' acc (as : List α), H D = none → H' D = some (.lst acc) → as.length = bs.length → (∀ (i : Nat) a, as[i]? = some a → ∃ b, bs[i]? = some b ∧ Pr b a) → ImAll K H' acc (as.map d) → Tp t c H' → Kp [t] H H' → Q (.ref D) H') : lcS (Itl K p) g tt te vs σ H Q := by
  have hxl := mapLenP ib
  refine r_lcL xs (fun D i H' => Kp [t] H H' ∧ H D = none ∧ Tp t c H' ∧ ∃ (acc : List V) (as : List α), H' D = some (.lst acc) ∧ as.length = i ∧ (∀ (i : Nat) a, as[i]? = some a → ∃ b, bs[i]? = some b ∧ Pr b a) ∧ ImAll K H' acc (as.map d))
    (fun D H2 hD e2 k2 => ⟨Kp.tr0 k2 (Tp.base T), hD, Tp.kp0 k2 T, [], [], e2, rfl, (fun i a h => by simp at h), .nil⟩) (fun D i H' h => h.1.get1 np s) ?_ ?_
  · rintro D i x H' hx ⟨k2, hD, T2, acc, as, eD, hl, hP, hA⟩
    obtain ⟨b, hb, hxd⟩ := mapGetP (k2.imAll ib) hx
    have hi : i < bs.length := (List.getElem?_eq_some_iff.mp hb).1
    have nt : D ≠ t := Tp.nef hD T
    have nc : D ≠ c := Tp.nefc hD T
    have hal : acc.length = i := by rw [hA.length, List.length_map, hl]
    refine hs i b x H' _ _ hb hxd T2 k2 fun y H4 a ha hy T4 k4 => ?_
    refine r_ap (k4.get1 nt eD) (small1e4 (by omega)) fun H5 e5 k5 => ⟨Kp.trN k5 (Kp.tr1 k4 k2) hD, hD, Tp.kp1 k5 T4 nt.symm nc.symm, _, as ++ [a], e5, by simp [hl], fun j b' hb' => ?_, ?_⟩
    · rcases Nat.lt_or_ge j as.length with h | h
      · rw [List.getElem?_append_left h] at hb'
        exact hP j b' hb'
      · rw [List.getElem?_append_right h] at hb'
        have e0 : j - as.length = 0 := by
          have := (List.getElem?_eq_some_iff.mp hb').1
          simp at this
          omega
        rw [e0] at hb'
        simp at hb'
        subst hb'
        rw [show j = i by omega]
        exact ⟨b, hb, ha⟩
    · rw [List.map_append]
      exact (k5.imAll (k4.imAll hA)).snoc (k5.im hy)
  · rintro D H' ⟨k2, hD, T2, acc, as, eD, hl, hP, hA⟩
    exact hd D H' acc as hD eD (by rw [hl, hxl]) hP hA T2 k2
end
def labD (b : Str × Body) : PyData := .tuple [.str b.1, b.2.d]
structure Mdl.ok (M : Mdl) : Prop where
  n0 : 1 ≤ M.us.length
  n1 : M.us.length ≤ 60
  un : ∀ u ∈ M.us, unOk u
  nd : (M.us.map (·.1)).Nodup
  lb : ∀ b ∈ M.bs, labelB b.1 = true ∧ b.1.length ≤ 10000
  ln : (M.bs.map (·.1)).Nodup
  bf : ∀ b ∈ M.bs, b.2.fit M.us.length
  nb : M.bs.length ≤ 200
  gf : M.g.fit M.us.length
def nmS : Nat → Str
  | 0 => Str.ofString "x"
  | 1 => Str.ofString "y"
  | 2 => Str.ofString "z"
  | 3 => Str.ofString "u"
  | _ => Str.ofString "w"
def labC (k : Int) : Str := Str.ofString "c" ++ ((toString k : String) : Str)
/-- the drawn ones are small -/
structure Mdl.sm (M : Mdl) (most width bodies : Int) : Prop where
  n : (M.us.length : Int) ≤ most
  u : ∀ u ∈ M.us, -2 ≤ u.2.1 ∧ u.2.1 ≤ 2 ∧ u.2.2 < u.2.1 + width
  b : (M.bs.length : Int) ≤ bodies
  g : tmLaw M.us.length M.g.ts ∧ -2 ≤ M.g.c ∧ M.g.c ≤ 2
  l : ∀ b ∈ M.bs, ∃ k : Int, 0 ≤ k ∧ k < 10 ∧ b.1 = labC k
  nm : ∀ u ∈ M.us, ∃ i : Nat, i < 5 ∧ u.1 = nmS i
structure WA where
  w : Addr
  u : Addr
  f : Addr
def WA.all (a : WA) : List Addr := [a.w, a.u, a.f]
structure WorldAt (K : PySem.W.Frag) (H : Hp) (a : WA) (M : Mdl) : Prop where
  w : ∃ pg, H a.w = some (.lst [.ref a.u, .ref a.f, .ref pg]) ∧ Im K H (.ref pg) M.g.d
  u : ∃ refs, H a.u = some (.lst refs) ∧ ImAll K H refs (M.us.map unD)
  f : ∃ refs, H a.f = some (.lst refs) ∧ ImAll K H refs (M.bs.map labD)
  d : a.w ≠ a.u ∧ a.w ≠ a.f
section
variable {K : PySem.W.Frag} {C : Addr} {H H' : Hp} {a : WA} {M : Mdl} {S : List Addr}
theorem WorldAt.kp (k : Kp S H H') (h : WorldAt K H a M) (d : ∀ x ∈ a.all, ¬ x ∈ S) : WorldAt K H' a M := by
  obtain ⟨pg, h1, h2⟩ := h.w
  obtain ⟨r1, h3, h4⟩ := h.u
  obtain ⟨r2, h5, h6⟩ := h.f
  exact ⟨⟨pg, k.get (d _ (by simp [WA.all])) h1, k.im h2⟩, ⟨r1, k.get (d _ (by simp [WA.all])) h3, k.imAll h4⟩, ⟨r2, k.get (d _ (by simp [WA.all])) h5, k.imAll h6⟩, h.d⟩
theorem WorldAt.kp0 (k : Kp [] H H') (h : WorldAt K H a M) : WorldAt K H' a M := h.kp k fun _ _ z => nomatch z
def offW (a : WA) (t : Addr) : Prop := ∀ x ∈ a.all, x ≠ t
theorem WorldAt.kp1 {t : Addr} (k : Kp [t] H H') (h : WorldAt K H a M) (n : offW a t) : WorldAt K H' a M := h.kp k fun x hx z => n x hx (by simpa using z)
end
def spWorld (K : PySem.W.Frag) : Sp := fun vs H Q _ => ∃ (t c : Addr) (most width bodies : Int), vs = [.ref t, .int most, .int width, .int bodies] ∧ Tp t c H ∧ 1 ≤ most ∧ most ≤ 5 ∧ 1 ≤ width ∧ width ≤ 900 ∧ 0 ≤ bodies ∧ bodies ≤ 9 ∧
  ∀ (a : WA) (M : Mdl) (H' : Hp), WorldAt K H' a M → M.ok → M.sm most width bodies → (∀ x ∈ a.all, H x = none) → Tp t c H' → Kp [t] H H' → Q (.ref a.w) H'
def spLawModel (K : PySem.W.Frag) (C : Addr) : Sp := fun vs H Q _ => ∃ (a : WA) (M : Mdl), vs = [.ref a.w] ∧ WorldAt K H a M ∧ M.ok ∧ ∀ (m : MA) (H' : Hp), MdlAt K C H' m M → (∀ x ∈ m.all, H x = none) → Kp [] H H' → Q (.ref m.p) H'
def ptIn (us : List (Str × Int × Int)) (pt : List Int) : Prop := pt.length = us.length ∧ ∀ (i : Nat) z, pt[i]? = some z → ∃ u, us[i]? = some u ∧ u.2.1 ≤ z ∧ z ≤ u.2.2
def spLawPoint (K : PySem.W.Frag) : Sp := fun vs H Q _ => ∃ (t c l : Addr) (refs : List V) (us : List (Str × Int × Int)), vs = [.ref t, .ref l] ∧ Tp t c H ∧ H l = some (.lst refs) ∧ l ≠ t ∧ ImAll K H refs (us.map unD) ∧ us.length ≤ 60 ∧ (∀ u ∈ us, -1000 ≤ u.2.1 ∧ u.2.1 ≤ u.2.2 ∧ u.2.2 ≤ 1000) ∧
  ∀ (p : Addr) (pt : List Int) (H' : Hp), SqT K H' p (pt.map V.int) → ptIn us pt → Tp t c H' → Kp [t] H H' → Q (.ref p) H'
def rStrI : List V → Hp → VK → Prop := fun xs H Q => ∃ i, xs = [.int i] ∧ i.natAbs.log2 < 1920 ∧ Q (.str (toString i)) H
theorem cg_strI {X : Cx} : CallR X (.type "str") rStrI := call_str_int
theorem r_strI {i : Int} {H : Hp} {Q : VK} (h0 : 0 ≤ i) (h1 : i ≤ 1000) (q : Q (.str (toString i)) H) : rStrI [.int i] H Q := ⟨i, rfl, Nat.lt_of_le_of_lt (Nat.log2_le_self _) (by omega), q⟩
def rAddS : R2 := fun x y H Q => ∃ i j, x = .str i ∧ y = .str j ∧ i.length + j.length ≤ sizeLine ∧ Q (.str (i ++ j)) H
theorem cg_addS {X : Cx} : OpR X (binaryOp .Add) rAddS := op_add_str
theorem r_addS {i j : Str} {H : Hp} {Q : VK} (h : i.length + j.length ≤ 10000) (q : Q (.str (i ++ j)) H) : rAddS (.str i) (.str j) H Q := ⟨i, j, rfl, rfl, by rw [sizeLine_eq]; omega, q⟩
theorem ten (P : Int → Prop) (h : P 0 ∧ P 1 ∧ P 2 ∧ P 3 ∧ P 4 ∧ P 5 ∧ P 6 ∧ P 7 ∧ P 8 ∧ P 9) {k : Int} (h0 : 0 ≤ k) (h1 : k < 10) : P k := by
  have e : k = 0 ∨ k = 1 ∨ k = 2 ∨ k = 3 ∨ k = 4 ∨ k = 5 ∨ k = 6 ∨ k = 7 ∨ k = 8 ∨ k = 9 := by omega
  obtain ⟨p0, p1, p2, p3, p4, p5, p6, p7, p8, p9⟩ := h
  rcases e with rfl | rfl | rfl | rfl | rfl | rfl | rfl | rfl | rfl | rfl <;> assumption
theorem labC_ok {k : Int} (h0 : 0 ≤ k) (h1 : k < 10) : labelB (labC k) = true ∧ (Str.ofString "c").length + (((toString k : String) : Str)).length ≤ 10 ∧ (labC k).length ≤ 10 :=
  ten (fun k => labelB (labC k) = true ∧ (Str.ofString "c").length + (((toString k : String) : Str)).length ≤ 10 ∧ (labC k).length ≤ 10) (by decide +kernel) h0 h1
theorem labC_inj {j k : Int} (h0 : 0 ≤ j) (h1 : j < 10) (h2 : 0 ≤ k) (h3 : k < 10) (e : labC j = labC k) : j = k := by
  have q : ((List.range 10).all fun a => (List.range 10).all fun b => decide (labC (a : Nat) = labC (b : Nat) → a = b)) = true := by decide +kernel
  have q1 := List.all_eq_true.mp q j.toNat (List.mem_range.mpr (by omega))
  have q2 := List.all_eq_true.mp q1 k.toNat (List.mem_range.mpr (by omega))
  have q3 := of_decide_eq_true q2
  rw [Int.toNat_of_nonneg h0, Int.toNat_of_nonneg h2] at q3
  have := q3 e
  omega
theorem nmS_ok : ∀ i < 5, labelB (nmS i) = true ∧ (nmS i).length ≤ 10 := by decide +kernel
theorem nmS_inj : ∀ i < 5, ∀ j < 5, nmS i = nmS j → i = j := by decide +kernel
theorem ix_nm {K : PySem.W.Frag} {p : Addr} {H : Hp} {Q : VK} {i : Nat} (h : H p = some (.lst [.str (Str.ofString "x"), .str (Str.ofString "y"), .str (Str.ofString "z"), .str (Str.ofString "u"), .str (Str.ofString "w")])) (h1 : i < 5) (q : Q (.str (nmS i)) H) : rIxL K (.ref p) (.int (0 + (i : Int))) H Q := by
  have e : i = 0 ∨ i = 1 ∨ i = 2 ∨ i = 3 ∨ i = 4 := by omega
  rcases e with rfl | rfl | rfl | rfl | rfl <;> exact r_ixL h rfl q
theorem ix_mm {K : PySem.W.Frag} {p : Addr} {H : Hp} {Q : VK} {d : Int} (h : H p = some (.lst [.str (Str.ofString "max"), .str (Str.ofString "min")])) (h0 : 0 ≤ d) (h1 : d < 2) (q : ∀ b, Q (.str (senseS b)) H) : rIxL K (.ref p) (.int d) H Q := by
  have e : d = 0 ∨ d = 1 := by omega
  rcases e with rfl | rfl
  · exact r_ixL h rfl (q true)
  · exact r_ixL h rfl (q false)
theorem nodup_map_range {α : Type} {f : Nat → α} {n : Nat} (h : ∀ i < n, ∀ j < n, f i = f j → i = j) : ((List.range n).map f).Nodup := by
  unfold List.Nodup
  rw [List.pairwise_map]
  refine List.Pairwise.imp_of_mem (fun {a b} ha hb hab e => ?_) (List.nodup_range (n := n))
  exact hab (h a (List.mem_range.mp ha) b (List.mem_range.mp hb) e)

/-! ### the next point -/
def rGetL : V → V → Hp → VK → Prop := fun x y H Q => ∃ p xs i v, x = .ref p ∧ y = .int i ∧ H p = some (.lst xs) ∧ 0 ≤ i ∧ atI xs i = some v ∧ Q v H
theorem get_list {X : Cx} : PGet X rGetL := by
  intro pins s σ H o i ov iv Q I ro ri h
  obtain ⟨p, xs, k, z, rfl, rfl, hp, h0, he, q⟩ := h
  cases ro
  obtain ⟨t, rfl⟩ := ri
  obtain ⟨its, r, pl, hz⟩ := I.list (SqL.of hp)
  obtain ⟨j, h1, h2, h3, h4, h5⟩ := atI_get he
  obtain ⟨w, ew, rw'⟩ := r.get h2
  have hj : k.toNat = j := by
    rw [seqIndex_of h0 h5] at h1
    exact Option.some.inj h1
  have hn := line63
  have hl := r.length
  exact wpAny_getItem_list pl.isList h0 (by omega) (by rw [hj]; simpa using ew) ⟨z, H, I, rw', q⟩
theorem r_getL {H : Hp} {Q : VK} {p : Addr} {xs : List V} {i : Int} {v : V} (h : H p = some (.lst xs)) (h0 : 0 ≤ i) (e : atI xs i = some v) (q : Q v H) : rGetL (.ref p) (.int i) H Q := ⟨p, xs, i, v, rfl, rfl, h, h0, e, q⟩
instance s_augS {to ti te : TE} {tget : V → V → Hp → VK → Prop} {tip : TIp} {tset : V → V → V → Hp → (Hp → Prop) → Prop} {D : Ends} {σ : St} {H : Hp} : Stp (tAugS to ti te tget tip tset D σ H) (to σ H fun o H1 => ti σ H1 fun i H2 => tget o i H2 fun x H3 => te σ H3 fun y H4 => tip x y H4 fun z H5 => tset o i z H5 fun H6 => D.nx σ H6) := ⟨id⟩
abbrev Un := Str × Int × Int
def nxP : List Un → List Int → Option (List Int)
  | u :: us, x :: xs => match nxP us xs with
    | some ys => some (x :: ys)
    | none => if x < u.2.2 then some ((x + 1) :: us.map (·.2.1)) else none
  | _, _ => none
theorem nxP_step {us : List Un} {pt : List Int} {k : Nat} {u : Un} {x : Int} (h1 : us[k]? = some u) (h2 : pt[k]? = some x) (h3 : nxP (us.drop (k + 1)) (pt.drop (k + 1)) = none) : nxP (us.drop k) (pt.drop k) = if x < u.2.2 then some ((x + 1) :: (us.drop (k + 1)).map (·.2.1)) else none := by
  obtain ⟨i1, e1⟩ := List.getElem?_eq_some_iff.mp h1
  obtain ⟨i2, e2⟩ := List.getElem?_eq_some_iff.mp h2
  rw [List.drop_eq_getElem_cons i1, List.drop_eq_getElem_cons i2, e1, e2]
  simp only [nxP, h3]
theorem nxP_pre : ∀ {us : List Un} {pt ys : List Int} (k : Nat), us.length = pt.length → k ≤ pt.length → nxP (us.drop k) (pt.drop k) = some ys → nxP us pt = some (pt.take k ++ ys)
  | _, _, _, 0, _, _, h => h
  | [], [], _, k + 1, _, h, _ => by simp at h
  | u :: us, x :: xs, ys, k + 1, hl, hk, h => by
    have q := nxP_pre (us := us) (pt := xs) k (by simpa using hl) (by simpa using hk) h
    simp only [nxP, q]
    rfl
def spMany (K : PySem.W.Frag) (C : Addr) : Sp := fun vs H Q _ => ∃ (a : MA) (M : Mdl), vs = [.ref a.p] ∧ MdlAt K C H a M ∧ M.us.length ≤ 60 ∧ Q (.int M.us.length) H
def spNeed (K : PySem.W.Frag) (C : Addr) : Sp := fun vs H Q _ => ∃ (a : MA) (M : Mdl) (v : Int), vs = [.ref a.p, .int v] ∧ MdlAt K C H a M ∧ M.us.length ≤ 60 ∧ 0 ≤ v ∧ v < M.us.length ∧ Q .non H
def spLow (K : PySem.W.Frag) (C : Addr) : Sp := fun vs H Q _ => ∃ (a : MA) (M : Mdl) (v : Int) (u : Un), vs = [.ref a.p, .int v] ∧ MdlAt K C H a M ∧ M.us.length ≤ 60 ∧ 0 ≤ v ∧ M.us[v.toNat]? = some u ∧ Q (.int u.2.1) H
def spHigh (K : PySem.W.Frag) (C : Addr) : Sp := fun vs H Q _ => ∃ (a : MA) (M : Mdl) (v : Int) (u : Un), vs = [.ref a.p, .int v] ∧ MdlAt K C H a M ∧ M.us.length ≤ 60 ∧ 0 ≤ v ∧ M.us[v.toNat]? = some u ∧ Q (.int u.2.2) H
def spNext (K : PySem.W.Frag) (C : Addr) : Sp := fun vs H Q _ => ∃ (a : MA) (M : Mdl) (q : Addr) (pt : List Int), vs = [.ref a.p, .ref q] ∧ MdlAt K C H a M ∧ M.us.length ≤ 60 ∧ pt.length = M.us.length ∧ SqT K H q (pt.map V.int) ∧
  (nxP M.us pt = none → ∀ H', Kp [] H H' → Q .non H') ∧ ∀ pt' p H', nxP M.us pt = some pt' → SqT K H' p (pt'.map V.int) → Kp [] H H' → Q (.ref p) H'
theorem at_lo {us : List Un} {v : Int} {u : Un} (h0 : 0 ≤ v) (h : us[v.toNat]? = some u) : atI (us.map fun u => V.int u.2.1) v = some (.int u.2.1) := by
  have hi := (List.getElem?_eq_some_iff.mp h).1
  rw [atI_nat h0 (by rw [List.length_map]; omega), List.getElem?_map, h]
  rfl
theorem at_hi {us : List Un} {v : Int} {u : Un} (h0 : 0 ≤ v) (h : us[v.toNat]? = some u) : atI (us.map fun u => V.int u.2.2) v = some (.int u.2.2) := by
  have hi := (List.getElem?_eq_some_iff.mp h).1
  rw [atI_nat h0 (by rw [List.length_map]; omega), List.getElem?_map, h]
  rfl

def top (i : Nat) : Stmt := PySem.Challenge.pw_commonground_k25_references_and_supposit.main.body.getD i (.Pass ⟨0, 0, 0, 0⟩)
abbrev s_premises_of : Stmt := top 1
theorem sc_premises_of : FnScope ["step", "rule", "i", "m"] ["step"] (defScope s_premises_of) := ⟨rfl, rfl, rfl, by decide +kernel, rfl, by decide +kernel, by decide +kernel⟩
theorem st_premises_of (v0 : V) : L2.start ["step", "rule", "i", "m"] [v0] = [some v0, none, none, none] := rfl
abbrev s_refers_to : Stmt := top 3
theorem sc_refers_to : FnScope ["step"] ["step"] (defScope s_refers_to) := ⟨rfl, rfl, rfl, by decide +kernel, rfl, by decide +kernel, by decide +kernel⟩
theorem st_refers_to (v0 : V) : L2.start ["step"] [v0] = [some v0] := rfl
abbrev s_under_of : Stmt := top 4
theorem sc_under_of : FnScope ["step", "number", "earlier", "rule", "found", "i", "j", "s", "t", "k"] ["step", "number", "earlier"] (defScope s_under_of) := ⟨rfl, rfl, rfl, by decide +kernel, rfl, by decide +kernel, by decide +kernel⟩
theorem st_under_of (v0 v1 v2 : V) : L2.start ["step", "number", "earlier", "rule", "found", "i", "j", "s", "t", "k"] [v0, v1, v2] = [some v0, some v1, some v2, none, none, none, none, none, none, none] := rfl
abbrev s_unders : Stmt := top 5
theorem sc_unders : FnScope ["steps", "found", "number", "step"] ["steps"] (defScope s_unders) := ⟨rfl, rfl, rfl, by decide +kernel, rfl, by decide +kernel, by decide +kernel⟩
theorem st_unders (v0 : V) : L2.start ["steps", "found", "number", "step"] [v0] = [some v0, none, none, none] := rfl
abbrev s_law_draw : Stmt := top 7
theorem sc_law_draw : FnScope ["_law_tape_here", "_law_many", "_law_cells", "_law_k", "_law_cell", "_law_digit"] ["_law_tape_here", "_law_many"] (defScope s_law_draw) := ⟨rfl, rfl, rfl, by decide +kernel, rfl, by decide +kernel, by decide +kernel⟩
theorem st_law_draw (v0 v1 : V) : L2.start ["_law_tape_here", "_law_many", "_law_cells", "_law_k", "_law_cell", "_law_digit"] [v0, v1] = [some v0, some v1, none, none, none, none] := rfl
abbrev s_law_tape : Stmt := top 8
theorem sc_law_tape : FnScope ["_law_script"] ["_law_script"] (defScope s_law_tape) := ⟨rfl, rfl, rfl, by decide +kernel, rfl, by decide +kernel, by decide +kernel⟩
theorem st_law_tape (v0 : V) : L2.start ["_law_script"] [v0] = [some v0] := rfl
abbrev s_law_terms : Stmt := top 9
theorem sc_law_terms : FnScope ["_law_tape_here", "_law_many", "_law_terms_here", "_law_v", "_law_c"] ["_law_tape_here", "_law_many"] (defScope s_law_terms) := ⟨rfl, rfl, rfl, by decide +kernel, rfl, by decide +kernel, by decide +kernel⟩
theorem st_law_terms (v0 v1 : V) : L2.start ["_law_tape_here", "_law_many", "_law_terms_here", "_law_v", "_law_c"] [v0, v1] = [some v0, some v1, none, none, none] := rfl
abbrev s_law_literal : Stmt := top 10
theorem sc_law_literal : FnScope ["_law_tape_here", "_law_many", "_law_relation"] ["_law_tape_here", "_law_many"] (defScope s_law_literal) := ⟨rfl, rfl, rfl, by decide +kernel, rfl, by decide +kernel, by decide +kernel⟩
theorem st_law_literal (v0 v1 : V) : L2.start ["_law_tape_here", "_law_many", "_law_relation"] [v0, v1] = [some v0, some v1, none] := rfl
abbrev s_law_some : Stmt := top 11
theorem sc_law_some : FnScope ["_law_tape_here", "_law_many", "_law_least", "_law_rest", "_law_found", "_law_k"] ["_law_tape_here", "_law_many", "_law_least"] (defScope s_law_some) := ⟨rfl, rfl, rfl, by decide +kernel, rfl, by decide +kernel, by decide +kernel⟩
theorem st_law_some (v0 v1 v2 : V) : L2.start ["_law_tape_here", "_law_many", "_law_least", "_law_rest", "_law_found", "_law_k"] [v0, v1, v2] = [some v0, some v1, some v2, none, none, none] := rfl
abbrev s_law_body : Stmt := top 12
theorem sc_law_body : FnScope ["_law_tape_here", "_law_many", "_law_kind", "_law_relation", "_law_literals", "_law_k", "_law_literal_here", "_law_numbers", "_law_rows", "_law_entries", "_law_v"] ["_law_tape_here", "_law_many"] (defScope s_law_body) := ⟨rfl, rfl, rfl, by decide +kernel, rfl, by decide +kernel, by decide +kernel⟩
theorem st_law_body (v0 v1 : V) : L2.start ["_law_tape_here", "_law_many", "_law_kind", "_law_relation", "_law_literals", "_law_k", "_law_literal_here", "_law_numbers", "_law_rows", "_law_entries", "_law_v"] [v0, v1] = [some v0, some v1, none, none, none, none, none, none, none, none, none] := rfl
abbrev s_law_fact : Stmt := top 13
theorem sc_law_fact : FnScope ["_law_tape_here", "_law_many", "_law_k"] ["_law_tape_here", "_law_many"] (defScope s_law_fact) := ⟨rfl, rfl, rfl, by decide +kernel, rfl, by decide +kernel, by decide +kernel⟩
theorem st_law_fact (v0 v1 : V) : L2.start ["_law_tape_here", "_law_many", "_law_k"] [v0, v1] = [some v0, some v1, none] := rfl
abbrev s_law_as_row : Stmt := top 14
theorem sc_law_as_row : FnScope ["_law_fact_here"] ["_law_fact_here"] (defScope s_law_as_row) := ⟨rfl, rfl, rfl, by decide +kernel, rfl, by decide +kernel, by decide +kernel⟩
theorem st_law_as_row (v0 : V) : L2.start ["_law_fact_here"] [v0] = [some v0] := rfl
abbrev s_law_negation : Stmt := top 15
theorem sc_law_negation : FnScope ["_law_fact_here", "_law_v", "_law_relation", "_law_a", "_law_c"] ["_law_fact_here"] (defScope s_law_negation) := ⟨rfl, rfl, rfl, by decide +kernel, rfl, by decide +kernel, by decide +kernel⟩
theorem st_law_negation (v0 : V) : L2.start ["_law_fact_here", "_law_v", "_law_relation", "_law_a", "_law_c"] [v0] = [some v0, none, none, none, none] := rfl
abbrev s_law_written : Stmt := top 16
theorem sc_law_written : FnScope ["_law_body_here", "_law_v", "_law_c", "_law_literal_here"] ["_law_body_here"] (defScope s_law_written) := ⟨rfl, rfl, rfl, by decide +kernel, rfl, by decide +kernel, by decide +kernel⟩
theorem st_law_written (v0 : V) : L2.start ["_law_body_here", "_law_v", "_law_c", "_law_literal_here"] [v0] = [some v0, none, none, none] := rfl
abbrev s_law_pick : Stmt := top 17
theorem sc_law_pick : FnScope ["_law_tape_here", "_law_steps"] ["_law_tape_here", "_law_steps"] (defScope s_law_pick) := ⟨rfl, rfl, rfl, by decide +kernel, rfl, by decide +kernel, by decide +kernel⟩
theorem st_law_pick (v0 v1 : V) : L2.start ["_law_tape_here", "_law_steps"] [v0, v1] = [some v0, some v1] := rfl
abbrev s_law_fact_of : Stmt := top 18
theorem sc_law_fact_of : FnScope ["_law_steps", "_law_i"] ["_law_steps", "_law_i"] (defScope s_law_fact_of) := ⟨rfl, rfl, rfl, by decide +kernel, rfl, by decide +kernel, by decide +kernel⟩
theorem st_law_fact_of (v0 v1 : V) : L2.start ["_law_steps", "_law_i"] [v0, v1] = [some v0, some v1] := rfl
abbrev s_law_moved : Stmt := top 19
theorem sc_law_moved : FnScope ["_law_tape_here", "_law_row"] ["_law_tape_here", "_law_row"] (defScope s_law_moved) := ⟨rfl, rfl, rfl, by decide +kernel, rfl, by decide +kernel, by decide +kernel⟩
theorem st_law_moved (v0 v1 : V) : L2.start ["_law_tape_here", "_law_row"] [v0, v1] = [some v0, some v1] := rfl
abbrev s_law_added : Stmt := top 20
theorem sc_law_added : FnScope ["_law_steps", "_law_pairs", "_law_many", "_law_sums", "_law_rhs", "_law_i", "_law_m", "_law_row", "_law_v", "_law_c"] ["_law_steps", "_law_pairs", "_law_many"] (defScope s_law_added) := ⟨rfl, rfl, rfl, by decide +kernel, rfl, by decide +kernel, by decide +kernel⟩
theorem st_law_added (v0 v1 v2 : V) : L2.start ["_law_steps", "_law_pairs", "_law_many", "_law_sums", "_law_rhs", "_law_i", "_law_m", "_law_row", "_law_v", "_law_c"] [v0, v1, v2] = [some v0, some v1, some v2, none, none, none, none, none, none, none] := rfl
abbrev s_law_by_label : Stmt := top 21
theorem sc_law_by_label : FnScope ["_law_tape_here", "_law_world", "_law_steps", "_law_rule", "_law_many", "_law_label", "_law_body_here", "_law_fact_here", "_law_a", "_law_x", "_law_literals", "_law_v", "_law_hints", "_law_c", "_law_k"] ["_law_tape_here", "_law_world", "_law_steps", "_law_rule"] (defScope s_law_by_label) := ⟨rfl, rfl, rfl, by decide +kernel, rfl, by decide +kernel, by decide +kernel⟩
theorem st_law_by_label (v0 v1 v2 v3 : V) : L2.start ["_law_tape_here", "_law_world", "_law_steps", "_law_rule", "_law_many", "_law_label", "_law_body_here", "_law_fact_here", "_law_a", "_law_x", "_law_literals", "_law_v", "_law_hints", "_law_c", "_law_k"] [v0, v1, v2, v3] = [some v0, some v1, some v2, some v3, none, none, none, none, none, none, none, none, none, none, none] := rfl
abbrev s_law_opposed : Stmt := top 22
theorem sc_law_opposed : FnScope ["_law_tape_here", "_law_steps", "_law_found", "_law_s", "_law_t"] ["_law_tape_here", "_law_steps"] (defScope s_law_opposed) := ⟨rfl, rfl, rfl, by decide +kernel, rfl, by decide +kernel, by decide +kernel⟩
theorem st_law_opposed (v0 v1 : V) : L2.start ["_law_tape_here", "_law_steps", "_law_found", "_law_s", "_law_t"] [v0, v1] = [some v0, some v1, none, none, none] := rfl
abbrev s_law_by_steps : Stmt := top 23
theorem sc_law_by_steps : FnScope ["_law_tape_here", "_law_world", "_law_steps", "_law_rule", "_law_many", "_law_i", "_law_fact_here", "_law_pairs", "_law_row", "_law_d", "_law_terms_here", "_law_hints", "_law_stated", "_law_s", "_law_t", "_law_k", "_law_v", "_law_c"] ["_law_tape_here", "_law_world", "_law_steps", "_law_rule"] (defScope s_law_by_steps) := ⟨rfl, rfl, rfl, by decide +kernel, rfl, by decide +kernel, by decide +kernel⟩
theorem st_law_by_steps (v0 v1 v2 v3 : V) : L2.start ["_law_tape_here", "_law_world", "_law_steps", "_law_rule", "_law_many", "_law_i", "_law_fact_here", "_law_pairs", "_law_row", "_law_d", "_law_terms_here", "_law_hints", "_law_stated", "_law_s", "_law_t", "_law_k", "_law_v", "_law_c"] [v0, v1, v2, v3] = [some v0, some v1, some v2, some v3, none, none, none, none, none, none, none, none, none, none, none, none, none, none] := rfl
abbrev s_law_step : Stmt := top 24
theorem sc_law_step : FnScope ["_law_tape_here", "_law_world", "_law_steps", "_law_many", "_law_rule", "_law_v", "_law_row", "_law_fact_here", "_law_other"] ["_law_tape_here", "_law_world", "_law_steps"] (defScope s_law_step) := ⟨rfl, rfl, rfl, by decide +kernel, rfl, by decide +kernel, by decide +kernel⟩
theorem st_law_step (v0 v1 v2 : V) : L2.start ["_law_tape_here", "_law_world", "_law_steps", "_law_many", "_law_rule", "_law_v", "_law_row", "_law_fact_here", "_law_other"] [v0, v1, v2] = [some v0, some v1, some v2, none, none, none, none, none, none] := rfl
abbrev s_law_refers : Stmt := top 25
theorem sc_law_refers : FnScope ["_law_step_here", "_law_i", "_law_m"] ["_law_step_here"] (defScope s_law_refers) := ⟨rfl, rfl, rfl, by decide +kernel, rfl, by decide +kernel, by decide +kernel⟩
theorem st_law_refers (v0 : V) : L2.start ["_law_step_here", "_law_i", "_law_m"] [v0] = [some v0, none, none] := rfl
abbrev s_law_under : Stmt := top 26
theorem sc_law_under : FnScope ["_law_steps", "_law_found", "_law_n", "_law_step_here", "_law_behind", "_law_i", "_law_k"] ["_law_steps"] (defScope s_law_under) := ⟨rfl, rfl, rfl, by decide +kernel, rfl, by decide +kernel, by decide +kernel⟩
theorem st_law_under (v0 : V) : L2.start ["_law_steps", "_law_found", "_law_n", "_law_step_here", "_law_behind", "_law_i", "_law_k"] [v0] = [some v0, none, none, none, none, none, none] := rfl
abbrev s_law_unknowns : Stmt := top 27
theorem sc_law_unknowns : FnScope ["_law_tape_here", "_law_found", "_law_v"] ["_law_tape_here"] (defScope s_law_unknowns) := ⟨rfl, rfl, rfl, by decide +kernel, rfl, by decide +kernel, by decide +kernel⟩
theorem st_law_unknowns (v0 : V) : L2.start ["_law_tape_here", "_law_found", "_law_v"] [v0] = [some v0, none, none] := rfl
abbrev s_law_kept : Stmt := top 28
theorem sc_law_kept : FnScope ["_law_step_here", "_law_n", "_law_places", "_law_i", "_law_k"] ["_law_step_here", "_law_n"] (defScope s_law_kept) := ⟨rfl, rfl, rfl, by decide +kernel, rfl, by decide +kernel, by decide +kernel⟩
theorem st_law_kept (v0 v1 : V) : L2.start ["_law_step_here", "_law_n", "_law_places", "_law_i", "_law_k"] [v0, v1] = [some v0, some v1, none, none, none] := rfl
abbrev s_law : Stmt := top 29
theorem sc_law : FnScope ["_law_script", "_law_tape_here", "_law_unknowns_here", "_law_bodies", "_law_steps", "_law_k", "_law_step_here", "_law_found", "_law_told"] ["_law_script"] (defScope s_law) := ⟨rfl, rfl, rfl, by decide +kernel, rfl, by decide +kernel, by decide +kernel⟩
theorem st_law (v0 : V) : L2.start ["_law_script", "_law_tape_here", "_law_unknowns_here", "_law_bodies", "_law_steps", "_law_k", "_law_step_here", "_law_found", "_law_told"] [v0] = [some v0, none, none, none, none, none, none, none, none] := rfl
structure Bi (K : PySem.W.Frag) (mg : Str → Option Value) : Prop where
  n_len : mg "len" = none
  n_int : mg "int" = none
  n_list : mg "list" = none
  n_tuple : mg "tuple" = none
  n_range : mg "range" = none
  n_isinstance : mg "isinstance" = none
  n_bool : mg "bool" = none
  n_str : mg "str" = none
  n_set : mg "set" = none
  n_sorted : mg "sorted" = none
  n_abs : mg "abs" = none
  n_enumerate : mg "enumerate" = none
section
variable {P : Program} {w : World} {K : PySem.W.Frag} {mg : Str → Option Value} {base : Heap}
theorem ok_law_draw {f : Addr} {fd : FuncData} (F : Fun K "_law_draw" "_law_draw" s_law_draw f fd) (B : Bi K mg)  : FnOk P w K mg base CX0 1 f fd ["_law_tape_here", "_law_many"] spDraw := by
  have nd := sc_law_draw.nd
  refine F.ok sc_law_draw ?len (fun cdv A outer s H vs Q E hr h => ?body)
  case len =>
    rintro vs H Q E ⟨t, c, m, rfl, _⟩
    rfl
  case body =>
    obtain ⟨t, c, m, rfl, T, hm1, hm2, q⟩ := h
    refine ⟨_, (Evl.pss_cut (ps_if (pt_cmpR op_lt (pe_ix (ixL K) (pv 0) pe_int (fun _ _ => rfl)) (pv 1) (nomark _))
      (pss_cons (ps_set (i := 2) nd rfl (Or.inl rfl) (pe_ix (ixL K) (pv 0) pe_int (fun _ _ => rfl)))
      (pss_cons (ps_set (i := 3) nd rfl (Or.inl rfl) (pe_ix (ixL K) (pv 0) pe_int (fun _ _ => rfl)))
      (pss_cons (ps_set (i := 4) nd rfl (Or.inl rfl) pe_int)
      (Evl.pss_cut (ps_if (pt_cmpR op_lt (pv 3) (pe_callB (cgLen K) (by rfl) B.n_len PySem.boot_len (pa_cons (pv 2) pa_nil)) (nomark _))
      (pss_one (ps_set (i := 4) nd rfl (Or.inl rfl) (pe_ix (ixL K) (pv 2) (pv 3) (fun _ _ => rfl))))
      pss_nil)
      (Evl.pss_cut (ps_if (pt_cmpR op_lt (pv 4) pe_int (nomark _))
      (pss_one (ps_set (i := 4) nd rfl (Or.inl rfl) (pe_op op_sub (pe_op op_mul (pe_un un_neg pe_int) (pv 4)) pe_int)))
      pss_nil)
      (Evl.pss_cut (ps_if (pt_cmpR op_lt (pv 4) (pe_op op_pow pe_int pe_int) (nomark _))
      (pss_cons (ps_set (i := 4) nd rfl (Or.inl rfl) (pe_op op_mod (pe_callTy cg_int (by rfl) B.n_int PyProof.Rows.boot_int (pa_cons (pe_op op_add (pe_op op_add (pe_op op_mul (pv 4) pe_int) (pe_op op_mul (pv 3) pe_int)) pe_int) pa_nil)) pe_int))
      (pss_one (ps_set (i := 4) nd rfl (Or.inl rfl) (pe_op op_mod (pe_callTy cg_int (by rfl) B.n_int PyProof.Rows.boot_int (pa_cons (pe_op op_add (pe_op op_add (pe_op op_mul (pv 4) pe_int) (pe_op op_mul (pv 3) pe_int)) pe_int) pa_nil)) pe_int))))
      pss_nil)
      (pss_cons (ps_asg (pe_op op_add (pv 3) pe_int) (pg_sub (pv 0) pe_int set_list))
      (pss_one (ps_asg (pv 4) (pg_sub (pv 0) pe_int set_list))))))))))
      pss_nil)
      (pss_cons (ps_set (i := 5) nd rfl (Or.inl rfl) (pe_op op_mod (pe_callTy cg_int (by rfl) B.n_int PyProof.Rows.boot_int (pa_cons (pe_ix (ixL K) (pv 0) pe_int (fun _ _ => rfl)) pa_nil)) (pv 1)))
      (pss_cons (ps_asg (pe_op op_fdivW (pe_ix (ixL K) (pv 0) pe_int (fun _ _ => rfl)) (pv 1)) (pg_sub (pv 0) pe_int set_list))
      (pss_one (ps_ret (pv 5)))))), ?_⟩
    try dsimp only [L2.cxOf, L2.Cx.nox, L2.Cx.wish]
    rw [st_law_draw]
    obtain ⟨ns, k, z, h1, h2, hk, hz⟩ := id T.ex
    have net := T.ne
    show Evl.tCut _ _ _ _ _
    refine ⟨fun σ' H1 => ∃ (k z : Int) (x1 x2 x3 x4 : Option V), σ' = [some (V.ref t), some (.int m), x1, x2, x3, x4] ∧ H1 t = some (.lst [.ref c, .int k, .int z]) ∧ H1 c = some (.lst (ns.map V.int)) ∧ 0 ≤ k ∧ 0 ≤ z ∧ (H1 = H ∨ Kp [t] H H1), ?_, ?_⟩
    · walk_at "cg"
      refine if_S (fun hc => ?_) (fun hc => ?_)
      · walk_at "cg"
        refine ⟨fun σ' H1 => ∃ z' : Int, σ' = [some (V.ref t), some (.int m), some (V.ref c), some (.int k), some (.int z'), none] ∧ H = H1, ?_, ?_⟩
        · walk_at "cg"
          refine if_S (fun hk1 => ?_) (fun hk1 => ?_)
          · walk_at "cg"
            rw [List.length_map] at hk1
            refine r_ixL h2 (v := .int (ns.getD k.toNat 0)) ?_ ?_
            · have e : k.toNat < ns.length := by omega
              simp [atI, ixN, hk, hk1, e]
            · walk_at "cg"
              exact ⟨_, rfl, rfl⟩
          · walk_at "cg"
            exact ⟨_, rfl, rfl⟩
        · rintro σ' H1 ⟨z1, rfl, rfl⟩
          refine ⟨fun σ' H2 => ∃ z' : Int, 0 ≤ z' ∧ σ' = [some (V.ref t), some (.int m), some (V.ref c), some (.int k), some (.int z'), none] ∧ H = H2, ?_, ?_⟩
          · walk_at "cg"
            refine if_S (fun hk1 => ?_) (fun hk1 => ?_)
            · walk_at "cg"
              exact ⟨_, by omega, rfl, rfl⟩
            · walk_at "cg"
              exact ⟨_, by omega, rfl, rfl⟩
          · rintro σ' H2 ⟨z2, hz2, rfl, rfl⟩
            refine ⟨fun σ' H2 => ∃ z' : Int, 0 ≤ z' ∧ σ' = [some (V.ref t), some (.int m), some (V.ref c), some (.int k), some (.int z'), none] ∧ H = H2, ?_, ?_⟩
            · walk_at "cg"
              refine if_S (fun hk1 => ?_) (fun hk1 => ?_)
              · walk_at "cg"
                exact ⟨_, by omega, rfl, rfl⟩
              · walk_at "cg"
                exact ⟨_, hz2, rfl, rfl⟩
            · rintro σ' H2 ⟨z3, hz3, rfl, rfl⟩
              walk_at "cg"
              intro H2 e1 k1
              walk_at "cg"
              intro H3 e2 k2
              walk_at "cg"
              exact ⟨k + 1, z3, _, _, _, _, rfl, e2, k2.get1 net.symm (k1.get1 net.symm h2), by omega, hz3, .inr ⟨fun b o hb e => k2.k b o hb (k1.k b o hb e), k1.mu⟩⟩
      · walk_at "cg"
        exact ⟨k, z, _, _, _, _, rfl, h1, h2, hk, hz, .inl rfl⟩
    · rintro σ' H1 ⟨k, z, x1, x2, x3, x4, rfl, g1, g2, gk, gz, hk⟩
      walk_at "cg"
      refine r_rI (bigB_ok hm1 hm2) ?_
      walk_at "cg"
      intro H2 e1 k1
      walk_at "cg"
      refine q _ _ (Int.emod_nonneg _ (by omega)) (Int.emod_lt_of_pos _ (by omega)) ⟨ns, k, _, e1, k1.get1 net.symm g2, gk, Int.ediv_nonneg gz (by omega)⟩ ?_
      rcases hk with rfl | hk
      · exact k1
      · exact ⟨fun b o hb e => k1.k b o hb (hk.k b o hb e), hk.mu⟩

theorem ok_law_tape {f : Addr} {fd : FuncData} (F : Fun K "_law_tape" "_law_tape" s_law_tape f fd) (B : Bi K mg)  : FnOk P w K mg base CX0 1 f fd ["_law_script"] (spTape K) := by
  have nd := sc_law_tape.nd
  refine F.ok sc_law_tape ?len (fun cdv A outer s H vs Q E hr h => ?body)
  case len =>
    rintro vs H Q E ⟨a, ns, rfl, _⟩
    rfl
  case body =>
    obtain ⟨a, ns, rfl, hS, q⟩ := h
    refine ⟨_, (pss_one (ps_ret (pe_lst (pa_cons (pe_callTy (cgList K) (by rfl) B.n_list (by decide +kernel) (pa_cons (pv 0) pa_nil)) (pa_cons pe_int (pa_cons pe_int pa_nil)))))), ?_⟩
    try dsimp only [L2.cxOf, L2.Cx.nox, L2.Cx.wish]
    rw [st_law_tape]
    walk_at "cg"
    rename_i c H1 hc h1 k1 t H2 ht h2 k2
    exact q _ _ _ (Kp.free0 (by assumption) ht) hc ⟨ns, 0, 0, h2, k2.get0 h1, by decide, by decide⟩ (by walk_at "cg kp")

theorem ok_law_terms {f : Addr} {fd : FuncData} (F : Fun K "_law_terms" "_law_terms" s_law_terms f fd) (B : Bi K mg) (D_law_draw : Is P w K mg base CX0 1 "_law_draw" ["_law_tape_here", "_law_many"] spDraw) : FnOk P w K mg base CX0 2 f fd ["_law_tape_here", "_law_many"] (spLawTerms K) := by
  have nd := sc_law_terms.nd
  refine F.ok sc_law_terms ?len (fun cdv A outer s H vs Q E hr h => ?body)
  case len =>
    rintro vs H Q E ⟨t, c, m, rfl, _⟩
    rfl
  case body =>
    obtain ⟨t, c, m, rfl, T, m0, m1, q⟩ := h
    refine ⟨_, (pss_cons (ps_set (i := 2) nd rfl (Or.inl rfl) (pe_lst pa_nil))
      (pss_cons (ps_for PassesOwn.never rfl (pi_range1 rfl B.n_range (pa_cons (pv 1) pa_nil)) (pg_name (i := 3) nd rfl (Or.inl rfl))
      (pss_cons (ps_set (i := 4) nd rfl (Or.inl rfl) (pe_op op_sub (pe_is D_law_draw (hr.mono (by decide)) rfl pass0 (pa_cons (pv 0) (pa_cons pe_int pa_nil))) pe_int))
      (pss_one (ps_if (pt_cmpR op_ne (pv 4) pe_int (nomark _))
      (pss_one (ps_expr (pe_bm PySem.F.plainAttrs_list PySem.F.slot_list_append PySem.F.type_list_append mt_append (pv 2) (pa_cons (pe_tup (pa_cons (pv 3) (pa_cons (pv 4) pa_nil))) pa_nil))))
      pss_nil))))
      (pss_one (ps_ret (pe_callTy (cgTuple K) (by rfl) B.n_tuple (by decide +kernel) (pa_cons (pv 2) pa_nil)))))), ?_⟩
    try dsimp only [L2.cxOf, L2.Cx.nox, L2.Cx.wish]
    rw [st_law_terms]
    walk_at "cg"
    rename_i l H1 hl el kl
    have nlt : l ≠ t := by walk_at "cg ne"
    have nlc : l ≠ c := by walk_at "cg ne"
    have T1 : Tp t c H1 := by walk_at "cg h"
    refine r_forR (fun i σ' H' => ∃ (ts : Tms) (refs : List V) (x3 x4 : Option V), σ' = [some (.ref t), some (.int m), some (.ref l), x3, x4] ∧ Tp t c H' ∧ Kp [t] H H' ∧ H' l = some (.lst refs) ∧ ImAll K H' refs (ts.map tD) ∧
      (∀ z ∈ ts, 0 ≤ z.1 ∧ z.1 < i ∧ z.2 ≠ 0 ∧ -3 ≤ z.2 ∧ z.2 ≤ 3) ∧ (ts.map (·.1)).Pairwise (· < ·) ∧ ts.length ≤ i) ⟨[], [], none, none, rfl, T1, by walk_at "cg kp", el, .nil, (fun z hz => by cases hz), List.Pairwise.nil, Nat.le_refl _⟩ ?_ ?_
    · rintro i σ' H2 hi ⟨ts, refs, x3, x4, rfl, T2, k2, e2, A2, ok, asc, hn⟩
      have hrl := mapLenP A2
      clear T1 el kl T
      walk_at "cg"
      refine if_S (fun h0 => ?_) (fun h0 => ?_)
      · walk_at "cg"
        rename_i d H3 d0 d6 T3 k3 pn H4 hpn sn k4 H5 e5 k5
        refine ⟨ts ++ [((i : Int), d - 3)], refs ++ [.ref pn], some (.int (0 + (i : Int))), some (.int (d - 3)), rfl, by walk_at "cg h", by walk_at "cg kp", e5, ?_, fun z hz => ?_, ?_, by simp; omega⟩
        · rw [List.map_append]
          refine (k5.imAll (k4.imAll (k3.imAll A2))).snoc (.tup (k5.tup sn) ?_)
          rw [show (0 + (i : Int)) = (i : Int) by omega]
          exact .cons (.int _) (.cons (.int _) .nil)
        · rcases List.mem_append.mp hz with h | h
          · have q := ok z h
            omega
          · rw [List.mem_singleton] at h
            subst h
            simp only
            omega
        · rw [List.map_append, List.pairwise_append]
          refine ⟨asc, List.pairwise_singleton .., fun a ha b hb => ?_⟩
          obtain ⟨z, hz, rfl⟩ := List.mem_map.mp ha
          have q := ok z hz
          simp only [List.map_cons, List.map_nil, List.mem_singleton] at hb
          subst hb
          exact q.2.1
      · walk_at "cg"
        rename_i d H3 d0 d6 T3 k3
        exact ⟨ts, refs, some (.int (0 + (i : Int))), some (.int (d - 3)), rfl, by walk_at "cg h", by walk_at "cg kp", by walk_at "cg h", by walk_at "cg h", (fun z hz => by have q := ok z hz; omega), asc, by omega⟩
    · rintro σ' H2 ⟨ts, refs, x3, x4, rfl, T2, k2, e2, A2, ok, asc, hn⟩
      clear T1 el kl T
      walk_at "cg"
      exact q _ _ _ (.tup (by assumption) (by walk_at "cg h")) ⟨(fun z hz => by have q := ok z hz; omega), asc, by omega⟩ (by walk_at "cg h") (by walk_at "cg kp")
theorem ok_law_literal {f : Addr} {fd : FuncData} (F : Fun K "_law_literal" "_law_literal" s_law_literal f fd) (B : Bi K mg) (D_law_draw : Is P w K mg base CX0 1 "_law_draw" ["_law_tape_here", "_law_many"] spDraw) : FnOk P w K mg base CX0 2 f fd ["_law_tape_here", "_law_many"] (spLawLiteral K) := by
  have nd := sc_law_literal.nd
  refine F.ok sc_law_literal ?len (fun cdv A outer s H vs Q E hr h => ?body)
  case len =>
    rintro vs H Q E ⟨t, c, m, rfl, _⟩
    rfl
  case body =>
    obtain ⟨t, c, m, rfl, T, m0, m1, q⟩ := h
    refine ⟨_, (pss_cons (ps_set (i := 2) nd rfl (Or.inl rfl) (pe_ix (ixL K) (pe_lst (pa_cons pe_str (pa_cons pe_str (pa_cons pe_str (pa_cons pe_str pa_nil))))) (pe_is D_law_draw (hr.mono (by decide)) rfl pass0 (pa_cons (pv 0) (pa_cons pe_int pa_nil))) (fun _ _ => rfl)))
      (pss_one (ps_ret (pe_tup (pa_cons (pe_is D_law_draw (hr.mono (by decide)) rfl pass0 (pa_cons (pv 0) (pa_cons (pv 1) pa_nil))) (pa_cons (pv 2) (pa_cons (pe_op op_sub (pe_is D_law_draw (hr.mono (by decide)) rfl pass0 (pa_cons (pv 0) (pa_cons pe_int pa_nil))) pe_int) pa_nil))))))), ?_⟩
    try dsimp only [L2.cxOf, L2.Cx.nox, L2.Cx.wish]
    rw [st_law_literal]
    have mb : m < bigB := by
      have e : (60 : Int) < bigB := by decide
      omega
    walk_at "cg"
    refine ix_rel4 (by walk_at "cg h") (by assumption) (by assumption) fun r => ?_
    walk_at "cg"
    rename_i d1 _ _ _ _ _ d2 _ _ _ _ _ p1 H5 _ _ _
    exact q p1 ⟨d1, r, d2 - 3⟩ _ (by assumption) ⟨by assumption, by assumption, by simp only; omega, by simp only; omega⟩ (by walk_at "cg h") (by walk_at "cg kp")
theorem ok_law_some {f : Addr} {fd : FuncData} (F : Fun K "_law_some" "_law_some" s_law_some f fd) (B : Bi K mg) (D_law_draw : Is P w K mg base CX0 1 "_law_draw" ["_law_tape_here", "_law_many"] spDraw) : FnOk P w K mg base CX0 2 f fd ["_law_tape_here", "_law_many", "_law_least"] (spLawSome K) := by
  have nd := sc_law_some.nd
  refine F.ok sc_law_some ?len (fun cdv A outer s H vs Q E hr h => ?body)
  case len =>
    rintro vs H Q E ⟨t, c, m, k, rfl, _⟩
    rfl
  case body =>
    obtain ⟨t, c, m, k, rfl, T, k0, k1, m1, q⟩ := h
    refine ⟨_, (pss_cons (ps_set (i := 3) nd rfl (Or.inl rfl) (pe_listRg rfl (by rfl) B.n_list (prg_1 (by rfl) B.n_range (pv 1))))
      (pss_cons (ps_set (i := 4) nd rfl (Or.inl rfl) (pe_lst pa_nil))
      (pss_cons (ps_for PassesOwn.never rfl (pi_range1 rfl B.n_range (pa_cons (pe_op op_add (pv 2) (pe_is D_law_draw (hr.mono (by decide)) rfl pass0 (pa_cons (pv 0) (pa_cons (pe_op op_add (pe_op op_sub (pv 1) (pv 2)) pe_int) pa_nil)))) pa_nil)) (pg_name (i := 5) nd rfl (Or.inl rfl))
      (pss_one (ps_expr (pe_bm PySem.F.plainAttrs_list PySem.F.slot_list_append PySem.F.type_list_append mt_append (pv 4) (pa_cons (pe_bm PySem.F.plainAttrs_list PySem.F.slot_list_pop PySem.F.type_list_pop mt_popAt (pv 3) (pa_cons (pe_is D_law_draw (hr.mono (by decide)) rfl pass0 (pa_cons (pv 0) (pa_cons (pe_callB (cgLen K) (by rfl) B.n_len PySem.boot_len (pa_cons (pv 3) pa_nil)) pa_nil))) pa_nil)) pa_nil)))))
      (pss_one (ps_ret (pe_callTy (cgTuple K) (by rfl) B.n_tuple (by decide +kernel) (pa_cons (pv 4) pa_nil))))))), ?_⟩
    try dsimp only [L2.cxOf, L2.Cx.nox, L2.Cx.wish]
    rw [st_law_some]
    have mb : m - k + 1 < bigB := by
      have e : (62 : Int) < bigB := by decide
      omega
    walk_at "cg"
    refine r_lstRg (by omega) (by omega) fun l1 H1 hl1 el1 kl1 => ?_
    walk_at "cg"
    rename_i l2 H2 hl2 el2 kl2 d H3 d0 d1 T3 kd
    have n1t : l1 ≠ t := by walk_at "cg ne"
    have n1c : l1 ≠ c := by walk_at "cg ne"
    have n2t : l2 ≠ t := by walk_at "cg ne"
    have n2c : l2 ≠ c := by walk_at "cg ne"
    have n12 : l1 ≠ l2 := ne_newL hl2 el1
    have K3 : Kp [t] H H3 := by walk_at "cg kp"
    have E1 : H3 l1 = some (.lst ((rgI 0 m).map V.int)) := Kp.get1 kd n1t (kl2.get0 el1)
    have E2 : H3 l2 = some (.lst []) := Kp.get1 kd n2t el2
    have f1 : H l1 = none := hl1
    have f2 : H l2 = none := by walk_at "cg fr"
    clear T kl1 kl2 el1 el2 kd hl2
    refine r_forR (fun i σ' H' => ∃ (rs fs : List Int) (x5 : Option V), σ' = [some (.ref t), some (.int m), some (.int k), some (.ref l1), some (.ref l2), x5] ∧ Tp t c H' ∧ Kp [t] H H' ∧ H' l1 = some (.lst (rs.map V.int)) ∧ H' l2 = some (.lst (fs.map V.int)) ∧
      (fs ++ rs).Perm (rgI 0 m) ∧ fs.length = i) ⟨rgI 0 m, [], _, rfl, T3, K3, E1, E2, by rw [List.nil_append], rfl⟩ ?_ ?_
    · clear T3 K3 E1 E2
      rintro i σ' H4 hi ⟨rs, fs, x5, rfl, T4, k4, e1, e2, pm, hn⟩
      have tot := pm.length_eq
      rw [List.length_append, rgI_len] at tot
      have hrl : (rs.map V.int).length = rs.length := List.length_map ..
      have hr1 : 1 ≤ (((rs.map V.int).length : Nat) : Int) := by omega
      have hrb : (((rs.map V.int).length : Nat) : Int) < bigB := by
        have e : (62 : Int) < bigB := by decide
        omega
      have hfl : (fs.map V.int).length = fs.length := List.length_map ..
      walk_at "cg"
      rename_i d' H5 d0' d1' T5 k5
      refine r_pop (by walk_at "cg h") d0' (by omega) (by omega) fun y H6 ey e6 k6 => ?_
      rw [List.getElem?_map] at ey
      cases hy : rs[d'.toNat]? with
      | none =>
        rw [hy] at ey
        cases ey
      | some y' =>
        rw [hy] at ey
        cases ey
        have E6 : H6 l2 = some (.lst (fs.map V.int)) := Kp.get1 k6 n12.symm (by walk_at "cg h")
        walk_at "cg"
        rename_i H7 e7 k7
        refine ⟨rs.eraseIdx d'.toNat, fs ++ [y'], _, rfl, by walk_at "cg h", by walk_at "cg kp", ?_, by rw [e7, List.map_append]; rfl, some_step pm hy, by simp [hn]⟩
        rw [← erase_map]
        exact Kp.get1 k7 n12 e6
    · clear T3 K3 E1 E2
      rintro σ' H4 ⟨rs, fs, x5, rfl, T4, k4, e1, e2, pm, hn⟩
      walk_at "cg"
      have tot := pm.length_eq
      rw [List.length_append, rgI_len] at tot
      have nd : (fs ++ rs).Nodup := pm.nodup_iff.mpr ((rgI_asc 0 m).imp fun {a b} h => by omega)
      refine q _ fs _ (by assumption) ⟨(List.nodup_append.mp nd).1, fun u hu => ?_⟩ (by omega) (by omega) (by walk_at "cg h") (by walk_at "cg kp")
      have hm := pm.mem_iff.mp (List.mem_append_left rs hu)
      rw [rgI_mem] at hm
      omega

theorem ok_law_body {f : Addr} {fd : FuncData} (F : Fun K "_law_body" "_law_body" s_law_body f fd) (B : Bi K mg) (D_law_draw : Is P w K mg base CX0 1 "_law_draw" ["_law_tape_here", "_law_many"] spDraw) (D_law_literal : Is P w K mg base CX0 2 "_law_literal" ["_law_tape_here", "_law_many"] (spLawLiteral K)) (D_law_terms : Is P w K mg base CX0 2 "_law_terms" ["_law_tape_here", "_law_many"] (spLawTerms K)) (D_law_some : Is P w K mg base CX0 2 "_law_some" ["_law_tape_here", "_law_many", "_law_least"] (spLawSome K)) : FnOk P w K mg base CX0 3 f fd ["_law_tape_here", "_law_many"] (spLawBody K) := by
  have nd := sc_law_body.nd
  refine F.ok sc_law_body ?len (fun cdv A outer s H vs Q E hr h => ?body)
  case len =>
    rintro vs H Q E ⟨t, c, m, rfl, _⟩
    rfl
  case body =>
    obtain ⟨t, c, m, rfl, T, m0, m1, q⟩ := h
    refine ⟨_, (pss_cons (ps_set (i := 2) nd rfl (Or.inl rfl) (pe_is D_law_draw (hr.mono (by decide)) rfl pass0 (pa_cons (pv 0) (pa_cons pe_int pa_nil))))
      (pss_cons (ps_set (i := 3) nd rfl (Or.inl rfl) (pe_ix (ixL K) (pe_lst (pa_cons pe_str (pa_cons pe_str (pa_cons pe_str pa_nil)))) (pe_is D_law_draw (hr.mono (by decide)) rfl pass0 (pa_cons (pv 0) (pa_cons pe_int pa_nil))) (fun _ _ => rfl)))
      (pss_cons (ps_if (pt_cmpR op_eq (pv 2) pe_int (nomark _))
      (pss_cons (ps_set (i := 4) nd rfl (Or.inl rfl) (pe_lst pa_nil))
      (pss_cons (ps_for PassesOwn.never rfl (pi_range1 rfl B.n_range (pa_cons (pe_op op_add pe_int (pe_is D_law_draw (hr.mono (by decide)) rfl pass0 (pa_cons (pv 0) (pa_cons pe_int pa_nil)))) pa_nil)) (pg_name (i := 5) nd rfl (Or.inl rfl))
      (pss_cons (ps_set (i := 6) nd rfl (Or.inl rfl) (pe_is D_law_literal (hr.mono (by decide)) rfl pass0 (pa_cons (pv 0) (pa_cons (pv 1) pa_nil))))
      (pss_one (ps_if (pt_cmpR (notInDL K hr) (pv 6) (pv 4) rfl)
      (pss_one (ps_expr (pe_bm PySem.F.plainAttrs_list PySem.F.slot_list_append PySem.F.type_list_append mt_append (pv 4) (pa_cons (pv 6) pa_nil))))
      pss_nil))))
      (pss_one (ps_ret (pe_tup (pa_cons pe_str (pa_cons (pe_callTy (cgTuple K) (by rfl) B.n_tuple (by decide +kernel) (pa_cons (pv 4) pa_nil)) pa_nil)))))))
      pss_nil)
      (pss_cons (ps_if (pt_cmpR op_eq (pv 2) pe_int (nomark _))
      (pss_cons (ps_set (i := 6) nd rfl (Or.inl rfl) (pe_is D_law_literal (hr.mono (by decide)) rfl pass0 (pa_cons (pv 0) (pa_cons (pv 1) pa_nil))))
      (pss_one (ps_ret (pe_tup (pa_cons pe_str (pa_cons (pv 6) (pa_cons (pe_is D_law_terms (hr.mono (by decide)) rfl pass0 (pa_cons (pv 0) (pa_cons (pv 1) pa_nil))) (pa_cons (pv 3) (pa_cons (pe_op op_sub (pe_is D_law_draw (hr.mono (by decide)) rfl pass0 (pa_cons (pv 0) (pa_cons pe_int pa_nil))) pe_int) pa_nil)))))))))
      pss_nil)
      (pss_cons (ps_if (PW.pt (pw_and (pt_cmpR op_eq (pv 2) pe_int (nomark _)) (pw_and1 (pt_cmpR op_gt (pv 1) pe_int (nomark _)))))
      (pss_one (ps_ret (pe_tup (pa_cons pe_str (pa_cons (pe_is D_law_some (hr.mono (by decide)) rfl pass0 (pa_cons (pv 0) (pa_cons (pv 1) (pa_cons pe_int pa_nil)))) pa_nil)))))
      pss_nil)
      (pss_cons (ps_if (pt_cmpR op_eq (pv 2) pe_int (nomark _))
      (pss_cons (ps_set (i := 7) nd rfl (Or.inl rfl) (pe_slice (slA K) (pe_is D_law_some (hr.mono (by decide)) rfl pass0 (pa_cons (pv 0) (pa_cons (pv 1) (pa_cons pe_int pa_nil)))) po_none (po_some pe_int)))
      (pss_cons (ps_set (i := 8) nd rfl (Or.inl rfl) (pe_lst pa_nil))
      (pss_cons (ps_for PassesOwn.never rfl (pi_range1 rfl B.n_range (pa_cons (pe_op op_add pe_int (pe_is D_law_draw (hr.mono (by decide)) rfl pass0 (pa_cons (pv 0) (pa_cons pe_int pa_nil)))) pa_nil)) (pg_name (i := 5) nd rfl (Or.inl rfl))
      (pss_one (ps_expr (pe_bm PySem.F.plainAttrs_list PySem.F.slot_list_append PySem.F.type_list_append mt_append (pv 8) (pa_cons (pe_callTy (cgTuple K) (by rfl) B.n_tuple (by decide +kernel) (pa_cons (by exact pe_lc (own := [("_law_v", 10)]) (g := (gName 10)) (tt := tYes) rfl nd (pi_tup (pv 7)) (blkOk_by (N := ["_law_tape_here", "_law_many", "_law_kind", "_law_relation", "_law_literals", "_law_k", "_law_literal_here", "_law_numbers", "_law_rows", "_law_entries", "_law_v"]) (sc := defScope s_law_body) (by decide +kernel)) (fun _ _ _ _ _ => (pg_name (i := 10) nd rfl (Or.inl rfl))) (fun _ _ _ _ _ => pts_nil) (fun _ _ _ _ _ => (pe_op op_sub (pe_is D_law_draw (hr.mono (by decide)) rfl pass0 (pa_cons (pv 0) (pa_cons pe_int pa_nil))) pe_int))) pa_nil)) pa_nil)))))
      (pss_one (ps_ret (pe_tup (pa_cons pe_str (pa_cons (pv 7) (pa_cons (pe_callTy (cgTuple K) (by rfl) B.n_tuple (by decide +kernel) (pa_cons (pv 8) pa_nil)) pa_nil)))))))))
      pss_nil)
      (pss_cons (ps_if (pt_cmpR op_eq (pv 2) pe_int (nomark _))
      (pss_cons (ps_setLc (i := 9) (own := [("_law_k", 5)]) (g := (gName 5)) (tt := tYes) rfl nd rfl rfl (sw_true rfl rfl rfl (by decide +kernel)) (pi_range1 rfl B.n_range (pa_cons (pe_op op_add pe_int (pe_is D_law_draw (hr.mono (by decide)) rfl pass0 (pa_cons (pv 0) (pa_cons pe_int pa_nil)))) pa_nil)) (blkOk_by (N := ["_law_tape_here", "_law_many", "_law_kind", "_law_relation", "_law_literals", "_law_k", "_law_literal_here", "_law_numbers", "_law_rows", "_law_entries", "_law_v"]) (sc := defScope s_law_body) (by decide +kernel)) (fun _ _ _ _ _ => (pg_name (i := 5) nd rfl (Or.inl rfl))) (fun _ _ _ _ _ => pts_nil) (fun _ _ _ _ _ => (pe_op op_sub (pe_is D_law_draw (hr.mono (by decide)) rfl pass0 (pa_cons (pv 0) (pa_cons pe_int pa_nil))) pe_int)))
      (pss_one (ps_ret (pe_tup (pa_cons pe_str (pa_cons (pe_is D_law_draw (hr.mono (by decide)) rfl pass0 (pa_cons (pv 0) (pa_cons (pv 1) pa_nil))) (pa_cons (pe_callTy (cgTuple K) (by rfl) B.n_tuple (by decide +kernel) (pa_cons (pv 9) pa_nil)) (pa_cons (pe_is D_law_draw (hr.mono (by decide)) rfl pass0 (pa_cons (pv 0) (pa_cons (pv 1) pa_nil))) pa_nil))))))))
      pss_nil)
      (pss_cons (ps_if (pt_cmpR op_eq (pv 2) pe_int (nomark _))
      (pss_one (ps_ret (pe_tup (pa_cons pe_str (pa_cons (pe_is D_law_draw (hr.mono (by decide)) rfl pass0 (pa_cons (pv 0) (pa_cons (pv 1) pa_nil))) (pa_cons (pe_is D_law_draw (hr.mono (by decide)) rfl pass0 (pa_cons (pv 0) (pa_cons (pv 1) pa_nil))) (pa_cons (pe_is D_law_draw (hr.mono (by decide)) rfl pass0 (pa_cons (pv 0) (pa_cons (pv 1) pa_nil))) pa_nil)))))))
      pss_nil)
      (pss_one (ps_ret (pe_tup (pa_cons pe_str (pa_cons (pe_is D_law_terms (hr.mono (by decide)) rfl pass0 (pa_cons (pv 0) (pa_cons (pv 1) pa_nil))) (pa_cons (pv 3) (pa_cons (pe_op op_sub (pe_is D_law_draw (hr.mono (by decide)) rfl pass0 (pa_cons (pv 0) (pa_cons pe_int pa_nil))) pe_int) pa_nil))))))))))))))), ?_⟩
    try dsimp only [L2.cxOf, L2.Cx.nox, L2.Cx.wish]
    rw [st_law_body]
    have mb : m < bigB := by
      have e : (60 : Int) < bigB := by decide
      omega
    walk_at "cg"
    rename_i dk Hk dk0 dk1 Tk kk pl H1 hpl epl kl dr H2 dr0 dr1 T2 k2
    refine ix_rel3 (by walk_at "cg h") dr0 dr1 fun r hr3 => ?_
    have K2 : Kp [t] H H2 := Kp.tr1 k2 (Kp.tr0 kl kk)
    clear kk epl kl k2 Tk T
    walk_at "cg"
    refine if_S (fun c2 => ?_) (fun c2 => ?_)
    · -- any
      walk_at "cg"
      rename_i l H3 hl el kl d H4 d0 d1 T4 kd
      have nlt : l ≠ t := by walk_at "cg ne"
      have nlc : l ≠ c := by walk_at "cg ne"
      have fl : H l = none := by
        refine K2.free hl fun b hb => ?_
        rw [List.mem_singleton] at hb
        subst hb
        exact T2.it
      have K4 : Kp [t] H H4 := Kp.tr1 kd (Kp.tr0 kl K2)
      have E4 : H4 l = some (.lst []) := Kp.get1 kd nlt el
      clear K2 T2 kl el kd
      refine r_forR (fun i σ' H' => ∃ (ls : List Lit) (refs : List V) (x5 x6 : Option V), σ' = [some (.ref t), some (.int m), some (.int dk), some (.str r.s), some (.ref l), x5, x6, none, none, none, none] ∧ Tp t c H' ∧ Kp [t] H H' ∧ H' l = some (.lst refs) ∧ ImAll K H' refs (ls.map Lit.d) ∧
        ls.Nodup ∧ (∀ x ∈ ls, litFit m x) ∧ ls.length ≤ i ∧ (0 < i → 0 < ls.length)) ⟨[], [], none, none, rfl, T4, K4, E4, .nil, List.nodup_nil, (fun z hz => by cases hz), Nat.le_refl _, fun h => absurd h (by decide)⟩ ?_ ?_
      · clear T4 K4 E4
        rintro i σ' H5 hi ⟨ls, refs, x5, x6, rfl, T5, k5, e5, A5, nd, ok, hn, h1⟩
        have hrl := mapLenP A5
        walk_at "cg"
        refine ⟨t, c, m, rfl, T5, by omega, by omega, fun p x H6 L6 f6 T6 k6 => ?_⟩
        have e6 := Kp.get1 k6 nlt e5
        have A6 := k6.imAll A5
        walk_at "cg"
        refine ⟨x.d, ls.map Lit.d, Im.dp (lit_mk L6), .lst (SqL.of e6) A6.dp, (Lit.shp x).ok, (Shp.list (n := 1) fun d hd => ?_).ok, ?_⟩
        · obtain ⟨z, _, rfl⟩ := List.mem_map.mp hd
          exact Lit.shp z
        rw [any_in Lit.eqv]
        walk_at "cg"
        refine if_NS (fun hm => ?_) (fun hm => ?_)
        · walk_at "cg"
          rename_i H7 e7 k7
          refine ⟨ls ++ [x], refs ++ [.ref p], _, _, rfl, by walk_at "cg h", by walk_at "cg kp", e7, ?_, ?_, fun z hz => ?_, by simp; omega, fun _ => by simp⟩
          · rw [List.map_append]
            exact (k7.imAll A6).snoc (k7.im (lit_mk L6))
          · rw [List.nodup_append]
            exact ⟨nd, by simp, fun a ha b hb => by rw [List.mem_singleton] at hb; subst hb; exact fun e => hm (e ▸ ha)⟩
          · rcases List.mem_append.mp hz with h | h
            · exact ok z h
            · rw [List.mem_singleton] at h
              subst h
              exact f6
        · walk_at "cg"
          exact ⟨ls, refs, _, _, rfl, by walk_at "cg h", by walk_at "cg kp", e6, A6, nd, ok, by omega, fun _ => List.length_pos_of_mem hm⟩
      · clear T4 K4 E4
        rintro σ' H5 ⟨ls, refs, x5, x6, rfl, T5, k5, e5, A5, nd, ok, hn, h1⟩
        have h1' := h1 (by omega)
        walk_at "cg"
        exact q _ (.any ls) _ (.tup (by assumption) (.cons (.str _) (.cons (.tup (by walk_at "cg h") (by walk_at "cg h")) .nil))) ⟨⟨h1', by omega⟩, nd, ok⟩ (by walk_at "cg h") (by walk_at "cg kp")
    · walk_at "cg"
      refine if_S (fun c3 => ?_) (fun c3 => ?_)
      · -- when
        walk_at "cg"
        refine ⟨t, c, m, rfl, by walk_at "cg h", by omega, by omega, fun p x H6 L6 f6 T6 k6 => ?_⟩
        walk_at "cg"
        refine ⟨t, c, m, rfl, by walk_at "cg h", by omega, by omega, fun p2 ts H7 I7 f7 T7 k7 => ?_⟩
        walk_at "cg"
        exact q _ (.when x ts r _) _ (.tup (by assumption) (.cons (.str _) (.cons (lit_mk (by walk_at "cg h")) (.cons (by walk_at "cg h") (.cons (.str _) (.cons (.int _) .nil)))))) ⟨f6, f7.fit (by omega), hr3, by omega, by omega⟩ (by walk_at "cg h") (by walk_at "cg kp")
      · walk_at "cg"
        refine if_S (fun c4 => ?_) (fun c4 => ?_)
        · walk_at "cg"
          refine if_S (fun c5 => ?_) (fun c5 => ?_)
          · walk_at "cg"
            refine ⟨t, c, m, 2, rfl, by walk_at "cg h", by omega, by omega, by omega, fun p us H6 S6 f6 u0 u1 T6 k6 => ?_⟩
            walk_at "cg"
            exact q _ (.diff us) _ (.tup (by assumption) (.cons (.str _) (.cons (intsT_im (by walk_at "cg h")) .nil))) ⟨⟨by omega, by omega⟩, f6⟩ (by walk_at "cg h") (by walk_at "cg kp")
          · -- row, one unknown
            walk_at "cg"
            refine ⟨t, c, m, rfl, by walk_at "cg h", by omega, by omega, fun p2 ts H7 I7 f7 T7 k7 => ?_⟩
            walk_at "cg"
            exact q _ (.row ts r _) _ (.tup (by assumption) (.cons (.str _) (.cons (by walk_at "cg h") (.cons (.str _) (.cons (.int _) .nil))))) ⟨f7.fit (by omega), hr3, by omega, by omega⟩ (by walk_at "cg h") (by walk_at "cg kp")
        · walk_at "cg"
          refine if_S (fun c5 => ?_) (fun c5 => ?_)
          · -- table
            walk_at "cg"
            refine ⟨t, c, m, 1, rfl, by walk_at "cg h", by omega, by omega, by omega, fun p us H6 S6 f6 u0 u1 T6 k6 => ?_⟩
            walk_at "cg"
            refine r_slA (n := 3) S6 fun p3 H7 S7 k7 => ?_
            have S7' : SqT K H7 p3 ((us.take 3).map V.int) := by rw [List.map_take]; exact S7
            have f7 : numFit m (us.take 3) := ⟨f6.1.sublist (List.take_sublist ..), fun u hu => f6.2 u (List.mem_of_mem_take hu)⟩
            have l7 : 1 ≤ (us.take 3).length ∧ (us.take 3).length ≤ 3 := by rw [List.length_take]; omega
            generalize us.take 3 = ws at S7' f7 l7
            have T7 : Tp t c H7 := T6.kp0 k7
            have K7 : Kp [t] H H7 := Kp.tr0 k7 (Kp.tr1 k6 K2)
            clear S7 k7 S6 k6 T6 K2 T2
            walk_at "cg"
            rename_i l H3 hl el kl d H4 d0 d1 T4 kd
            have nlt : l ≠ t := by walk_at "cg ne"
            have nlc : l ≠ c := by walk_at "cg ne"
            have fl : H l = none := by
              refine K7.free hl fun b hb => ?_
              rw [List.mem_singleton] at hb
              subst hb
              exact T7.it
            have K4 : Kp [t] H H4 := Kp.tr1 kd (Kp.tr0 kl K7)
            have E4 : H4 l = some (.lst []) := Kp.get1 kd nlt el
            have S4 : SqT K H4 p3 (ws.map V.int) := kd.tup (kl.tup S7')
            clear K7 T7 kl el kd S7'
            refine r_forR (fun i σ' H' => ∃ (rows : List (List Int)) (refs : List V) (x5 x6 x9 x10 x11 : Option V), σ' = [some (.ref t), some (.int m), some (.int dk), some (.str r.s), x5, x6, x9, some (.ref p3), some (.ref l), x10, x11] ∧ Tp t c H' ∧ Kp [t] H H' ∧ SqT K H' p3 (ws.map V.int) ∧ H' l = some (.lst refs) ∧ ImAll K H' refs (rows.map intsD) ∧
              (∀ x ∈ rows, x.length = ws.length ∧ entFit x) ∧ rows.length = i) ⟨[], [], _, _, _, _, _, rfl, T4, K4, S4, E4, .nil, (fun z hz => by cases hz), rfl⟩ ?_ ?_
            · clear T4 K4 E4 S4
              rintro i σ' H5 hi ⟨rows, refs, x5, x6, x9, x10, x11, rfl, T5, k5, S5, e5, A5, ok, hn⟩
              have hrl := mapLenP A5
              walk_at "cg"
              refine lcT_d S5 (imInts ws) PyData.int (fun _ z => -1000 ≤ z ∧ z ≤ 1000) T5 (by omega) (fun j b x H' R R' hb hx T' k' q' => ?_) (fun D H6 acc as hD eD hl2 hP hA T6 k6 => ?_)
              · walk_at "cg"
                exact q' _ _ _ (by omega) (.int _) (by walk_at "cg h") (by walk_at "cg kp")
              · have e6 := Kp.get1 k6 nlt e5
                have A6 := k6.imAll A5
                rw [hA.ints] at eD
                walk_at "cg"
                rename_i p9 H9 hp9 s9 k9 H10 e10 k10
                refine ⟨rows ++ [as], refs ++ [.ref p9], _, _, _, _, _, rfl, by walk_at "cg h", by walk_at "cg kp", by walk_at "cg h", e10, ?_, fun z hz => ?_, by simp [hn]⟩
                · rw [List.map_append]
                  exact (k10.imAll (k9.imAll A6)).snoc (k10.im (intsT_im s9))
                · rcases List.mem_append.mp hz with h | h
                  · exact ok z h
                  · rw [List.mem_singleton] at h
                    subst h
                    refine ⟨hl2, fun e he => ?_⟩
                    obtain ⟨j, hj⟩ := List.getElem?_of_mem he
                    obtain ⟨_, _, g⟩ := hP j e hj
                    exact g
            · clear T4 K4 E4 S4
              rintro σ' H5 ⟨rows, refs, x5, x6, x9, x10, x11, rfl, T5, k5, S5, e5, A5, ok, hn⟩
              walk_at "cg"
              exact q _ (.table ws rows) _ (.tup (by assumption) (.cons (.str _) (.cons (intsT_im (by walk_at "cg h")) (.cons (.tup (by walk_at "cg h") (by walk_at "cg h")) .nil)))) ⟨⟨⟨l7.1, by omega⟩, f7⟩, ⟨by omega, by omega⟩, ok⟩ (by walk_at "cg h") (by walk_at "cg kp")
          · walk_at "cg"
            refine if_S (fun c6 => ?_) (fun c6 => ?_)
            · -- element
              walk_at "cg"
              rename_i d H4 d0 d1 T4 kd
              refine lcR_d (K := K) PyData.int (fun _ z => -1000 ≤ z ∧ z ≤ 1000) T4 (by omega) (fun j H' R R' hj T' k' q' => ?_) (fun D H6 acc as hD eD hl2 hP hA T6 k6 => ?_)
              · walk_at "cg"
                exact q' _ _ _ (by omega) (.int _) (by walk_at "cg h") (by walk_at "cg kp")
              · rw [hA.ints] at eD
                walk_at "cg"
                refine q _ (.elem _ as _) _ (.tup (by assumption) (.cons (.str _) (.cons (.int _) (.cons (intsT_im (by walk_at "cg h")) (.cons (.int _) .nil))))) ⟨⟨⟨by assumption, by assumption⟩, by assumption, by assumption⟩, ⟨by omega, by omega⟩, fun e he => ?_⟩ (by walk_at "cg h") (by walk_at "cg kp")
                obtain ⟨j, hj⟩ := List.getElem?_of_mem he
                exact hP j e hj
            · walk_at "cg"
              refine if_S (fun c7 => ?_) (fun c7 => ?_)
              · -- times
                walk_at "cg"
                exact q _ (.times _ _ _) _ (.tup (by assumption) (.cons (.str _) (.cons (.int _) (.cons (.int _) (.cons (.int _) .nil))))) ⟨⟨by assumption, by assumption⟩, ⟨by assumption, by assumption⟩, by assumption, by assumption⟩ (by walk_at "cg h") (by walk_at "cg kp")
              · -- row
                walk_at "cg"
                refine ⟨t, c, m, rfl, by walk_at "cg h", by omega, by omega, fun p2 ts H7 I7 f7 T7 k7 => ?_⟩
                walk_at "cg"
                exact q _ (.row ts r _) _ (.tup (by assumption) (.cons (.str _) (.cons (by walk_at "cg h") (.cons (.str _) (.cons (.int _) .nil))))) ⟨f7.fit (by omega), hr3, by omega, by omega⟩ (by walk_at "cg h") (by walk_at "cg kp")

end
/-! ### comprehensions over a range: ints, truth values -/
theorem at_map_range (L : List Int) : (List.range L.length).map (fun i : Nat => at_ L (i : Int)) = L := by
  refine List.ext_getElem (by simp) fun i h1 h2 => ?_
  rw [List.getElem_map, List.getElem_range]
  unfold at_
  rw [Int.toNat_natCast, List.getD_eq_getElem?_getD, List.getElem?_eq_getElem h2]
  rfl
section
variable {σ σ0 : St} {H : Hp} {K : PySem.W.Frag} {g : TG} {tt : TT} {te : TE} {vs : List Nat} {Q : VK} {n : Nat} {lo : Int}
theorem lcR_L (L : List Int) (hn : n = L.length) [hw : Wip σ vs σ0] (small : n ≤ 10000)
    (hs : ∀ (i : Nat) (H' : Hp) (R : V → Hp → Prop) (R' : Hp → Prop), i < L.length → Kp [] H H' → (∀ H4, Kp [] H' H4 → R (.int (at_ L i)) H4) → lcTurn g tt te vs σ σ0 (.int (lo + (i : Int))) H' R R')
    (hd : ∀ D H', H D = none → H' D = some (.lst (L.map V.int)) → Kp [] H H' → Q (.ref D) H') : lcS (Itr lo n) g tt te vs σ H Q :=
  lcR_m (K := default) (fun i => PyData.int (at_ L (i : Int))) small (fun i H' R R' hi k h => hs i H' R R' (hn ▸ hi) k fun H4 k4 => h _ H4 (.int _) k4) fun D H' acc hD eD hA k => hd D H' hD (by
    have e : (List.range n).map (fun i : Nat => PyData.int (at_ L (i : Int))) = L.map PyData.int := by
      have := congrArg (fun l => l.map PyData.int) (at_map_range L)
      rw [List.map_map] at this
      rw [hn]
      exact this
    rw [e] at hA
    rw [eD, hA.ints]) k
theorem lcR_B (f : Nat → Bool) [hw : Wip σ vs σ0] (small : n ≤ 10000)
    (hs : ∀ (i : Nat) (H' : Hp) (R : V → Hp → Prop) (R' : Hp → Prop), i < n → Kp [] H H' → (∀ H4, Kp [] H' H4 → R (.bl (f i)) H4) → lcTurn g tt te vs σ σ0 (.int (lo + (i : Int))) H' R R')
    (hd : ∀ D H', H D = none → H' D = some (.lst (((List.range n).map f).map V.bl)) → Kp [] H H' → Q (.ref D) H') : lcS (Itr lo n) g tt te vs σ H Q :=
  lcR_m (K := default) (fun i => PyData.bool (f i)) small (fun i H' R R' hi k h => hs i H' R R' hi k fun H4 k4 => h _ H4 (.bl _) k4) fun D H' acc hD eD hA k => hd D H' hD (by
    have e : (List.range n).map (fun i : Nat => PyData.bool (f i)) = ((List.range n).map f).map PyData.bool := by rw [List.map_map]; rfl
    rw [e] at hA
    rw [eD, hA.bls]) k
end
theorem mapGetJ {K : PySem.W.Frag} {H : Hp} {α : Type} {f : α → PyData} {xs : List V} {as : List α} {i : Nat} {a : α} (h : ImAll K H xs (as.map f)) (e : as[i]? = some a) : ∃ x, atI xs (0 + (i : Int)) = some x ∧ Im K H x (f a) := by
  have hl := mapLenP h
  have hi := (List.getElem?_eq_some_iff.mp e).1
  obtain ⟨x, hx⟩ : ∃ x, xs[i]? = some x := ⟨_, List.getElem?_eq_getElem (by omega)⟩
  obtain ⟨b, hb, hI⟩ := mapGetP h hx
  rw [e] at hb
  cases hb
  refine ⟨x, ?_, hI⟩
  rw [Int.zero_add, atI_nat (by omega) (by omega), Int.toNat_natCast, hx]

/-! ### facts, points as functions -/
inductive Fact where
  | row (ts : Tms) (n : Int)
  | any (ls : List Lit)
  deriving DecidableEq
def Fact.d : Fact → PyData
  | .row ts n => .tuple [.str (Str.ofString "row"), tmD ts, .int n]
  | .any ls => .tuple [.str (Str.ofString "any"), litsD ls]
theorem Fact.shp (f : Fact) : Shp 3 f.d := by
  cases f with
  | row ts n => exact .tup (shp_cons (.str (by decide +kernel)) (shp_cons (tmD_shp ts) (shp_cons (.int _) shp_nil)))
  | any ls => exact .tup (shp_cons (.str (by decide +kernel)) (shp_cons (litsD_shp ls) shp_nil))
def Fact.h (f : Pt) : Fact → Bool
  | .row ts n => decide (sumF ts f ≤ n)
  | .any ls => ls.any fun l => l.h f
def Fact.vars : Fact → List Int
  | .row ts _ => ts.map (·.1)
  | .any ls => ls.map (·.v)
abbrev FactAt (K : PySem.W.Frag) (H : Hp) (p : Addr) (f : Fact) : Prop := Im K H (.ref p) f.d
section
variable {K : PySem.W.Frag} {H : Hp} {p : Addr} {ts : Tms} {n : Int} {ls : List Lit} {l : Lit} {x : V}
theorem row_open (h : FactAt K H p (.row ts n)) : ∃ q, SqT K H p [.str (Str.ofString "row"), .ref q, .int n] ∧ Im K H (.ref q) (tmD ts) := by
  obtain ⟨_, h1, h2⟩ := Im.open h
  obtain ⟨_, _, rfl, a1, h2⟩ := h2.c
  obtain ⟨_, _, rfl, a2, h2⟩ := h2.c
  obtain ⟨_, _, rfl, a3, h2⟩ := h2.c
  obtain rfl := h2.n
  obtain ⟨q, rfl⟩ := a2.isRef
  cases a1; cases a3
  exact ⟨q, h1, a2⟩
theorem any_open (h : FactAt K H p (.any ls)) : ∃ q, SqT K H p [.str (Str.ofString "any"), .ref q] ∧ Im K H (.ref q) (litsD ls) := by
  obtain ⟨_, h1, h2⟩ := Im.open h
  obtain ⟨_, _, rfl, a1, h2⟩ := h2.c
  obtain ⟨_, _, rfl, a2, h2⟩ := h2.c
  obtain rfl := h2.n
  obtain ⟨q, rfl⟩ := a2.isRef
  cases a1
  exact ⟨q, h1, a2⟩
theorem row_mk (h1 : SqT K H p [.str (Str.ofString "row"), x, .int n]) (h2 : Im K H x (tmD ts)) : FactAt K H p (.row ts n) := .tup h1 (.cons (.str _) (.cons h2 (.cons (.int _) .nil)))
theorem any_mk (h1 : SqT K H p [.str (Str.ofString "any"), x]) (h2 : Im K H x (litsD ls)) : FactAt K H p (.any ls) := .tup h1 (.cons (.str _) (.cons h2 .nil))
theorem fact_at {f : Fact} (h : Im K H x f.d) : ∃ q, x = .ref q ∧ FactAt K H q f := by
  cases f with
  | row ts n =>
    obtain ⟨q, rfl⟩ := Im.isRef h
    exact ⟨q, rfl, h⟩
  | any ls =>
    obtain ⟨q, rfl⟩ := Im.isRef h
    exact ⟨q, rfl, h⟩
end
def Fact.asLit : Fact → Option Lit
  | .row [(v, c)] n => if 0 < c then some ⟨v, .le, n / c⟩ else some ⟨v, .ge, -(n / -c)⟩
  | .any [l] => some l
  | _ => none
theorem asLit_two (l l' : Lit) (ls : List Lit) : (Fact.any (l :: l' :: ls)).asLit = none := by
  obtain ⟨v, r, a⟩ := l
  rfl
theorem asLit_row2 (z z' : Int × Int) (ts : Tms) (n : Int) : (Fact.row (z :: z' :: ts) n).asLit = none := by
  obtain ⟨v, c⟩ := z
  rfl
/-- coefficients that are not 0 and small -/
def Fact.ok (m : Int) : Fact → Prop
  | .row ts n => (∀ z ∈ ts, 0 ≤ z.1 ∧ z.1 < m ∧ z.2 ≠ 0 ∧ -1000000000000000000 ≤ z.2 ∧ z.2 ≤ 1000000000000000000) ∧ ts.length ≤ 60 ∧ n ≤ n ∧ n ≤ n
  | .any ls => (∀ l ∈ ls, 0 ≤ l.v ∧ l.v < m ∧ -1000000000000000000 ≤ l.a ∧ l.a ≤ 1000000000000000000) ∧ ls.length ≤ 60
theorem Fact.ok_vars {m : Int} {f : Fact} (h : f.ok m) : ∀ v ∈ f.vars, 0 ≤ v ∧ v < m := by
  cases f with
  | row ts n =>
    intro v hv
    obtain ⟨z, hz, rfl⟩ := List.mem_map.mp hv
    have q := h.1 z hz
    exact ⟨q.1, q.2.1⟩
  | any ls =>
    intro v hv
    obtain ⟨l, hl, rfl⟩ := List.mem_map.mp hv
    have q := h.1 l hl
    exact ⟨q.1, q.2.1⟩
theorem Fact.asLit_v {f : Fact} {m : Int} {l : Lit} (ok : f.ok m) (h : f.asLit = some l) : 0 ≤ l.v ∧ l.v < m := by
  cases f with
  | row ts n =>
    match ts, h, ok with
    | [], h, _ => cases h
    | z :: z' :: ts, h, _ => rw [asLit_row2] at h; cases h
    | [(v, c)], h, ok =>
      have q := ok.1 (v, c) List.mem_cons_self
      simp only [Fact.asLit] at h
      by_cases hc : 0 < c
      · rw [if_pos hc] at h
        cases h
        exact ⟨q.1, q.2.1⟩
      · rw [if_neg hc] at h
        cases h
        exact ⟨q.1, q.2.1⟩
  | any ls =>
    match ls, h, ok with
    | [], h, _ => cases h
    | l1 :: l2 :: ls, h, _ => rw [asLit_two] at h; cases h
    | [l1], h, ok =>
      have q := ok.1 l1 List.mem_cons_self
      cases h
      exact ⟨q.1, q.2.1⟩
inductive LitO (K : PySem.W.Frag) (H : Hp) : V → Option Lit → Prop
  | none : LitO K H .non Option.none
  | some {p : Addr} {l : Lit} (h : LitAt K H p l.v l.r l.a) : LitO K H (.ref p) (Option.some l)
def spAsLit (K : PySem.W.Frag) : Sp := fun vs H Q _ => ∃ (p : Addr) (f : Fact) (m : Int), vs = [.ref p] ∧ FactAt K H p f ∧ f.ok m ∧ ∀ (x : V) (H' : Hp), LitO K H' x f.asLit → Kp [] H H' → Q x H'
def spTrue (K : PySem.W.Frag) : Sp := fun vs H Q _ => ∃ (p q : Addr) (f : Fact) (g : Pt) (dom : Int → Prop) (m : Int), vs = [.ref p, .ref q] ∧ FactAt K H p f ∧ PtAt K H q g dom ∧ f.ok m ∧ (∀ v ∈ f.vars, dom v) ∧ ∀ H', Kp [] H H' → Q (.bl (f.h g)) H'
/-- a drawn fact -/
def Fact.le (B : Int) : Fact → Prop
  | .row ts _ => ∀ z ∈ ts, -B ≤ z.2 ∧ z.2 ≤ B
  | .any ls => ∀ l ∈ ls, -B ≤ l.a ∧ l.a ≤ B
def spLawFact (K : PySem.W.Frag) : Sp := fun vs H Q _ => ∃ (t c : Addr) (m : Int), vs = [.ref t, .int m] ∧ Tp t c H ∧ 1 ≤ m ∧ m ≤ 60 ∧ ∀ (p : Addr) (f : Fact) (H' : Hp), FactAt K H' p f → f.ok m → f.le 1001 → (f.vars.length : Int) ≤ m + 3 → Tp t c H' → Kp [t] H H' → Q (.ref p) H'
theorem wdiv {i j : Int} (h : 0 < j) (h1 : j ≤ 1000000000000000000) : CDivW i j := wide_div (b := 60) h (show j.natAbs < 1152921504606846976 by omega) (by decide) (by decide)

section
variable {P : Program} {w : World} {K : PySem.W.Frag} {mg : Str → Option Value} {base : Heap}
theorem ok_law_fact {f : Addr} {fd : FuncData} (F : Fun K "_law_fact" "_law_fact" s_law_fact f fd) (B : Bi K mg) (D_law_draw : Is P w K mg base CX0 1 "_law_draw" ["_law_tape_here", "_law_many"] spDraw) (D_law_terms : Is P w K mg base CX0 2 "_law_terms" ["_law_tape_here", "_law_many"] (spLawTerms K)) (D_law_literal : Is P w K mg base CX0 2 "_law_literal" ["_law_tape_here", "_law_many"] (spLawLiteral K)) : FnOk P w K mg base CX0 3 f fd ["_law_tape_here", "_law_many"] (spLawFact K) := by
  have nd := sc_law_fact.nd
  refine F.ok sc_law_fact ?len (fun cdv A outer s H vs Q E hr h => ?body)
  case len =>
    rintro vs H Q E ⟨t, c, m, rfl, _⟩
    rfl
  case body =>
    obtain ⟨t, c, m, rfl, T, m0, m1, q⟩ := h
    refine ⟨_, (pss_cons (ps_if (pt_cmpR op_eq (pe_is D_law_draw (hr.mono (by decide)) rfl pass0 (pa_cons (pv 0) (pa_cons pe_int pa_nil))) pe_int (nomark _))
      (pss_one (ps_ret (pe_tup (pa_cons pe_str (pa_cons (pe_is D_law_terms (hr.mono (by decide)) rfl pass0 (pa_cons (pv 0) (pa_cons (pv 1) pa_nil))) (pa_cons (pe_op op_sub (pe_is D_law_draw (hr.mono (by decide)) rfl pass0 (pa_cons (pv 0) (pa_cons pe_int pa_nil))) pe_int) pa_nil))))))
      pss_nil)
      (pss_one (ps_ret (pe_tup (pa_cons pe_str (pa_cons (pe_callTy (cgTuple K) (by rfl) B.n_tuple (by decide +kernel) (pa_cons (by exact pe_lc (own := [("_law_k", 2)]) (g := (gName 2)) (tt := tYes) rfl nd (pi_range1 rfl B.n_range (pa_cons (pe_is D_law_draw (hr.mono (by decide)) rfl pass0 (pa_cons (pv 0) (pa_cons pe_int pa_nil))) pa_nil)) (blkOk_by (N := ["_law_tape_here", "_law_many", "_law_k"]) (sc := defScope s_law_fact) (by decide +kernel)) (fun _ _ _ _ _ => (pg_name (i := 2) nd rfl (Or.inl rfl))) (fun _ _ _ _ _ => pts_nil) (fun _ _ _ _ _ => (pe_is D_law_literal (hr.mono (by decide)) rfl pass0 (pa_cons (pv 0) (pa_cons (pv 1) pa_nil))))) pa_nil)) pa_nil)))))), ?_⟩
    try dsimp only [L2.cxOf, L2.Cx.nox, L2.Cx.wish]
    rw [st_law_fact]
    walk_at "cg"
    refine if_S (fun h0 => ?_) (fun h0 => ?_)
    · walk_at "cg"
      refine ⟨t, c, m, rfl, by walk_at "cg h", by omega, by omega, fun p ts H2 I2 tl T2 k2 => ?_⟩
      walk_at "cg"
      exact q _ (.row ts _) _ (row_mk (by assumption) (by walk_at "cg h")) ⟨fun z hz => by have q := tl.1 z hz; omega, by have := tl.2.2; omega, by omega, by omega⟩ (fun z hz => by have q := tl.1 z hz; omega) (by show ((ts.map (·.1)).length : Int) ≤ m + 3; have := tl.2.2; rw [List.length_map]; omega) (by walk_at "cg h") (by walk_at "cg kp")
    · walk_at "cg"
      rename_i d0 H0 _ _ T0 k0 d H1 d0 d4 T1 k1
      refine lcR_d (K := K) Lit.d (fun _ l => litFit m l) T1 (by omega) (fun j H' R R' hj T' k' q' => ?_) (fun D H6 acc ls hD eD hl2 hP hA T6 k6 => ?_)
      · walk_at "cg"
        refine ⟨t, c, m, rfl, T', m0, m1, fun p l H3 L3 fl T3 k3 => ?_⟩
        exact q' _ _ _ fl (lit_mk L3) T3 k3
      · walk_at "cg"
        refine q _ (.any ls) _ (any_mk (by assumption) (.tup (by walk_at "cg h") (by walk_at "cg h"))) ⟨fun l hl => ?_, by omega⟩ (fun l hl => ?_) (by show ((ls.map (·.v)).length : Int) ≤ m + 3; rw [List.length_map]; omega) (by walk_at "cg h") (by walk_at "cg kp")
        · obtain ⟨j, hj⟩ := List.getElem?_of_mem hl
          have := hP j l hj
          unfold litFit at this
          omega
        · obtain ⟨j, hj⟩ := List.getElem?_of_mem hl
          have := hP j l hj
          unfold litFit at this
          omega

end
/-! ### steps -/



inductive Rule where
  | bound (v : Int)
  | given (s : Str)
  | suppose
  | sum (ps : List (Int × Int))
  | divide (i d : Int)
  | look (s : Str) (is : List Int)
  | apart (s : Str)
  | thn (s : Str) (i : Int)
  | unit (is : List Int)
  | cases (i j s t : Int)
  | absurd (i : Int)
  | weaken (i : Int)
def Rule.name : Rule → Str
  | .bound _ => Str.ofString "bound"
  | .given _ => Str.ofString "given"
  | .suppose => Str.ofString "suppose"
  | .sum _ => Str.ofString "sum"
  | .divide _ _ => Str.ofString "divide"
  | .look _ _ => Str.ofString "look"
  | .apart _ => Str.ofString "apart"
  | .thn _ _ => Str.ofString "then"
  | .unit _ => Str.ofString "unit"
  | .cases _ _ _ _ => Str.ofString "cases"
  | .absurd _ => Str.ofString "absurd"
  | .weaken _ => Str.ofString "weaken"
def Rule.args : Rule → List PyData
  | .bound v => [.int v]
  | .given s => [.str s]
  | .suppose => []
  | .sum ps => [tmD ps]
  | .divide i d => [.int i, .int d]
  | .look s is => [.str s, intsD is]
  | .apart s => [.str s]
  | .thn s i => [.str s, .int i]
  | .unit is => [intsD is]
  | .cases i j s t => [.int i, .int j, .int s, .int t]
  | .absurd i => [.int i]
  | .weaken i => [.int i]
def Rule.prem : Rule → List Int
  | .sum ps => ps.map (·.1)
  | .divide i _ => [i]
  | .look _ is => is
  | .thn _ i => [i]
  | .unit is => is
  | .cases i j s t => [i, j, s, t]
  | .absurd i => [i]
  | .weaken i => [i]
  | _ => []
def Rule.label : Rule → Option Str
  | .given s => some s
  | .look s _ => some s
  | .apart s => some s
  | .thn s _ => some s
  | _ => none
/-- sizes for the walk -/
def Rule.bd : Rule → Prop
  | .sum ps => ps.length ≤ 60
  | .look _ is => is.length ≤ 60
  | .unit is => is.length ≤ 60
  | _ => True
structure Step where
  f : Fact
  r : Rule
def Step.d (s : Step) : PyData := .tuple (s.f.d :: .str s.r.name :: s.r.args)
theorem step_open {K : PySem.W.Frag} {H : Hp} {p : Addr} {s : Step} (h : Im K H (.ref p) s.d) : ∃ q xs, SqT K H p (.ref q :: .str s.r.name :: xs) ∧ FactAt K H q s.f ∧ ImAll K H xs s.r.args := by
  obtain ⟨_, h1, h2⟩ := Im.open h
  obtain ⟨_, _, rfl, a1, h3⟩ := h2.c
  obtain ⟨_, ys, rfl, a2, h4⟩ := h3.c
  obtain ⟨q, rfl, a3⟩ := fact_at a1
  cases a2
  exact ⟨q, ys, h1, a3, h4⟩
theorem step_mk {K : PySem.W.Frag} {H : Hp} {p q : Addr} {s : Step} {xs : List V} (h : SqT K H p (.ref q :: .str s.r.name :: xs)) (hf : FactAt K H q s.f) (ha : ImAll K H xs s.r.args) : Im K H (.ref p) s.d := .tup h (.cons hf (.cons (.str _) ha))
/-- an entry: a step, or None where it sleeps -/
def entD : Option Step → PyData
  | none => .none
  | some s => s.d
def awake (es : List (Option Step)) (i : Int) : Bool := decide (0 ≤ i) && (decide (i < es.length) && (match es[i.toNat]? with | some (some _) => true | _ => false))
structure EntAt (K : PySem.W.Frag) (H : Hp) (l : Addr) (es : List (Option Step)) : Prop where
  ex : ∃ refs, H l = some (.lst refs) ∧ ImAll K H refs (es.map entD)
theorem EntAt.kp {K : PySem.W.Frag} {H H' : Hp} {l : Addr} {es : List (Option Step)} {S : List Addr} (k : Kp S H H') (h : EntAt K H l es) (n : ¬ l ∈ S) : EntAt K H' l es := by
  obtain ⟨refs, a, b⟩ := h.ex
  exact ⟨refs, k.get n a, k.imAll b⟩
theorem EntAt.kp0 {K : PySem.W.Frag} {H H' : Hp} {l : Addr} {es : List (Option Step)} (k : Kp [] H H') (h : EntAt K H l es) : EntAt K H' l es := h.kp k fun z => nomatch z
def knownB (M : Mdl) (es : List (Option Step)) (s : Step) : Bool :=
  (s.r.prem.all (awake es)) && ((match s.r.label with | some x => decide (x ∈ M.bs.map (·.1)) | none => true) && s.f.vars.all fun v => decide (0 ≤ v) && decide (v < M.us.length))
theorem ok_few {f : Fact} {m : Int} (h : f.ok m) : f.vars.length ≤ 60 := by
  cases f with
  | row ts n => simpa [Fact.vars] using h.2.1
  | any ls => simpa [Fact.vars] using h.2
theorem ok_tms {f : Fact} {m : Int} (h : f.ok m) : ∀ ts n, f = .row ts n → ts.length ≤ 1000 := fun ts n e => by
  subst e
  have := h.2.1
  omega
def spPrem (K : PySem.W.Frag) : Sp := fun vs H Q _ => ∃ (p : Addr) (s : Step), vs = [.ref p] ∧ Im K H (.ref p) s.d ∧ s.r.bd ∧ ∀ (l : Addr) H', H' l = some (.lst (s.r.prem.map V.int)) → Kp [] H H' → Q (.ref l) H'
def spUnkIn (K : PySem.W.Frag) : Sp := fun vs H Q _ => ∃ (p : Addr) (f : Fact), vs = [.ref p] ∧ FactAt K H p f ∧ f.vars.length ≤ 60 ∧ ∀ (l : Addr) (ns : List Int) (H' : Hp), H l = none → H' l = some (.lst (ns.map V.int)) → ns.Pairwise (· < ·) → (∀ k, k ∈ ns ↔ k ∈ f.vars) → Kp [] H H' → Q (.ref l) H'
def spHas (K : PySem.W.Frag) (C : Addr) : Sp := fun vs H Q _ => ∃ (a : MA) (M : Mdl) (x : Str), vs = [.ref a.p, .str x] ∧ MdlAt K C H a M ∧ Q (.bl (decide (x ∈ M.bs.map (·.1)))) H
def spKnown (K : PySem.W.Frag) (C : Addr) : Sp := fun vs H Q _ => ∃ (a : MA) (M : Mdl) (l p : Addr) (es : List (Option Step)) (s : Step), vs = [.ref a.p, .ref l, .ref p] ∧ MdlAt K C H a M ∧ M.us.length ≤ 60 ∧ EntAt K H l es ∧ es.length ≤ 1000 ∧ Im K H (.ref p) s.d ∧ s.r.bd ∧ s.f.vars.length ≤ 60 ∧ ∀ H', Kp [] H H' → Q (.bl (knownB M es s)) H'
theorem kvs_has {kvs : List (Key × V)} {bs : List (Str × Body)} {x : Str} (h : kvs.map (fun z => z.1) = bs.map (fun b => Sum.inr b.1)) : (valV kvs (Sum.inr x)).isSome = decide (x ∈ bs.map (·.1)) := by
  have e : (Sum.inr x : Key) ∈ kvs.map (fun z => z.1) ↔ x ∈ bs.map (·.1) := by
    rw [h]
    simp only [List.mem_map, Sum.inr.injEq]
  rw [← valV_any, Bool.eq_iff_iff, decide_eq_true_eq, ← e, List.any_eq_true]
  simp only [decide_eq_true_eq, List.mem_map]
theorem r_slA2 {K : PySem.W.Frag} {H : Hp} {Q : VK} {p : Addr} {x y : V} {xs : List V} (h : SqT K H p (x :: y :: xs)) (q : ∀ l H2, SqT K H2 l xs → Kp [] H H2 → Q (.ref l) H2) : rSlA K (.ref p) (some 2) none H Q := by
  refine ⟨p, _, rfl, h, fun e => ?_, fun _ l hl => ?_⟩
  · exfalso
    have e1 := e.1
    have : HT.sIx (x :: y :: xs).length 0 (some ((2 : Nat) : Int)) = min 2 (x :: y :: xs).length := HT.sIx_nat _ _ _
    simp at this e1
    omega
  · have e : cutV (x :: y :: xs) (some 2) none = xs := cut_from (by decide)
    rw [e]
    exact q l _ (SqT.of upd_same) (Kp.new hl)
theorem lab_in (r : Rule) : inV (.str r.name) [.str (Str.ofString "given"), .str (Str.ofString "look"), .str (Str.ofString "apart"), .str (Str.ofString "then")] = r.label.isSome := by
  cases r <;> (simp only [Rule.name, Rule.label, Option.isSome_some, Option.isSome_none]; decide +kernel)
theorem lab_args {r : Rule} {x : Str} (h : r.label = some x) : ∃ ds, r.args = .str x :: ds := by
  cases r <;> first | (cases h; exact ⟨_, rfl⟩) | cases h
theorem atI_2 {α : Type} {x y z : α} {xs : List α} : atI (x :: y :: z :: xs) 2 = some z := by
  rw [atI_nat (by decide) (by simp <;> omega)]
  rfl
theorem nodup_le : ∀ {ns us : List Int}, ns.Nodup → (∀ k ∈ ns, k ∈ us) → ns.length ≤ us.length
  | [], _, _, _ => Nat.zero_le _
  | n :: ns, us, h, s => by
    rw [List.nodup_cons] at h
    have m := s n List.mem_cons_self
    have q := nodup_le (ns := ns) (us := us.erase n) h.2 fun k hk => (List.mem_erase_of_ne fun e => h.1 (by rw [← e]; exact hk)).mpr (s k (List.mem_cons_of_mem _ hk))
    rw [List.length_erase_of_mem m] at q
    have := List.length_pos_of_mem m
    rw [List.length_cons]
    omega
theorem asc_le {ns us : List Int} (h : ns.Pairwise (· < ·)) (s : ∀ k, k ∈ ns ↔ k ∈ us) : ns.length ≤ us.length := nodup_le (h.imp fun {a b} q => by omega) fun k hk => (s k).mp hk

section
variable {P : Program} {w : World} {K : PySem.W.Frag} {mg : Str → Option Value} {base : Heap}
theorem ok_premises_of {f : Addr} {fd : FuncData} (F : Fun K "premises_of" "premises_of" s_premises_of f fd) (B : Bi K mg)  : FnOk P w K mg base CX0 1 f fd ["step"] (spPrem K) := by
  have nd := sc_premises_of.nd
  refine F.ok sc_premises_of ?len (fun cdv A outer s H vs Q E hr h => ?body)
  case len =>
    rintro vs H Q E ⟨p, s, rfl, _⟩
    rfl
  case body =>
    obtain ⟨p, s, rfl, hs, bd, k⟩ := h
    refine ⟨_, (pss_cons (ps_set (i := 1) nd rfl (Or.inl rfl) (pe_ix (ixT K) (pv 0) pe_int (fun _ _ => rfl)))
      (pss_cons (ps_if (pt_cmpR op_eq (pv 1) pe_str (nomark _))
      (pss_one (ps_ret (by exact pe_lc (own := [("i", 2), ("m", 3)]) (g := (gTup K 2 (gCons (gName 2) (gCons (gName 3) gNil)))) (tt := tYes) rfl nd (pi_tup (pe_ix (ixT K) (pv 0) pe_int (fun _ _ => rfl))) (blkOk_by (N := ["step", "rule", "i", "m"]) (sc := defScope s_premises_of) (by decide +kernel)) (fun _ _ _ _ _ => (pg_tup (n := 2) rfl (pgs_cons (pg_name (i := 2) nd rfl (Or.inl rfl)) (pgs_cons (pg_name (i := 3) nd rfl (Or.inl rfl)) pgs_nil)))) (fun _ _ _ _ _ => pts_nil) (fun _ _ _ _ _ => (pv 2)))))
      pss_nil)
      (pss_cons (ps_if (pt_cmpR (inS K) (pv 1) (pe_tup (pa_cons pe_str (pa_cons pe_str (pa_cons pe_str pa_nil)))) rfl)
      (pss_one (ps_ret (pe_lst (pa_cons (pe_ix (ixT K) (pv 0) pe_int (fun _ _ => rfl)) pa_nil))))
      pss_nil)
      (pss_cons (ps_if (pt_cmpR op_eq (pv 1) pe_str (nomark _))
      (pss_one (ps_ret (pe_callTy (cgList K) (by rfl) B.n_list (by decide +kernel) (pa_cons (pe_ix (ixT K) (pv 0) pe_int (fun _ _ => rfl)) pa_nil))))
      pss_nil)
      (pss_cons (ps_if (pt_cmpR op_eq (pv 1) pe_str (nomark _))
      (pss_one (ps_ret (pe_lst (pa_cons (pe_ix (ixT K) (pv 0) pe_int (fun _ _ => rfl)) pa_nil))))
      pss_nil)
      (pss_cons (ps_if (pt_cmpR op_eq (pv 1) pe_str (nomark _))
      (pss_one (ps_ret (pe_callTy (cgList K) (by rfl) B.n_list (by decide +kernel) (pa_cons (pe_ix (ixT K) (pv 0) pe_int (fun _ _ => rfl)) pa_nil))))
      pss_nil)
      (pss_cons (ps_if (pt_cmpR op_eq (pv 1) pe_str (nomark _))
      (pss_one (ps_ret (pe_callTy (cgList K) (by rfl) B.n_list (by decide +kernel) (pa_cons (pe_slice (slA K) (pv 0) (po_some pe_int) po_none) pa_nil))))
      pss_nil)
      (pss_one (ps_ret (pe_lst pa_nil)))))))))), ?_⟩
    try dsimp only [L2.cxOf, L2.Cx.nox, L2.Cx.wish]
    rw [st_premises_of]
    obtain ⟨f, r⟩ := s
    obtain ⟨q, xs, sp, hf, ha⟩ := step_open hs
    cases r with
    | bound v =>
      dsimp only [Rule.name, Rule.args, Rule.prem, Rule.bd] at sp ha k bd
      obtain ⟨_, _, rfl, a1, h2⟩ := ha.c
      obtain rfl := h2.n
      cases a1
      walk_at "cg"
      exact k _ _ (by assumption) (by walk_at "cg kp")
    | given x =>
      dsimp only [Rule.name, Rule.args, Rule.prem, Rule.bd] at sp ha k bd
      obtain ⟨_, _, rfl, a1, h2⟩ := ha.c
      obtain rfl := h2.n
      cases a1
      walk_at "cg"
      exact k _ _ (by assumption) (by walk_at "cg kp")
    | suppose =>
      dsimp only [Rule.name, Rule.args, Rule.prem, Rule.bd] at sp ha k bd
      obtain rfl := ha.n
      walk_at "cg"
      exact k _ _ (by assumption) (by walk_at "cg kp")
    | sum ps =>
      dsimp only [Rule.name, Rule.args, Rule.prem, Rule.bd] at sp ha k bd
      obtain ⟨_, _, rfl, a1, h2⟩ := ha.c
      obtain rfl := h2.n
      obtain ⟨qp, rfl⟩ := a1.isRef
      obtain ⟨ys, s2, i2⟩ := Im.open a1
      walk_at "cg"
      refine lcT_i (xs := ys) (as := ps) (d := tD) s2 i2 (fun z => z.1) (by have : ps.length ≤ 60 := bd; omega) (fun i z x H' R R' hz k2 hx q => ?_) (fun D H' hD eD k2 => ?_)
      · obtain ⟨px, rfl, hs⟩ := term_at hx
        walk_at "cg"
        exact q _ .refl
      · exact k D H' eD k2
    | divide i d =>
      dsimp only [Rule.name, Rule.args, Rule.prem, Rule.bd] at sp ha k bd
      obtain ⟨_, _, rfl, a1, h2⟩ := ha.c
      obtain ⟨_, _, rfl, a2, h2⟩ := h2.c
      obtain rfl := h2.n
      cases a1; cases a2
      walk_at "cg"
      exact k _ _ (by assumption) (by walk_at "cg kp")
    | look x is =>
      dsimp only [Rule.name, Rule.args, Rule.prem, Rule.bd] at sp ha k bd
      obtain ⟨_, _, rfl, a1, h2⟩ := ha.c
      obtain ⟨_, _, rfl, a2, h2⟩ := h2.c
      obtain rfl := h2.n
      cases a1
      obtain ⟨qp, rfl⟩ := a2.isRef
      have s2 := a2.intsT
      walk_at "cg"
      exact k _ _ (by assumption) (by walk_at "cg kp")
    | apart x =>
      dsimp only [Rule.name, Rule.args, Rule.prem, Rule.bd] at sp ha k bd
      obtain ⟨_, _, rfl, a1, h2⟩ := ha.c
      obtain rfl := h2.n
      cases a1
      walk_at "cg"
      exact k _ _ (by assumption) (by walk_at "cg kp")
    | thn x i =>
      dsimp only [Rule.name, Rule.args, Rule.prem, Rule.bd] at sp ha k bd
      obtain ⟨_, _, rfl, a1, h2⟩ := ha.c
      obtain ⟨_, _, rfl, a2, h2⟩ := h2.c
      obtain rfl := h2.n
      cases a1; cases a2
      walk_at "cg"
      exact k _ _ (by assumption) (by walk_at "cg kp")
    | unit is =>
      dsimp only [Rule.name, Rule.args, Rule.prem, Rule.bd] at sp ha k bd
      obtain ⟨_, _, rfl, a1, h2⟩ := ha.c
      obtain rfl := h2.n
      obtain ⟨qp, rfl⟩ := a1.isRef
      have s2 := a1.intsT
      walk_at "cg"
      exact k _ _ (by assumption) (by walk_at "cg kp")
    | cases i j s t =>
      dsimp only [Rule.name, Rule.args, Rule.prem, Rule.bd] at sp ha k bd
      obtain ⟨_, _, rfl, a1, h2⟩ := ha.c
      obtain ⟨_, _, rfl, a2, h2⟩ := h2.c
      obtain ⟨_, _, rfl, a3, h2⟩ := h2.c
      obtain ⟨_, _, rfl, a4, h2⟩ := h2.c
      obtain rfl := h2.n
      cases a1; cases a2; cases a3; cases a4
      walk_at "cg"
      refine r_slA2 (by walk_at "cg h") fun l2 H2 s2 k2 => ?_
      walk_at "cg"
      exact k _ _ (by assumption) (by walk_at "cg kp")
    | absurd i =>
      dsimp only [Rule.name, Rule.args, Rule.prem, Rule.bd] at sp ha k bd
      obtain ⟨_, _, rfl, a1, h2⟩ := ha.c
      obtain rfl := h2.n
      cases a1
      walk_at "cg"
      exact k _ _ (by assumption) (by walk_at "cg kp")
    | weaken i =>
      dsimp only [Rule.name, Rule.args, Rule.prem, Rule.bd] at sp ha k bd
      obtain ⟨_, _, rfl, a1, h2⟩ := ha.c
      obtain rfl := h2.n
      cases a1
      walk_at "cg"
      exact k _ _ (by assumption) (by walk_at "cg kp")
end
/-! ### the points of a box that a body can tell apart -/
theorem at_set (os : List Int) (i : Nat) (x : Int) (v : Int) : at_ (os.set i x) v = if v.toNat = i ∧ i < os.length then x else at_ os v := by
  unfold at_
  rw [List.getD_eq_getElem?_getD, List.getD_eq_getElem?_getD, List.getElem?_set]
  by_cases h1 : i = v.toNat
  · subst h1
    by_cases h2 : v.toNat < os.length
    · simp [h2]
    · simp [h2]
  · rw [if_neg h1, if_neg (fun e => h1 e.1.symm)]
theorem ixN_ok {n : Nat} {i : Int} (h0 : 0 ≤ i) (h1 : i < n) : ixN n i = some i.toNat := by simp [ixN, h0, h1]
def prF (f : Int → Int) : List Int → Int
  | [] => 1
  | n :: ns => f n * prF f ns
theorem prF_snoc (f : Int → Int) : ∀ (ns : List Int) (n : Int), prF f (ns ++ [n]) = prF f ns * f n
  | [], n => by simp [prF]
  | m :: ns, n => by
    show f m * prF f (ns ++ [n]) = f m * prF f ns * f n
    rw [prF_snoc f ns n, Int.mul_assoc]
theorem prF_take {f : Int → Int} {ns : List Int} {i : Nat} {n : Int} (h : ns[i]? = some n) : prF f (ns.take (i + 1)) = prF f (ns.take i) * f n := by
  rw [List.take_add_one, h]
  exact prF_snoc _ _ _
theorem prF_pos {f : Int → Int} : ∀ {ns : List Int}, (∀ n ∈ ns, 1 ≤ f n) → 1 ≤ prF f ns
  | [], _ => Int.le_refl _
  | n :: ns, h => by
    have h1 := h n List.mem_cons_self
    have h2 := prF_pos (ns := ns) fun m hm => h m (List.mem_cons_of_mem _ hm)
    show 1 ≤ f n * prF f ns
    have := Int.mul_le_mul h1 h2 (by omega) (by omega)
    omega
theorem prF_le4 {f : Int → Int} : ∀ {ns : List Int}, (∀ n ∈ ns, 1 ≤ f n ∧ f n ≤ 4) → 1 ≤ prF f ns ∧ prF f ns ≤ 4 ^ ns.length
  | [], _ => ⟨Int.le_refl _, Int.le_refl _⟩
  | n :: ns, h => by
    have h1 := h n List.mem_cons_self
    have h2 := prF_le4 (ns := ns) fun m hm => h m (List.mem_cons_of_mem _ hm)
    refine ⟨prF_pos fun m hm => (h m hm).1, ?_⟩
    show f n * prF f ns ≤ 4 ^ (ns.length + 1)
    rw [Int.pow_succ, Int.mul_comm (4 ^ ns.length) 4]
    exact Int.mul_le_mul h1.2 h2.2 (by omega) (by omega)
/-- the size of a side -/
def szV (los his : List Int) (v : Int) : Int := at_ his v - at_ los v + 1
/-- the values of a place, put into a point -/
def decP (los his : List Int) : List Int → Int → List Int → List Int
  | [], _, pt => pt
  | v :: ns, r, pt => decP los his ns (r / szV los his v) (pt.set v.toNat (at_ los v + r % szV los his v))
def codP (los his : List Int) (f : Pt) : List Int → Int
  | [] => 0
  | v :: ns => (f v - at_ los v) + szV los his v * codP los his f ns
theorem decP_len (los his : List Int) : ∀ (ns : List Int) (r : Int) (pt : List Int), (decP los his ns r pt).length = pt.length
  | [], _, _ => rfl
  | v :: ns, r, pt => by
    show (decP los his ns _ _).length = _
    rw [decP_len los his ns, List.length_set]
theorem decP_off (los his : List Int) : ∀ (ns : List Int) (r : Int) (pt : List Int) (u : Int), (∀ v ∈ ns, v.toNat ≠ u.toNat) → at_ (decP los his ns r pt) u = at_ pt u
  | [], _, _, _, _ => rfl
  | v :: ns, r, pt, u, h => by
    show at_ (decP los his ns _ _) u = _
    rw [decP_off los his ns _ _ u fun w hw => h w (List.mem_cons_of_mem _ hw), at_set, if_neg fun e => h v List.mem_cons_self e.1.symm]
theorem decP_on (los his : List Int) (f : Pt) : ∀ (ns : List Int) (pt : List Int), ns.Nodup → (∀ v ∈ ns, 0 ≤ v ∧ v < pt.length) → (∀ v ∈ ns, at_ los v ≤ f v ∧ f v ≤ at_ his v) → ∀ u ∈ ns, at_ (decP los his ns (codP los his f ns) pt) u = f u
  | [], _, _, _, _, u, hu => by cases hu
  | v :: ns, pt, nd, rg, bx, u, hu => by
    rw [List.nodup_cons] at nd
    have hv := rg v List.mem_cons_self
    have hb := bx v List.mem_cons_self
    have hs : 1 ≤ szV los his v := by unfold szV; omega
    have e1 : codP los his f (v :: ns) % szV los his v = f v - at_ los v := by
      show (f v - at_ los v + szV los his v * _) % szV los his v = _
      rw [Int.add_mul_emod_self_left]
      exact Int.emod_eq_of_lt (by omega) (by unfold szV; omega)
    have e2 : codP los his f (v :: ns) / szV los his v = codP los his f ns := by
      show (f v - at_ los v + szV los his v * _) / szV los his v = _
      rw [Int.add_mul_ediv_left _ _ (by omega), Int.ediv_eq_zero_of_lt (by omega) (by unfold szV; omega), Int.zero_add]
    show at_ (decP los his ns (codP los his f (v :: ns) / szV los his v) (pt.set v.toNat (at_ los v + codP los his f (v :: ns) % szV los his v))) u = _
    rw [e1, e2]
    rcases List.mem_cons.mp hu with rfl | hu
    · rw [decP_off _ _ _ _ _ _ fun w hw e => nd.1 (by have := rg w (List.mem_cons_of_mem _ hw); rw [show u = w by omega]; exact hw), at_set, if_pos ⟨rfl, by omega⟩]
      omega
    · exact decP_on los his f ns _ nd.2 (fun w hw => by rw [List.length_set]; exact rg w (List.mem_cons_of_mem _ hw)) (fun w hw => bx w (List.mem_cons_of_mem _ hw)) u hu
theorem codP_lt (los his : List Int) (f : Pt) : ∀ (ns : List Int), (∀ v ∈ ns, at_ los v ≤ f v ∧ f v ≤ at_ his v) → 0 ≤ codP los his f ns ∧ codP los his f ns < prF (szV los his) ns
  | [], _ => ⟨Int.le_refl _, by show (0 : Int) < 1; decide⟩
  | v :: ns, bx => by
    have hb := bx v List.mem_cons_self
    have ih := codP_lt los his f ns fun w hw => bx w (List.mem_cons_of_mem _ hw)
    have hs : 1 ≤ szV los his v := by unfold szV; omega
    have hd : f v - at_ los v ≤ szV los his v - 1 := by unfold szV; omega
    show 0 ≤ f v - at_ los v + szV los his v * codP los his f ns ∧ f v - at_ los v + szV los his v * codP los his f ns < szV los his v * prF (szV los his) ns
    have a := Int.mul_nonneg (show 0 ≤ szV los his v by omega) ih.1
    have b := Int.mul_le_mul_of_nonneg_left (show codP los his f ns + 1 ≤ prF (szV los his) ns by omega) (show 0 ≤ szV los his v by omega)
    rw [Int.mul_add, Int.mul_one] at b
    omega
/-- a point of the box -/
def inLH (los his pt : List Int) : Prop := pt.length = los.length ∧ ∀ v : Int, 0 ≤ v → v < los.length → at_ los v ≤ at_ pt v ∧ at_ pt v ≤ at_ his v
theorem decP_in {los his : List Int} : ∀ (ns : List Int) (r : Int) (pt : List Int), (∀ v ∈ ns, (0 ≤ v ∧ v < los.length) ∧ at_ los v ≤ at_ his v) → inLH los his pt → inLH los his (decP los his ns r pt)
  | [], _, _, _, h => h
  | v :: ns, r, pt, g, h => by
    have g0 := g v List.mem_cons_self
    have hs : 0 < szV los his v := by unfold szV; omega
    have m0 := Int.emod_nonneg r (show szV los his v ≠ 0 by omega)
    have m1 := Int.emod_lt_of_pos r hs
    refine decP_in ns _ _ (fun w hw => g w (List.mem_cons_of_mem _ hw)) ⟨by rw [List.length_set]; exact h.1, fun u h0 h1 => ?_⟩
    rw [at_set]
    by_cases e : u.toNat = v.toNat ∧ v.toNat < pt.length
    · rw [if_pos e]
      have e2 : u = v := by omega
      subst e2
      unfold szV at m1 m0 ⊢
      omega
    · rw [if_neg e]
      exact h.2 u h0 h1
/-- the box of the model's kind: whole sides -/
def bxOk (los his : List Int) : Prop := his.length = los.length ∧ ∀ v : Int, 0 ≤ v → v < los.length → at_ los v ≤ at_ his v
def bxBd (los his : List Int) : Prop := ∀ v : Int, -1000000 ≤ at_ los v ∧ at_ los v ≤ 1000000 ∧ -1000000 ≤ at_ his v ∧ at_ his v ≤ 1000000
theorem inLH_bd {los his pt : List Int} (h : inLH los his pt) (b : bxBd los his) (v : Int) (h0 : 0 ≤ v) (h1 : v < los.length) : -1000000 ≤ at_ pt v ∧ at_ pt v ≤ 1000000 := by
  have q := h.2 v h0 h1
  have r := b v
  omega
structure BoxAt (K : PySem.W.Frag) (H : Hp) (p : Addr) (los his : List Int) : Prop where
  ex : ∃ q1 q2 : Addr, SqT K H p [.ref q1, .ref q2] ∧ SqT K H q1 (los.map V.int) ∧ SqT K H q2 (his.map V.int)
theorem BoxAt.kp {K : PySem.W.Frag} {H H' : Hp} {p : Addr} {S : List Addr} {los his : List Int} (k : Kp S H H') (h : BoxAt K H p los his) : BoxAt K H' p los his := by
  obtain ⟨q1, q2, a, b, c⟩ := h.ex
  exact ⟨q1, q2, k.tup a, k.tup b, k.tup c⟩
local macro_rules | `(tactic| walk_at "cg h") => `(tactic| (first
  | ((with_reducible show BoxAt _ _ _ _ _); exact BoxAt.kp (by assumption) (by walk_at "cg h"))
  | fail))
local macro_rules | `(tactic| walk_at "cg h") => `(tactic| assumption)
def spCost (K : PySem.W.Frag) : Sp := fun vs H Q _ => ∃ (p q : Addr) (b : Body) (los his : List Int), vs = [.ref p, .ref q] ∧ BodyAt K H p b ∧ b.bd ∧ BoxAt K H q los his ∧ bxOk los his ∧ bxBd los his ∧ (∀ v ∈ b.vars, 0 ≤ v ∧ v < los.length) ∧ ∀ H', Kp [] H H' → Q (.int (prF (szV los his) (numsOf b.vars los.length))) H'
/-- some point of the box does -/
def suppP (b : Body) (los his : List Int) : Prop := ∃ pt, inLH los his pt ∧ b.h (at_ pt) = true
def spSupp (K : PySem.W.Frag) : Sp := fun vs H Q _ => ∃ (p q : Addr) (b : Body) (los his : List Int), vs = [.ref p, .ref q] ∧ BodyAt K H p b ∧ b.bd ∧ BoxAt K H q los his ∧ bxOk los his ∧ bxBd los his ∧ (∀ v ∈ b.vars, 0 ≤ v ∧ v < los.length) ∧ prF (szV los his) (numsOf b.vars los.length) ≤ 1000000 ∧ ∀ (r : Bool) H', (r = true ↔ suppP b los his) → Kp [] H H' → Q (.bl r) H'
theorem supp_some {b : Body} {los his : List Int} {r : Int} (ok : bxOk los his) (hv : ∀ v ∈ b.vars, 0 ≤ v ∧ v < los.length) (h : b.h (at_ (decP los his (numsOf b.vars los.length) r los)) = true) : suppP b los his :=
  ⟨_, decP_in _ _ _ (fun v hm => by have q := numsOf_mem.mp hm; exact ⟨q.1, ok.2 v q.1.1 q.1.2⟩) ⟨rfl, fun v h0 h1 => ⟨Int.le_refl _, ok.2 v h0 h1⟩⟩, h⟩
theorem supp_none {b : Body} {los his : List Int} (hv : ∀ v ∈ b.vars, 0 ≤ v ∧ v < los.length) (h : ∀ j : Nat, (j : Int) < prF (szV los his) (numsOf b.vars los.length) → b.h (at_ (decP los his (numsOf b.vars los.length) j los)) = false) : ¬ suppP b los his := by
  rintro ⟨pt, hin, hb⟩
  have bx : ∀ v ∈ numsOf b.vars los.length, at_ los v ≤ at_ pt v ∧ at_ pt v ≤ at_ his v := fun v hm => hin.2 v (numsOf_mem.mp hm).1.1 (numsOf_mem.mp hm).1.2
  have c := codP_lt los his (at_ pt) _ bx
  have q := h (codP los his (at_ pt) (numsOf b.vars los.length)).toNat (by omega)
  rw [Int.toNat_of_nonneg c.1] at q
  have e : b.h (at_ (decP los his (numsOf b.vars los.length) (codP los his (at_ pt) (numsOf b.vars los.length)) los)) = b.h (at_ pt) := Body.h_congr fun v hm =>
    decP_on los his (at_ pt) _ los ((numsOf_asc _ _).imp fun {a b} h => by omega) (fun u hu => (numsOf_mem.mp hu).1) bx v (numsOf_mem.mpr ⟨hv v hm, hm⟩)
  rw [q, hb] at e
  cases e

/-! ### range(a, b); lists of lists of ints -/
def isR2 (vs : List V) (H : Hp) (R : It → Hp → Prop) : Prop := ∃ i j : Int, vs = [.int i, .int j] ∧ (-(2 ^ 62) ≤ i ∧ i < 2 ^ 62 ∧ -(2 ^ 62) ≤ j ∧ j < 2 ^ 62) ∧ R (Itr i (j - i).toNat) H
instance s_iR2 {ta : TA} {σ : St} {H : Hp} {R : It → Hp → Prop} : Stp (iRng2 ta σ H R) (ta σ H fun vs H1 => isR2 vs H1 R) := ⟨id⟩
theorem r_isR2 {i j : Int} {H : Hp} {R : It → Hp → Prop} (h1 : -1000000000 ≤ i ∧ i ≤ 1000000000) (h2 : -1000000000 ≤ j ∧ j ≤ 1000000000) (q : R (Itr i (j - i).toNat) H) : isR2 [.int i, .int j] H R := ⟨i, j, rfl, by omega, q⟩
local macro_rules | `(tactic| walk_at "cg s") => `(tactic| ((with_reducible apply r_isR2); (focus (first | omega | (constructor <;> decide))); (focus (first | omega | (constructor <;> decide)))))
inductive Els (H : Hp) : List V → List (List Int) → Prop
  | nil : Els H [] []
  | cons {p : Addr} {pt : List Int} {xs : List V} {L : List (List Int)} : H p = some (.lst (pt.map V.int)) → Els H xs L → Els H (.ref p :: xs) (pt :: L)
theorem Els.length {H : Hp} : ∀ {xs : List V} {L : List (List Int)}, Els H xs L → xs.length = L.length
  | _, _, .nil => rfl
  | _, _, .cons _ a => by rw [List.length_cons, List.length_cons, a.length]
theorem Els.kp {S : List Addr} {H H' : Hp} (k : Kp S H H') : ∀ {xs : List V} {L : List (List Int)}, Els H xs L → (∀ p, p ∈ S → V.ref p ∉ xs) → Els H' xs L
  | _, _, .nil, _ => .nil
  | _, _, .cons (p := p) h a, n => .cons (k.k p _ (fun hp => n p hp List.mem_cons_self) h) (a.kp k fun q hq hm => n q hq (List.mem_cons_of_mem _ hm))
theorem Els.kp0 {H H' : Hp} {xs : List V} {L : List (List Int)} (k : Kp [] H H') (h : Els H xs L) : Els H' xs L := h.kp k fun _ hp => nomatch hp
theorem Els.off {H : Hp} {D : Addr} (hD : H D = none) : ∀ {xs : List V} {L : List (List Int)}, Els H xs L → V.ref D ∉ xs
  | _, _, .nil, h => by cases h
  | _, _, .cons h a, m => by
    rcases List.mem_cons.mp m with e | m
    · cases e
      rw [hD] at h
      cases h
    · exact a.off hD m
theorem Els.snoc {H : Hp} {p : Addr} {pt : List Int} (h' : H p = some (.lst (pt.map V.int))) : ∀ {xs : List V} {L : List (List Int)}, Els H xs L → Els H (xs ++ [.ref p]) (L ++ [pt])
  | _, _, .nil => .cons h' .nil
  | _, _, .cons h a => .cons h (a.snoc h')
theorem Els.get {H : Hp} : ∀ {xs : List V} {L : List (List Int)} {i : Nat} {x : V}, Els H xs L → xs[i]? = some x → ∃ p pt, x = .ref p ∧ L[i]? = some pt ∧ H p = some (.lst (pt.map V.int))
  | _, _, _, _, .nil, e => by simp at e
  | _, _, 0, _, .cons (p := p) (pt := pt) h _, e => by simp at e; subst e; exact ⟨p, pt, rfl, rfl, h⟩
  | _, _, i + 1, _, .cons _ a, e => by
    obtain ⟨p, pt, h1, h2, h3⟩ := a.get (i := i) (by simpa using e)
    exact ⟨p, pt, h1, by simpa using h2, h3⟩
/-- all points of the first i sides -/
def extP (a b : Int) (pt : List Int) : List (List Int) := (rgI a b).map fun x => pt ++ [x]
def ptsL (los his : List Int) : Nat → List (List Int)
  | 0 => [[]]
  | i + 1 => (ptsL los his i).flatMap (extP (at_ los i) (at_ his i + 1))
theorem rgI_succ (a : Int) (k : Nat) (n : Nat) (h : k < n) : ((List.range (k + 1)).map fun i => a + ((i : Nat) : Int)) = ((List.range k).map fun i => a + ((i : Nat) : Int)) ++ [a + (k : Int)] := by
  rw [List.range_succ, List.map_append]
  rfl
theorem at_snoc_lt {pt : List Int} {x v : Int} (h0 : 0 ≤ v) (h : v < pt.length) : at_ (pt ++ [x]) v = at_ pt v := by
  unfold at_
  rw [List.getD_eq_getElem?_getD, List.getD_eq_getElem?_getD, List.getElem?_append_left (by omega)]
theorem at_snoc_eq {pt : List Int} {x v : Int} (h : v = pt.length) : at_ (pt ++ [x]) v = x := by
  subst h
  unfold at_
  rw [Int.toNat_natCast, List.getD_eq_getElem?_getD, List.getElem?_append_right (Nat.le_refl _), Nat.sub_self]
  rfl
theorem ptsL_mem (los his : List Int) : ∀ (i : Nat) (pt : List Int), pt ∈ ptsL los his i ↔ pt.length = i ∧ ∀ v : Int, 0 ≤ v → v < i → at_ los v ≤ at_ pt v ∧ at_ pt v ≤ at_ his v
  | 0, pt => by
    show pt ∈ [[]] ↔ _
    rw [List.mem_singleton]
    constructor
    · rintro rfl
      exact ⟨rfl, fun v h0 h1 => by omega⟩
    · exact fun h => List.length_eq_zero_iff.mp h.1
  | i + 1, pt => by
    show pt ∈ (ptsL los his i).flatMap (extP (at_ los i) (at_ his i + 1)) ↔ _
    rw [List.mem_flatMap]
    constructor
    · rintro ⟨z, hz, hp⟩
      obtain ⟨x, hx, rfl⟩ := List.mem_map.mp hp
      have q := (ptsL_mem los his i z).mp hz
      have r := rgI_mem.mp hx
      refine ⟨by rw [List.length_append, q.1]; rfl, fun v h0 h1 => ?_⟩
      by_cases e : v < i
      · rw [at_snoc_lt h0 (by omega)]
        exact q.2 v h0 e
      · have e2 : v = i := by omega
        subst e2
        rw [at_snoc_eq (by omega)]
        omega
    · rintro ⟨hl, hb⟩
      rcases List.eq_nil_or_concat pt with rfl | ⟨z, x, rfl⟩
      · simp at hl
      rw [List.concat_eq_append] at hl hb ⊢
      rw [List.length_append] at hl
      have hzl : z.length = i := by simpa using hl
      have hx := hb i (by omega) (by omega)
      rw [at_snoc_eq (by omega)] at hx
      refine ⟨z, (ptsL_mem los his i z).mpr ⟨hzl, fun v h0 h1 => ?_⟩, List.mem_map.mpr ⟨x, rgI_mem.mpr (by omega), rfl⟩⟩
      have q := hb v h0 (by omega)
      rw [at_snoc_lt h0 (by omega)] at q
      exact q
theorem ptsL_suppP {los his : List Int} {b : Body} : ((ptsL los his los.length).any fun pt => b.h (at_ pt)) = true ↔ suppP b los his := by
  rw [List.any_eq_true]
  constructor
  · rintro ⟨pt, hm, hb⟩
    exact ⟨pt, (ptsL_mem _ _ _ _).mp hm, hb⟩
  · rintro ⟨pt, hm, hb⟩
    exact ⟨pt, (ptsL_mem _ _ _ _).mpr hm, hb⟩
theorem flat_take {α β : Type} {l : List α} {f : α → List β} {i : Nat} {x : α} (h : l[i]? = some x) : (l.take (i + 1)).flatMap f = (l.take i).flatMap f ++ f x := by
  rw [List.take_add_one, h, List.flatMap_append]
  simp
theorem ptsL_le {los his : List Int} : ∀ i : Nat, i ≤ los.length → bxOk los his → (∀ v : Int, 0 ≤ v → v < los.length → szV los his v ≤ 4) → (ptsL los his i).length ≤ 4 ^ i
  | 0, _, _, _ => Nat.le_refl _
  | i + 1, hi, ok, h => by
    have ih := ptsL_le i (by omega) ok h
    have hs := h i (by omega) (by omega)
    have e : ∀ L : List (List Int), (L.flatMap (extP (at_ los i) (at_ his i + 1))).length ≤ L.length * 4 := fun L => by
      induction L with
      | nil => exact Nat.le_refl _
      | cons z L ih =>
        rw [List.flatMap_cons, List.length_append, List.length_cons]
        have : (extP (at_ los i) (at_ his i + 1) z).length ≤ 4 := by
          unfold extP
          rw [List.length_map, rgI_len]
          unfold szV at hs
          omega
        omega
    show ((ptsL los his i).flatMap _).length ≤ _
    rw [Nat.pow_succ]
    exact Nat.le_trans (e _) (Nat.mul_le_mul_right 4 ih)
/-- the sides that are drawn for these bounds -/
def sidesOk (us : List Un) (ls hs : List Int) : Prop := ls.length = hs.length ∧ ∀ (j : Nat) u a b, us[j]? = some u → ls[j]? = some a → hs[j]? = some b → u.2.1 ≤ a ∧ a ≤ b ∧ b ≤ u.2.2
theorem sidesOk.snoc {us : List Un} {ls hs : List Int} {u : Un} {a b : Int} (h : sidesOk us ls hs) (hu : us[ls.length]? = some u) (hb : u.2.1 ≤ a ∧ a ≤ b ∧ b ≤ u.2.2) : sidesOk us (ls ++ [a]) (hs ++ [b]) := by
  refine ⟨by simp [h.1], fun j v x y hv hx hy => ?_⟩
  rcases Nat.lt_trichotomy j ls.length with e | e | e
  · rw [List.getElem?_append_left e] at hx
    rw [List.getElem?_append_left (by rw [← h.1]; exact e)] at hy
    exact h.2 j v x y hv hx hy
  · subst e
    rw [hu] at hv
    rw [List.getElem?_append_right (Nat.le_refl _), Nat.sub_self] at hx
    rw [h.1, List.getElem?_append_right (Nat.le_refl _), Nat.sub_self] at hy
    simp at hv hx hy
    subst hv hx hy
    exact hb
  · rw [List.getElem?_eq_none (by simp; omega)] at hx
    cases hx
theorem sidesOk.at {us : List Un} {ls hs : List Int} (h : sidesOk us ls hs) (hl : ls.length = us.length) {i : Nat} {u : Un} (hu : us[i]? = some u) : u.2.1 ≤ at_ ls i ∧ at_ ls i ≤ at_ hs i ∧ at_ hs i ≤ u.2.2 := by
  have hi := (List.getElem?_eq_some_iff.mp hu).1
  have h1 : ls[i]? = some (at_ ls i) := by
    unfold at_
    rw [Int.toNat_natCast, List.getD_eq_getElem?_getD, List.getElem?_eq_getElem (by omega)]
    rfl
  have h2 : hs[i]? = some (at_ hs i) := by
    unfold at_
    rw [Int.toNat_natCast, List.getD_eq_getElem?_getD, List.getElem?_eq_getElem (by have := h.1; omega)]
    rfl
  exact h.2 i u _ _ hu h1 h2
theorem lst_snoc {H : Hp} {D : Addr} {ls : List Int} {x : Int} (h : H D = some (.lst (ls.map V.int ++ [.int x]))) : H D = some (.lst ((ls ++ [x]).map V.int)) := by
  rw [h, List.map_append]
  rfl
structure LtB (m : Int) : Prop where
  h : m < bigB
theorem LtB.of {m : Int} (h : m ≤ 1000000) : LtB m := ⟨by
  have e : (1000000 : Int) < bigB := by decide
  exact Int.lt_of_le_of_lt h e⟩
local macro_rules | `(tactic| walk_at "cg dr") => `(tactic| ((with_reducible refine spDraw_i (c := ?c) ?h ?h1 ?h2 ?_); (case h => walk_at "cg h"); (case h1 => first | omega | decide); (case h2 => first | (exact LtB.h (by with_reducible assumption)) | (with_reducible assumption) | decide)))
def spLawBox (K : PySem.W.Frag) : Sp := fun vs H Q _ => ∃ (t c l : Addr) (refs : List V) (us : List Un), vs = [.ref t, .ref l] ∧ Tp t c H ∧ H l = some (.lst refs) ∧ l ≠ t ∧ ImAll K H refs (us.map unD) ∧ us.length ≤ 1000 ∧ (∀ u ∈ us, -10000 ≤ u.2.1 ∧ u.2.1 ≤ u.2.2 ∧ u.2.2 ≤ 10000) ∧
  ∀ (p : Addr) (los his : List Int) H', BoxAt K H' p los his → los.length = us.length → sidesOk us los his → Tp t c H' → Kp [t] H H' → Q (.ref p) H'
def spLawPoints (K : PySem.W.Frag) : Sp := fun vs H Q _ => ∃ (p : Addr) (los his : List Int), vs = [.ref p] ∧ BoxAt K H p los his ∧ bxOk los his ∧ bxBd los his ∧ los.length ≤ 5 ∧ (∀ v : Int, 0 ≤ v → v < los.length → szV los his v ≤ 4) ∧
  ∀ (P : Addr) (refs : List V) H', H' P = some (.lst refs) → Els H' refs (ptsL los his los.length) → Kp [] H H' → Q (.ref P) H'

/-! ### facts: when equal -/
theorem litsD_inj (a b : List Lit) (h : litsD a = litsD b) : a = b := by
  simp only [litsD, PyData.tuple.injEq] at h
  exact map_inj Lit.d_inj h
theorem litsD_nb (a : List Lit) : nb (litsD a) = true := by
  simp only [litsD, nb]
  exact nbAll_of fun d hd => by
    obtain ⟨z, _, rfl⟩ := List.mem_map.mp hd
    rfl
theorem litsD_eqv (a b : List Lit) : PyData.eqv (litsD a) (litsD b) = decide (a = b) := eqv_dec litsD_inj litsD_nb (fun a => (litsD_shp a).lay) a b
theorem Fact.d_inj (a b : Fact) (h : a.d = b.d) : a = b := by
  cases a with
  | row ts n =>
    cases b with
    | row us m =>
      simp only [Fact.d, PyData.tuple.injEq, List.cons.injEq, PyData.int.injEq, and_true, true_and] at h
      rw [tmD_inj _ _ h.1, h.2]
    | any ls => simp [Fact.d] at h
  | any ls =>
    cases b with
    | row us m => simp [Fact.d] at h
    | any ms =>
      simp only [Fact.d, PyData.tuple.injEq, List.cons.injEq, and_true, true_and] at h
      rw [litsD_inj _ _ h]
theorem Fact.d_nb (a : Fact) : nb a.d = true := by
  cases a with
  | row ts n => simp only [Fact.d, nb, nbAll, tmD_nb, Bool.and_self]
  | any ls => simp only [Fact.d, nb, nbAll, litsD_nb, Bool.and_self]
theorem Fact.eqv (a b : Fact) : PyData.eqv a.d b.d = decide (a = b) := eqv_dec Fact.d_inj Fact.d_nb (fun a => (Fact.shp a).lay) a b
theorem r_eqF {K : PySem.W.Frag} {H : Hp} {Q : VK} {x y : V} {a b : Fact} (h1 : Im K H x a.d) (h2 : Im K H y b.d) (q : Q (.bl (decide (a = b))) H) : rEqD K x y H Q := by
  refine ⟨_, _, Im.dp h1, Im.dp h2, (Fact.shp _).ok, (Fact.shp _).ok, ?_⟩
  rw [Fact.eqv]
  exact q
theorem factsL_shp (fs : List Fact) : Shp 4 (.list (fs.map Fact.d)) := .list fun d hd => by
  obtain ⟨z, _, rfl⟩ := List.mem_map.mp hd
  exact Fact.shp z
/-- f in a list of facts -/
theorem r_inF {K : PySem.W.Frag} {H : Hp} {Q : VK} {x : V} {l : Addr} {refs : List V} {f : Fact} {fs : List Fact} (hx : Im K H x f.d) (h : H l = some (.lst refs)) (hA : ImAll K H refs (fs.map Fact.d)) (q : Q (.bl (decide (f ∈ fs))) H) : rInD K x (.ref l) H Q := by
  refine ⟨f.d, fs.map Fact.d, Im.dp hx, .lst (SqL.of h) hA.dp, (Fact.shp _).ok, (factsL_shp fs).ok, ?_⟩
  rw [any_in Fact.eqv]
  exact q
/-- the rows of a linear condition -/
def rowsOf (ts : Tms) (r : Rel) (n : Int) : List Fact := (if r = .ge then [] else [.row ts n]) ++ (if r = .le then [] else [.row (negT ts) (-n)])
def spRowsOf (K : PySem.W.Frag) : Sp := fun vs H Q _ => ∃ (p : Addr) (ts : Tms) (r : Rel) (n : Int), vs = [.ref p, .str r.s, .int n] ∧ Im K H (.ref p) (tmD ts) ∧ ts.length ≤ 1000 ∧ ∀ (l : Addr) (refs : List V) (H' : Hp), H l = none → H' l = some (.lst refs) → ImAll K H' refs ((rowsOf ts r n).map Fact.d) → Kp [] H H' → Q (.ref l) H'

theorem tms1 {K : PySem.W.Frag} {H : Hp} {p q : Addr} {v c : Int} (h : SqT K H p [.ref q]) (h2 : SqT K H q [.int v, .int c]) : Im K H (.ref p) (tmD [(v, c)]) := .tup h (.cons (.tup h2 (.cons (.int _) (.cons (.int _) .nil))) .nil)
theorem r_eqTm {K : PySem.W.Frag} {H : Hp} {Q : VK} {x y : V} {a b : Tms} (h1 : Im K H x (tmD a)) (h2 : Im K H y (tmD b)) (q : Q (.bl (decide (a = b))) H) : rEqD K x y H Q := by
  refine ⟨_, _, Im.dp h1, Im.dp h2, (tmD_shp _).ok, (tmD_shp _).ok, ?_⟩
  rw [tmD_eqv]
  exact q

/-! ### d[k] -/
def dgetS (x y : V) (H : Hp) (Q : VK) : Prop := ∃ a v, x = .ref a ∧ DGet H a y (some v) ∧ Q v H
instance s_dGet {td ty : TE} {σ : St} {H : Hp} {Q : VK} : Stp (tDGet td ty σ H Q) (td σ H fun x H1 => ty σ H1 fun y H2 => dgetS x y H2 Q) := ⟨id⟩
theorem r_getD {H : Hp} {Q : VK} {a : Addr} {kvs : List (Key × V)} {k : Key} {v : V} (h : H a = some (.dK kvs)) (e : valV kvs k = some v) (q : Q v H) : dgetS (.ref a) (kV k) H Q := ⟨a, v, rfl, e ▸ DGet.k h, q⟩
theorem valV_at {κ : Type} [DecidableEq κ] : ∀ {kvs : List (κ × V)} {i : Nat} {k : κ} {v : V}, (kvs.map (·.1)).Nodup → kvs[i]? = some (k, v) → valV kvs k = some v
  | [], _, _, _, _, h => by simp at h
  | p :: r, 0, k, v, _, h => by
    simp at h
    subst h
    exact valV_pos rfl
  | p :: r, i + 1, k, v, nd, h => by
    rw [List.map_cons, List.nodup_cons] at nd
    have h : r[i]? = some (k, v) := by simpa using h
    rw [valV_neg fun e => nd.1 (List.mem_map.mpr ⟨_, List.mem_of_getElem? h, e.symm⟩)]
    exact valV_at nd.2 h
def notInDk (x y : V) (H : Hp) (Q : VK) : Prop := ∃ a o, x = .ref a ∧ DGet H a y o ∧ Q (.bl (!o.isSome)) H
instance s_dNotIn {td ty : TE} {σ : St} {H : Hp} {Q : VK} : Stp (tDNotIn ty td σ H Q) (ty σ H fun y H1 => td σ H1 fun x H2 => notInDk x y H2 Q) := ⟨id⟩
theorem r_notInDk1 {H : Hp} {Q : VK} {a : Addr} {kvs : List (Key × V)} {k : Key} {v : V} (h : H a = some (.dK kvs)) (e : valV kvs k = some v) (q : Q (.bl false) H) : notInDk (.ref a) (kV k) H Q := ⟨a, some v, rfl, e ▸ DGet.k h, q⟩
theorem r_notInDk0 {H : Hp} {Q : VK} {a : Addr} {kvs : List (Key × V)} {k : Key} (h : H a = some (.dK kvs)) (e : valV kvs k = none) (q : Q (.bl true) H) : notInDk (.ref a) (kV k) H Q := ⟨a, none, rfl, e ▸ DGet.k h, q⟩

/-! ### facts as rows -/
def Fact.asRow : Fact → Option (Tms × Int)
  | .row ts n => some (ts, n)
  | .any [⟨v, .le, a⟩] => some ([(v, 1)], a)
  | .any [⟨v, .ge, a⟩] => some ([(v, -1)], -a)
  | _ => none
theorem asRow_two (l l' : Lit) (ls : List Lit) : (Fact.any (l :: l' :: ls)).asRow = none := by
  obtain ⟨v, r, a⟩ := l
  cases r <;> rfl
inductive RowO (K : PySem.W.Frag) (H : Hp) : V → Option (Tms × Int) → Prop
  | none : RowO K H .non Option.none
  | some {p : Addr} {ts : Tms} {n : Int} (h : FactAt K H p (.row ts n)) : RowO K H (.ref p) (Option.some (ts, n))
theorem RowO.kp0 {K : PySem.W.Frag} {H H' : Hp} {x : V} {o : Option (Tms × Int)} (k : Kp [] H H') (h : RowO K H x o) : RowO K H' x o := by
  cases h with
  | none => exact .none
  | some h => exact .some (k.im h)
theorem RowO.kp {K : PySem.W.Frag} {H H' : Hp} {x : V} {o : Option (Tms × Int)} {S : List Addr} (k : Kp S H H') (h : RowO K H x o) : RowO K H' x o := by
  cases h with
  | none => exact .none
  | some h => exact .some (k.im h)
def spAsRow (K : PySem.W.Frag) : Sp := fun vs H Q _ => ∃ (p : Addr) (f : Fact), vs = [.ref p] ∧ FactAt K H p f ∧ ∀ (x : V) (H' : Hp), RowO K H' x f.asRow → Kp [] H H' → Q x H'
theorem asRow_ok {m : Int} {f : Fact} {ts : Tms} {n : Int} (ok : f.ok m) (h : f.asRow = some (ts, n)) : Fact.ok m (.row ts n) := by
  cases f with
  | row us k =>
    simp only [Fact.asRow, Option.some.injEq, Prod.mk.injEq] at h
    rw [← h.1, ← h.2]
    exact ok
  | any ls =>
    match ls, h, ok with
    | [], h, _ => cases h
    | l :: l' :: ls, h, _ => rw [asRow_two] at h; cases h
    | [⟨v, r, a⟩], h, ok =>
      have q := ok.1 ⟨v, r, a⟩ List.mem_cons_self
      simp only at q
      cases r with
      | le =>
        simp only [Fact.asRow, Option.some.injEq, Prod.mk.injEq] at h
        rw [← h.1, ← h.2]
        refine ⟨fun z hz => ?_, by simp, by omega, by omega⟩
        rw [List.mem_singleton] at hz
        subst hz
        simp only
        omega
      | ge =>
        simp only [Fact.asRow, Option.some.injEq, Prod.mk.injEq] at h
        rw [← h.1, ← h.2]
        refine ⟨fun z hz => ?_, by simp, by omega, by omega⟩
        rw [List.mem_singleton] at hz
        subst hz
        simp only
        omega
      | eq => cases h
      | ne => cases h
theorem asRow_h {f : Fact} {ts : Tms} {n : Int} {g : Pt} (h : f.asRow = some (ts, n)) : f.h g = decide (sumF ts g ≤ n) := by
  cases f with
  | row us k =>
    simp only [Fact.asRow, Option.some.injEq, Prod.mk.injEq] at h
    rw [← h.1, ← h.2]
    rfl
  | any ls =>
    match ls, h with
    | [], h => cases h
    | l :: l' :: ls, h => rw [asRow_two] at h; cases h
    | [⟨v, r, a⟩], h =>
      cases r with
      | le =>
        simp only [Fact.asRow, Option.some.injEq, Prod.mk.injEq] at h
        rw [← h.1, ← h.2]
        simp [Fact.h, Lit.h, Rel.h, sumF]
      | ge =>
        simp only [Fact.asRow, Option.some.injEq, Prod.mk.injEq] at h
        rw [← h.1, ← h.2]
        simp only [Fact.h, Lit.h, Rel.h, sumF, List.any_cons, List.any_nil, Bool.or_false, List.map_cons, List.map_nil, List.sum_cons, List.sum_nil]
        rw [Bool.eq_iff_iff, decide_eq_true_eq, decide_eq_true_eq]
        omega
      | eq => cases h
      | ne => cases h

/-! ### negations of facts -/
def Lit.ngt (l : Lit) : Lit := ⟨l.v, l.r.neg, l.r.nnum l.a⟩
def Fact.ngt : Fact → Option Fact
  | .row ts n => some (.row (negT ts) (-n - 1))
  | .any [l] => some (.any [l.ngt])
  | _ => none
theorem ngt_two (l l' : Lit) (ls : List Lit) : (Fact.any (l :: l' :: ls)).ngt = none := rfl
inductive FactO (K : PySem.W.Frag) (H : Hp) : V → Option Fact → Prop
  | none : FactO K H .non Option.none
  | some {p : Addr} {f : Fact} (h : FactAt K H p f) : FactO K H (.ref p) (Option.some f)
theorem FactO.kp {K : PySem.W.Frag} {H H' : Hp} {x : V} {o : Option Fact} {S : List Addr} (k : Kp S H H') (h : FactO K H x o) : FactO K H' x o := by
  cases h with
  | none => exact .none
  | some h => exact .some (k.im h)
def factOD : Option Fact → PyData
  | none => .none
  | some f => f.d
theorem FactO.im {K : PySem.W.Frag} {H : Hp} {x : V} {o : Option Fact} (h : FactO K H x o) : Im K H x (factOD o) := by
  cases h with
  | none => exact .non
  | some h => exact h
theorem factOD_shp (o : Option Fact) : Shp 3 (factOD o) := by
  cases o with
  | none => exact .none
  | some f => exact Fact.shp f
theorem factOD_eqv (a b : Option Fact) : PyData.eqv (factOD a) (factOD b) = decide (a = b) := eqv_dec (fun a b h => by
  cases a with
  | none =>
    cases b with
    | none => rfl
    | some g => cases g <;> cases h
  | some f =>
    cases b with
    | none => cases f <;> cases h
    | some g => rw [Fact.d_inj f g h]) (fun a => by
  cases a with
  | none => rfl
  | some f => exact Fact.d_nb f) (fun a => (factOD_shp a).lay) a b
theorem r_eqFO {K : PySem.W.Frag} {H : Hp} {Q : VK} {x y : V} {a b : Option Fact} (h1 : Im K H x (factOD a)) (h2 : Im K H y (factOD b)) (q : Q (.bl (decide (a = b))) H) : rEqD K x y H Q := by
  refine ⟨_, _, Im.dp h1, Im.dp h2, (factOD_shp _).ok, (factOD_shp _).ok, ?_⟩
  rw [factOD_eqv]
  exact q
theorem r_neFO {K : PySem.W.Frag} {H : Hp} {Q : VK} {x y : V} {a b : Option Fact} (h1 : Im K H x (factOD a)) (h2 : Im K H y (factOD b)) (q : Q (.bl (!decide (a = b))) H) : rNeD K x y H Q := by
  refine ⟨_, _, Im.dp h1, Im.dp h2, (factOD_shp _).ok, (factOD_shp _).ok, ?_⟩
  rw [factOD_eqv]
  exact q
theorem ngt_h {f g : Fact} {p : Pt} (h : f.ngt = some g) : g.h p = !f.h p := by
  cases f with
  | row ts n =>
    cases h
    show decide (sumF (negT ts) p ≤ -n - 1) = !decide (sumF ts p ≤ n)
    have e : ∀ ts : Tms, sumF (negT ts) p = -sumF ts p := fun ts => by
      induction ts with
      | nil => rfl
      | cons z ts ih =>
        have e1 : sumF (negT (z :: ts)) p = (-z.2) * p z.1 + sumF (negT ts) p := by simp [sumF, negT]
        have e2 : sumF (z :: ts) p = z.2 * p z.1 + sumF ts p := by simp [sumF]
        rw [e1, e2, ih, Int.neg_mul]
        omega
    rw [e, Bool.eq_iff_iff]
    simp
    omega
  | any ls =>
    match ls, h with
    | [], h => cases h
    | l :: l' :: ls, h => cases h
    | [l], h =>
      cases h
      show ([l.ngt].any fun z => z.h p) = !([l].any fun z => z.h p)
      simp only [List.any_cons, List.any_nil, Bool.or_false, Lit.h, Lit.ngt]
      exact Rel.neg_h _ _ _
def spNegF (K : PySem.W.Frag) : Sp := fun vs H Q _ => ∃ (p : Addr) (f : Fact), vs = [.ref p] ∧ FactAt K H p f ∧ (∀ ts n, f = .row ts n → ts.length ≤ 1000) ∧ ∀ (x : V) (H' : Hp), FactO K H' x f.ngt → Kp [] H H' → Q x H'

/-! ### dicts with numbers as keys -/
def ents (ks : List Int) (f : Int → V) : List (Key × V) := ks.map fun v => (Sum.inl v, f v)
theorem valV_ents {ks : List Int} {f : Int → V} {v : Int} : valV (ents ks f) (Sum.inl v) = if v ∈ ks then some (f v) else none := by
  unfold valV ents
  induction ks with
  | nil => rfl
  | cons u ks ih =>
    rw [List.map_cons, List.find?_cons]
    by_cases e : u = v
    · subst e
      simp
    · have e2 : decide ((Sum.inl u : Key) = Sum.inl v) = false := by
        rw [decide_eq_false_iff_not]
        intro z
        cases z
        exact e rfl
      simp only [e2]
      rw [ih]
      have e3 : (v ∈ u :: ks) ↔ v ∈ ks := by
        rw [List.mem_cons]
        exact ⟨fun h => h.resolve_left fun z => e z.symm, .inr⟩
      simp only [e3]
theorem any_ents {ks : List Int} {f : Int → V} {v : Int} : ((ents ks f).any fun kv => decide (kv.1 = Sum.inl v)) = decide (v ∈ ks) := by
  rw [valV_any, valV_ents]
  by_cases h : v ∈ ks
  · rw [if_pos h, decide_eq_true h]
    rfl
  · rw [if_neg h, decide_eq_false h]
    rfl
theorem putK_ents {ks : List Int} {f : Int → V} {v : Int} {x : V} : putK (ents ks f) (Sum.inl v) x = ents (if v ∈ ks then ks else ks ++ [v]) (fun u => if u = v then x else f u) := by
  unfold putK
  rw [any_ents]
  by_cases h : v ∈ ks
  · rw [decide_eq_true h, if_pos rfl, if_pos h]
    unfold ents
    rw [List.map_map]
    refine List.map_congr_left fun u _ => ?_
    show (if (Sum.inl u : Key) = Sum.inl v then (Sum.inl u, x) else (Sum.inl u, f u)) = _
    by_cases e : u = v
    · rw [if_pos (by rw [e])]
      show _ = (Sum.inl u, if u = v then x else f u)
      rw [if_pos e]
    · rw [if_neg (fun z => by cases z; exact e rfl)]
      show _ = (Sum.inl u, if u = v then x else f u)
      rw [if_neg e]
  · rw [decide_eq_false h, if_neg (by decide), if_neg h]
    unfold ents
    rw [List.map_append]
    have e1 : ks.map (fun u => ((Sum.inl u : Key), f u)) = ks.map (fun u => ((Sum.inl u : Key), if u = v then x else f u)) := List.map_congr_left fun u hu => by simp only [if_neg (show ¬ u = v from fun e => h (e ▸ hu))]
    rw [e1]
    simp
section
variable {td ty tx : TE} {σ : St} {H : Hp} {Q : VK} {a : Addr} {ks : List Int} {f : Int → V} {v : Int} {x y z : V} {kvs : List (Key × V)}
def isDk (x : V) (H : Hp) (R : Addr → Prop) : Prop := ∃ a, x = .ref a ∧ IsD H a ∧ R a
def dgD (a : Addr) (y z : V) (H : Hp) (Q : VK) : Prop := ∃ o, DGet H a y o ∧ Q (o.getD z) H
instance s_dg2 : Stp (tDGet2 td ty tx σ H Q) (td σ H fun x H1 => isDk x H1 fun a => ty σ H1 fun y H2 => tx σ H2 fun z H3 => dgD a y z H3 Q) := ⟨id⟩
theorem r_isDk {R : Addr → Prop} (h : H a = some (.dK kvs)) (q : R a) : isDk (.ref a) H R := ⟨a, rfl, .inl ⟨kvs, .inl h⟩, q⟩
theorem r_dgD (h : H a = some (.dK (ents ks f))) (q : Q (if v ∈ ks then f v else z) H) : dgD a (.int v) z H Q := by
  refine ⟨_, DGet.k (k := Sum.inl v) h, ?_⟩
  rw [valV_ents]
  by_cases e : v ∈ ks
  · rw [if_pos e] at q ⊢
    exact q
  · rw [if_neg e] at q ⊢
    exact q
theorem r_putE {R : Hp → Prop} (h : H a = some (.dK (ents ks f))) (few : ks.length ≤ 10000) (q : ∀ H2, H2 a = some (.dK (ents (if v ∈ ks then ks else ks ++ [v]) fun u => if u = v then x else f u)) → Kp [a] H H2 → R H2) : putD (.ref a) (.int v) x H R :=
  r_putD (k := Sum.inl v) h (by unfold ents; rw [List.length_map]; exact few) fun H2 e2 k2 => q H2 (by rw [e2, putK_ents]) k2
theorem r_ixDK {H : Hp} {Q : VK} {a : Addr} (h : H a = some (.dK (ents ks f))) (hv : v ∈ ks) (q : Q (f v) H) : rIxDK (.ref a) (.int v) H Q := ⟨a, _, v, f v, rfl, rfl, h, by rw [valV_ents, if_pos hv], q⟩
def rSortDI : List V → Hp → VK → Prop := fun xs H Q => ∃ (a : Addr) (kvs : List (Key × V)) (ks : List Int), xs = [.ref a] ∧ Rd H a (.dK kvs) ∧ kvs.map (·.1) = ks.map Sum.inl ∧ ks.length < 64 ∧ ∀ (ys : List Int) (p : Addr), ys.Perm ks → ys.Pairwise (· ≤ ·) → H p = none → Q (.ref p) (upd H p (.lst (ys.map V.int)))
theorem cg_sortDI {X : Cx} (hc : X.calm = true) : CallR X (.builtin "sorted") rSortDI := call_sortedDI hc
theorem r_sortDI (h : H a = some (.dK (ents ks f))) (nd : ks.Nodup) (h64 : ks.length < 64) (q : ∀ (ys : List Int) p H2, ys.Pairwise (· < ·) → (∀ k, k ∈ ys ↔ k ∈ ks) → H p = none → H2 p = some (.lst (ys.map V.int)) → Kp [] H H2 → Q (.ref p) H2) : rSortDI [.ref a] H Q := by
  refine ⟨a, _, ks, rfl, .inl h, ?_, h64, fun ys p hp hs hn => q ys p _ ?_ (fun k => hp.mem_iff) hn upd_same (Kp.new hn)⟩
  · unfold ents
    rw [List.map_map]
    rfl
  · have nd2 : ys.Nodup := hp.nodup_iff.mpr nd
    refine List.Pairwise.imp₂ (fun a b (h1 : a ≤ b) (h2 : a ≠ b) => (by omega : a < b)) hs nd2
end
theorem asc_ext : ∀ {xs ys : List Int}, xs.Pairwise (· < ·) → ys.Pairwise (· < ·) → (∀ k, k ∈ xs ↔ k ∈ ys) → xs = ys
  | [], [], _, _, _ => rfl
  | [], y :: ys, _, _, h => absurd ((h y).mpr List.mem_cons_self) (by simp)
  | x :: xs, [], _, _, h => absurd ((h x).mp List.mem_cons_self) (by simp)
  | x :: xs, y :: ys, hx, hy, h => by
    rw [List.pairwise_cons] at hx hy
    have e : x = y := by
      rcases List.mem_cons.mp ((h x).mp List.mem_cons_self) with e | e
      · exact e
      · rcases List.mem_cons.mp ((h y).mpr List.mem_cons_self) with e2 | e2
        · exact e2.symm
        · have a := hx.1 y e2
          have b := hy.1 x e
          omega
    subst e
    rw [asc_ext hx.2 hy.2 fun k => ?_]
    constructor
    · intro hk
      rcases List.mem_cons.mp ((h k).mp (List.mem_cons_of_mem _ hk)) with e | e
      · have := hx.1 k hk
        omega
      · exact e
    · intro hk
      rcases List.mem_cons.mp ((h k).mpr (List.mem_cons_of_mem _ hk)) with e | e
      · have := hy.1 k hk
        omega
      · exact e
/-- 0 .. n - 1 -/
def upTo (n : Nat) : List Int := (List.range n).map fun (k : Nat) => (k : Int)
theorem upTo_asc (n : Nat) : (upTo n).Pairwise (· < ·) := by
  unfold upTo
  rw [List.pairwise_map]
  exact (List.pairwise_lt_range (n := n)).imp fun h => by omega
theorem mem_upTo {n : Nat} {k : Int} : k ∈ upTo n ↔ 0 ≤ k ∧ k < n := by
  unfold upTo
  rw [List.mem_map]
  constructor
  · rintro ⟨j, hj, rfl⟩
    have := List.mem_range.mp hj
    omega
  · intro h
    exact ⟨k.toNat, List.mem_range.mpr (by omega), by omega⟩
theorem fm_asc {α : Type} {ys : List Int} {n : Nat} {f : Int → Option α} (h : ys.Pairwise (· < ·)) (hm : ∀ k ∈ ys, 0 ≤ k ∧ k < n) (hn : ∀ k, ¬ k ∈ ys → f k = none) : ys.filterMap f = (upTo n).filterMap f := by
  have e : ys = (upTo n).filter fun k => decide (k ∈ ys) := by
    refine asc_ext h ((upTo_asc n).filter _) fun k => ?_
    rw [List.mem_filter, mem_upTo, decide_eq_true_eq]
    exact ⟨fun q => ⟨hm k q, q⟩, fun q => q.2⟩
  conv => lhs; rw [e]
  rw [List.filterMap_filter]
  congr 1
  funext k
  by_cases q : k ∈ ys
  · rw [decide_eq_true q]; rfl
  · rw [decide_eq_false q, hn k q]; rfl
def coefF : Tms → Int → Int
  | [], _ => 0
  | z :: ts, v => (if z.1 = v then z.2 else 0) + coefF ts v
theorem coefF_app (ts us : Tms) (v : Int) : coefF (ts ++ us) v = coefF ts v + coefF us v := by
  induction ts with
  | nil => simp [coefF]
  | cons z ts ih => simp only [List.cons_append, coefF, ih]; omega
def scaleT (m : Int) (ts : Tms) : Tms := ts.map fun z => (z.1, m * z.2)
theorem coefF_zero {ts : Tms} {v : Int} (h : ¬ v ∈ ts.map (·.1)) : coefF ts v = 0 := by
  induction ts with
  | nil => rfl
  | cons z ts ih =>
    rw [List.map_cons, List.mem_cons, not_or] at h
    rw [coefF, if_neg (fun e => h.1 e.symm), ih h.2]
    rfl
def normT (n : Nat) (ts : Tms) : Tms := (upTo n).filterMap fun v => if coefF ts v = 0 then none else some (v, coefF ts v)
theorem sum_fm {l : List Int} {c g : Int → Int} : ((l.filterMap fun v => if c v = 0 then none else some (v, c v)).map fun z : Int × Int => z.2 * g z.1).sum = (l.map fun v => c v * g v).sum := by
  induction l with
  | nil => rfl
  | cons v l ih =>
    rw [List.filterMap_cons, List.map_cons, List.sum_cons]
    by_cases h : c v = 0
    · rw [if_pos h]
      simp only
      rw [ih, h, Int.zero_mul, Int.zero_add]
    · rw [if_neg h]
      simp only [List.map_cons, List.sum_cons]
      rw [ih]
theorem sum_add {l : List Int} {f g : Int → Int} : (l.map fun v => f v + g v).sum = (l.map f).sum + (l.map g).sum := by
  induction l with
  | nil => rfl
  | cons v l ih => simp only [List.map_cons, List.sum_cons, ih]; omega
theorem sum_one {l : List Int} (h : l.Nodup) {w : Int} (hw : w ∈ l) (a : Int) (g : Int → Int) : (l.map fun v => (if w = v then a else 0) * g v).sum = a * g w := by
  induction l with
  | nil => cases hw
  | cons v l ih =>
    rw [List.nodup_cons] at h
    rw [List.map_cons, List.sum_cons]
    by_cases e : w = v
    · subst e
      have z : (l.map fun v => (if w = v then a else 0) * g v).sum = 0 := by
        have : ∀ l : List Int, ¬ w ∈ l → (l.map fun v => (if w = v then a else 0) * g v).sum = 0 := by
          intro l hl
          induction l with
          | nil => rfl
          | cons u l ih =>
            rw [List.mem_cons, not_or] at hl
            rw [List.map_cons, List.sum_cons, ih hl.2, if_neg hl.1, Int.zero_mul]
            rfl
        exact this l h.1
      rw [z, if_pos rfl, Int.add_zero]
    · rw [if_neg e, Int.zero_mul, Int.zero_add]
      exact ih h.2 ((List.mem_cons.mp hw).resolve_left e)
theorem sumF_norm {n : Nat} {ts : Tms} (h : ∀ z ∈ ts, 0 ≤ z.1 ∧ z.1 < n) (g : Pt) : sumF (normT n ts) g = sumF ts g := by
  unfold sumF normT
  rw [sum_fm]
  induction ts with
  | nil =>
    simp only [coefF, Int.zero_mul, List.map_nil]
    have : ∀ l : List Int, (l.map fun _ => (0 : Int)).sum = 0 := by
      intro l
      induction l with
      | nil => rfl
      | cons _ l ih => simp only [List.map_cons, List.sum_cons, ih]; rfl
    exact this _
  | cons z ts ih =>
    simp only [coefF, Int.add_mul, List.map_cons, List.sum_cons]
    rw [sum_add, ih fun y hy => h y (List.mem_cons_of_mem _ hy), sum_one ((upTo_asc n).imp fun h => by omega) (mem_upTo.mpr (h z List.mem_cons_self))]
theorem sumF_scale (m : Int) (ts : Tms) (g : Pt) : sumF (scaleT m ts) g = m * sumF ts g := by
  unfold sumF scaleT
  induction ts with
  | nil => simp
  | cons z ts ih =>
    simp only [List.map_cons, List.sum_cons]
    rw [ih, Int.mul_add, Int.mul_assoc]
theorem sumF_app (ts us : Tms) (g : Pt) : sumF (ts ++ us) g = sumF ts g + sumF us g := by simp [sumF]
theorem r_dgC {H : Hp} {Q : VK} {a : Addr} {ks : List Int} {c : Int → Int} {v : Int} (h : H a = some (.dK (ents ks fun v => .int (c v)))) (hz : ¬ v ∈ ks → c v = 0) (q : Q (.int (c v)) H) : dgD a (.int v) (.int 0) H Q := by
  refine r_dgD h ?_
  by_cases e : v ∈ ks
  · rw [if_pos e]
    exact q
  · rw [if_neg e, ← hz e]
    exact q
theorem coefF_snoc (ts : Tms) (v c u : Int) : coefF (ts ++ [(v, c)]) u = if u = v then coefF ts v + c else coefF ts u := by
  rw [coefF_app]
  simp only [coefF]
  by_cases e : u = v
  · subst e
    rw [if_pos rfl, if_pos rfl]
    omega
  · rw [if_neg e, if_neg (fun z => e z.symm)]
    omega
theorem scale_take {us : Tms} {i : Nat} {z : Int × Int} {m : Int} (h : us[i]? = some z) : scaleT m (us.take (i + 1)) = scaleT m (us.take i) ++ [(z.1, m * z.2)] := by
  unfold scaleT
  rw [List.take_add_one, h, List.map_append]
  rfl
theorem atI_upTo {n : Nat} {g : Int → V} {v : Int} (h0 : 0 ≤ v) (h1 : v < n) : atI ((upTo n).map g) v = some (g v) := by
  have hl : ((upTo n).map g).length = n := by simp [upTo]
  rw [atI_nat h0 (by rw [hl]; exact h1), List.getElem?_map]
  unfold upTo
  rw [List.getElem?_map, List.getElem?_range (by omega)]
  show some (g ((v.toNat : Nat) : Int)) = _
  rw [Int.toNat_of_nonneg h0]
theorem set_upTo {n : Nat} {g : Int → V} {v : Int} {x : V} (h0 : 0 ≤ v) (h1 : v < n) : ((upTo n).map g).set v.toNat x = (upTo n).map fun u => if u = v then x else g u := by
  refine List.ext_getElem (by simp) fun i hi hi2 => ?_
  have hl : i < n := by simpa [upTo] using hi2
  rw [List.getElem_set]
  simp only [List.getElem_map, upTo, List.getElem_range]
  by_cases e : v.toNat = i
  · rw [if_pos e, if_pos (by omega)]
  · rw [if_neg e, if_neg (by omega)]
theorem upTo_len {g : Int → V} (n : Nat) : ((upTo n).map g).length = n := by simp [upTo]

/-! ### entries that are awake -/
def premOf (es : List (Option Step)) (i : Int) : Option Fact := match es[i.toNat]? with | some (some s) => some s.f | _ => none
theorem awake_some {es : List (Option Step)} {i : Int} (h : awake es i = true) : ∃ s, es[i.toNat]? = some (some s) ∧ premOf es i = some s.f ∧ some s ∈ es ∧ 0 ≤ i ∧ i < es.length := by
  unfold awake at h
  simp only [Bool.and_eq_true, decide_eq_true_eq] at h
  obtain ⟨h0, h1, h2⟩ := h
  have hl : i.toNat < es.length := by omega
  unfold premOf
  rw [List.getElem?_eq_getElem hl] at h2 ⊢
  cases e : es[i.toNat] with
  | none => rw [e] at h2; cases h2
  | some s => exact ⟨s, rfl, rfl, e ▸ List.getElem_mem hl, h0, h1⟩
/-- an awake entry, read -/
theorem ent_awake {K : PySem.W.Frag} {H : Hp} {es : List (Option Step)} {refs : List V} {i : Int} (A : ImAll K H refs (es.map entD)) (aw : awake es i = true) : ∃ (p q : Addr) (s : Step) (xs : List V), atI refs i = some (.ref p) ∧ premOf es i = some s.f ∧ some s ∈ es ∧ es[i.toNat]? = some (some s) ∧ SqT K H p (.ref q :: .str s.r.name :: xs) ∧ FactAt K H q s.f := by
  obtain ⟨s, h1, h2, h3, h0, hl⟩ := awake_some aw
  obtain ⟨x, ex, hx⟩ := mapGetJ A h1
  rw [Int.toNat_of_nonneg h0, Int.zero_add] at ex
  obtain ⟨p, rfl⟩ := Im.isRef (show Im K H x (.tuple _) from hx)
  obtain ⟨q, xs, sp, hf, _⟩ := step_open hx
  exact ⟨p, q, s, xs, ex, h2, h3, h1, sp, hf⟩

section
variable {P : Program} {w : World} {K : PySem.W.Frag} {mg : Str → Option Value} {base : Heap}
theorem ok_law_as_row {f : Addr} {fd : FuncData} (F : Fun K "_law_as_row" "_law_as_row" s_law_as_row f fd) (B : Bi K mg)  : FnOk P w K mg base CX0 1 f fd ["_law_fact_here"] (spAsRow K) := by
  have nd := sc_law_as_row.nd
  refine F.ok sc_law_as_row ?len (fun cdv A outer s H vs Q E hr h => ?body)
  case len =>
    rintro vs H Q E ⟨p, f, rfl, _⟩
    rfl
  case body =>
    obtain ⟨p, f, rfl, hf, k⟩ := h
    refine ⟨_, (pss_cons (ps_if (pt_cmpR op_eq (pe_ix (ixT K) (pv 0) pe_int (fun _ _ => rfl)) pe_str (nomark _))
      (pss_one (ps_ret (pv 0)))
      pss_nil)
      (pss_cons (ps_if (PW.pt (pw_and (pt_cmpR op_eq (pe_callB (cgLen K) (by rfl) B.n_len PySem.boot_len (pa_cons (pe_ix (ixT K) (pv 0) pe_int (fun _ _ => rfl)) pa_nil)) pe_int (nomark _)) (pw_and1 (pt_cmpR op_eq (pe_ix (ixT K) (pe_ix (ixT K) (pe_ix (ixT K) (pv 0) pe_int (fun _ _ => rfl)) pe_int (fun _ _ => rfl)) pe_int (fun _ _ => rfl)) pe_str (nomark _)))))
      (pss_one (ps_ret (pe_tup (pa_cons pe_str (pa_cons (pe_tup (pa_cons (pe_tup (pa_cons (pe_ix (ixT K) (pe_ix (ixT K) (pe_ix (ixT K) (pv 0) pe_int (fun _ _ => rfl)) pe_int (fun _ _ => rfl)) pe_int (fun _ _ => rfl)) (pa_cons pe_int pa_nil))) pa_nil)) (pa_cons (pe_ix (ixT K) (pe_ix (ixT K) (pe_ix (ixT K) (pv 0) pe_int (fun _ _ => rfl)) pe_int (fun _ _ => rfl)) pe_int (fun _ _ => rfl)) pa_nil))))))
      pss_nil)
      (pss_cons (ps_if (PW.pt (pw_and (pt_cmpR op_eq (pe_callB (cgLen K) (by rfl) B.n_len PySem.boot_len (pa_cons (pe_ix (ixT K) (pv 0) pe_int (fun _ _ => rfl)) pa_nil)) pe_int (nomark _)) (pw_and1 (pt_cmpR op_eq (pe_ix (ixT K) (pe_ix (ixT K) (pe_ix (ixT K) (pv 0) pe_int (fun _ _ => rfl)) pe_int (fun _ _ => rfl)) pe_int (fun _ _ => rfl)) pe_str (nomark _)))))
      (pss_one (ps_ret (pe_tup (pa_cons pe_str (pa_cons (pe_tup (pa_cons (pe_tup (pa_cons (pe_ix (ixT K) (pe_ix (ixT K) (pe_ix (ixT K) (pv 0) pe_int (fun _ _ => rfl)) pe_int (fun _ _ => rfl)) pe_int (fun _ _ => rfl)) (pa_cons (pe_op op_sub pe_int pe_int) pa_nil))) pa_nil)) (pa_cons (pe_op op_sub pe_int (pe_ix (ixT K) (pe_ix (ixT K) (pe_ix (ixT K) (pv 0) pe_int (fun _ _ => rfl)) pe_int (fun _ _ => rfl)) pe_int (fun _ _ => rfl))) pa_nil))))))
      pss_nil)
      (pss_one (ps_ret pe_non))))), ?_⟩
    try dsimp only [L2.cxOf, L2.Cx.nox, L2.Cx.wish]
    rw [st_law_as_row]
    cases f with
    | row ts n =>
      obtain ⟨q, s1, i1⟩ := row_open hf
      walk_at "cg"
      exact k _ _ (.some hf) .refl
    | any ls =>
      obtain ⟨q, s1, i1⟩ := any_open hf
      obtain ⟨xs, s2, i2⟩ := Im.open i1
      have hl := mapLenP i2
      match ls, i2, k, hl with
      | [], i2, k, hl =>
        simp only [List.length_nil] at hl
        walk_at "cg"
        exact k _ _ .none .refl
      | l :: l' :: ls, i2, k, hl =>
        simp only [List.length_cons] at hl
        rw [asRow_two] at k
        walk_at "cg"
        exact k _ _ .none .refl
      | [⟨v, r, a⟩], i2, k, hl =>
        cases i2 with
        | cons h1 h2 =>
        cases h2
        obtain ⟨ql, rfl, L⟩ := lit_at h1
        dsimp only at L
        cases r
        · walk_at "cg"
          exact k _ _ (.some (row_mk (by assumption) (.tup (by walk_at "cg h") (.cons (.tup (by walk_at "cg h") (.cons (.int _) (.cons (.int _) .nil))) .nil)))) (by walk_at "cg kp")
        · walk_at "cg"
          rename_i px H1 hpx spx kx py H2 hpy spy ky pz H3 hpz spz kz
          have e1 : (0 : Int) - 1 = -1 := by omega
          have e2 : (0 : Int) - a = -a := by omega
          rw [e1] at spx
          rw [e2] at spz
          exact k _ _ (.some (row_mk spz (.tup (by walk_at "cg h") (.cons (.tup (by walk_at "cg h") (.cons (.int _) (.cons (.int _) .nil))) .nil)))) (by walk_at "cg kp")
        · walk_at "cg"
          exact k _ _ .none .refl
        · walk_at "cg"
          exact k _ _ .none .refl

theorem ok_law_negation {f : Addr} {fd : FuncData} (F : Fun K "_law_negation" "_law_negation" s_law_negation f fd) (B : Bi K mg)  : FnOk P w K mg base CX0 1 f fd ["_law_fact_here"] (spNegF K) := by
  have nd := sc_law_negation.nd
  refine F.ok sc_law_negation ?len (fun cdv A outer s H vs Q E hr h => ?body)
  case len =>
    rintro vs H Q E ⟨p, f, rfl, _⟩
    rfl
  case body =>
    obtain ⟨p, f, rfl, hf, few, k⟩ := h
    refine ⟨_, (pss_cons (ps_if (pt_cmpR op_eq (pe_ix (ixT K) (pv 0) pe_int (fun _ _ => rfl)) pe_str (nomark _))
      (pss_one (ps_ret (pe_tup (pa_cons pe_str (pa_cons (pe_callTy (cgTuple K) (by rfl) B.n_tuple (by decide +kernel) (pa_cons (by exact pe_lc (own := [("_law_v", 1), ("_law_c", 4)]) (g := (gTup K 2 (gCons (gName 1) (gCons (gName 4) gNil)))) (tt := tYes) rfl nd (pi_tup (pe_ix (ixT K) (pv 0) pe_int (fun _ _ => rfl))) (blkOk_by (N := ["_law_fact_here", "_law_v", "_law_relation", "_law_a", "_law_c"]) (sc := defScope s_law_negation) (by decide +kernel)) (fun _ _ _ _ _ => (pg_tup (n := 2) rfl (pgs_cons (pg_name (i := 1) nd rfl (Or.inl rfl)) (pgs_cons (pg_name (i := 4) nd rfl (Or.inl rfl)) pgs_nil)))) (fun _ _ _ _ _ => pts_nil) (fun _ _ _ _ _ => (pe_tup (pa_cons (pv 1) (pa_cons (pe_op op_sub pe_int (pv 4)) pa_nil))))) pa_nil)) (pa_cons (pe_op op_sub (pe_op op_sub pe_int (pe_ix (ixT K) (pv 0) pe_int (fun _ _ => rfl))) pe_int) pa_nil))))))
      pss_nil)
      (pss_cons (ps_if (pt_cmpR op_ne (pe_callB (cgLen K) (by rfl) B.n_len PySem.boot_len (pa_cons (pe_ix (ixT K) (pv 0) pe_int (fun _ _ => rfl)) pa_nil)) pe_int (nomark _))
      (pss_one (ps_ret pe_non))
      pss_nil)
      (pss_cons (ps_asg (pe_ix (ixT K) (pe_ix (ixT K) (pv 0) pe_int (fun _ _ => rfl)) pe_int (fun _ _ => rfl)) (pg_tup (n := 3) rfl (pgs_cons (pg_name (i := 1) nd rfl (Or.inl rfl)) (pgs_cons (pg_name (i := 2) nd rfl (Or.inl rfl)) (pgs_cons (pg_name (i := 3) nd rfl (Or.inl rfl)) pgs_nil)))))
      (pss_cons (ps_if (pt_cmpR op_eq (pv 2) pe_str (nomark _))
      (pss_one (ps_ret (pe_tup (pa_cons pe_str (pa_cons (pe_tup (pa_cons (pe_tup (pa_cons (pv 1) (pa_cons pe_str (pa_cons (pe_op op_add (pv 3) pe_int) pa_nil)))) pa_nil)) pa_nil)))))
      pss_nil)
      (pss_cons (ps_if (pt_cmpR op_eq (pv 2) pe_str (nomark _))
      (pss_one (ps_ret (pe_tup (pa_cons pe_str (pa_cons (pe_tup (pa_cons (pe_tup (pa_cons (pv 1) (pa_cons pe_str (pa_cons (pe_op op_sub (pv 3) pe_int) pa_nil)))) pa_nil)) pa_nil)))))
      pss_nil)
      (pss_cons (ps_if (pt_cmpR op_eq (pv 2) pe_str (nomark _))
      (pss_one (ps_ret (pe_tup (pa_cons pe_str (pa_cons (pe_tup (pa_cons (pe_tup (pa_cons (pv 1) (pa_cons pe_str (pa_cons (pv 3) pa_nil)))) pa_nil)) pa_nil)))))
      pss_nil)
      (pss_one (ps_ret (pe_tup (pa_cons pe_str (pa_cons (pe_tup (pa_cons (pe_tup (pa_cons (pv 1) (pa_cons pe_str (pa_cons (pv 3) pa_nil)))) pa_nil)) pa_nil))))))))))), ?_⟩
    try dsimp only [L2.cxOf, L2.Cx.nox, L2.Cx.wish]
    rw [st_law_negation]
    cases f with
    | row ts n =>
      obtain ⟨q, s1, i1⟩ := row_open hf
      obtain ⟨xs, h1, h2⟩ := i1.open
      walk_at "cg"
      refine lcT_m (xs := xs) (as := ts) (d := tD) h1 h2 (fun z => tD (z.1, -z.2)) (by have := few ts n rfl; omega) (fun i z x H' R R' hz k2 hx q => ?_) (fun D H' acc hD eD hA k2 => ?_)
      · obtain ⟨px, rfl, hs⟩ := term_at hx
        have z8 : (0 : Int) - z.2 = -z.2 := by omega
        walk_at "cg"
        rename_i p3 H3 hp3 s3 k3
        rw [z8] at s3
        exact q _ _ (.tup s3 (.cons (.int _) (.cons (.int _) .nil))) (by walk_at "cg kp")
      · have hN : ImAll K H' acc ((negT ts).map tD) := by
          rw [negT, List.map_map]
          exact hA
        have z9 : (0 : Int) - n - 1 = -n - 1 := by omega
        walk_at "cg"
        rename_i p4 H4 hp4 s4 k4 p5 H5 hp5 s5 k5
        rw [z9] at s5
        exact k _ _ (.some (f := .row (negT ts) (-n - 1)) (row_mk s5 (.tup (k5.tup s4) (k5.imAll (k4.imAll hN))))) (by walk_at "cg kp")
    | any ls =>
      obtain ⟨q, s1, i1⟩ := any_open hf
      obtain ⟨xs, s2, i2⟩ := Im.open i1
      have hl := mapLenP i2
      match ls, i2, k, hl with
      | [], i2, k, hl =>
        simp only [List.length_nil] at hl
        walk_at "cg"
        exact k _ _ .none .refl
      | l :: l' :: ls, i2, k, hl =>
        simp only [List.length_cons] at hl
        rw [ngt_two] at k
        walk_at "cg"
        exact k _ _ .none .refl
      | [⟨v, r, a⟩], i2, k, hl =>
        cases i2 with
        | cons h1 h2 =>
        cases h2
        obtain ⟨ql, rfl, L⟩ := lit_at h1
        dsimp only at L
        cases r
        all_goals
          walk_at "cg"
          rename_i p3 H3 hp3 s3 k3 p4 H4 hp4 s4 k4 p5 H5 hp5 s5 k5
        · exact k _ _ (.some (f := .any [Lit.ngt ⟨v, .le, a⟩]) (any_mk s5 (.tup (k5.tup s4) (.cons (lit_mk (v := v) (r := .ge) (a := a + 1) (k5.tup (k4.tup s3))) .nil)))) (by walk_at "cg kp")
        · exact k _ _ (.some (f := .any [Lit.ngt ⟨v, .ge, a⟩]) (any_mk s5 (.tup (k5.tup s4) (.cons (lit_mk (v := v) (r := .le) (a := a - 1) (k5.tup (k4.tup s3))) .nil)))) (by walk_at "cg kp")
        · exact k _ _ (.some (f := .any [Lit.ngt ⟨v, .eq, a⟩]) (any_mk s5 (.tup (k5.tup s4) (.cons (lit_mk (v := v) (r := .ne) (a := a) (k5.tup (k4.tup s3))) .nil)))) (by walk_at "cg kp")
        · exact k _ _ (.some (f := .any [Lit.ngt ⟨v, .ne, a⟩]) (any_mk s5 (.tup (k5.tup s4) (.cons (lit_mk (v := v) (r := .eq) (a := a) (k5.tup (k4.tup s3))) .nil)))) (by walk_at "cg kp")

end
def spWritten (K : PySem.W.Frag) : Sp := fun vs H Q _ => ∃ (p : Addr) (b : Body), vs = [.ref p] ∧ BodyAt K H p b ∧ b.bd ∧ ∀ (l : Addr) (H' : Hp), H' l = some (.lst (b.vars.map V.int)) → Kp [] H H' → Q (.ref l) H'

structure WorldB (K : PySem.W.Frag) (H : Hp) (a : WA) (M : Mdl) : Prop where
  w : ∃ pg : V, H a.w = some (.lst [.ref a.u, .ref a.f, pg]) ∧ True
  u : ∃ refs, H a.u = some (.lst refs) ∧ ImAll K H refs (M.us.map unD)
  f : ∃ refs, H a.f = some (.lst refs) ∧ ImAll K H refs (M.bs.map labD)
  d : a.w ≠ a.u ∧ a.w ≠ a.f
section
variable {K : PySem.W.Frag} {C : Addr} {H H' : Hp} {a : WA} {M : Mdl} {S : List Addr}
theorem WorldB.kp (k : Kp S H H') (h : WorldB K H a M) (d : ∀ x ∈ a.all, ¬ x ∈ S) : WorldB K H' a M := by
  obtain ⟨pg, h1, h2⟩ := h.w
  obtain ⟨r1, h3, h4⟩ := h.u
  obtain ⟨r2, h5, h6⟩ := h.f
  exact ⟨⟨pg, k.get (d _ (by simp [WA.all])) h1, trivial⟩, ⟨r1, k.get (d _ (by simp [WA.all])) h3, k.imAll h4⟩, ⟨r2, k.get (d _ (by simp [WA.all])) h5, k.imAll h6⟩, h.d⟩
theorem WorldB.kp0 (k : Kp [] H H') (h : WorldB K H a M) : WorldB K H' a M := h.kp k fun _ _ z => nomatch z
theorem WorldB.kp1 {t : Addr} (k : Kp [t] H H') (h : WorldB K H a M) (n : offW a t) : WorldB K H' a M := h.kp k fun x hx z => n x hx (by simpa using z)
end
/-- sizes of a step's numbers -/
def Rule.num : Rule → Prop
  | .sum ps => ps.length ≤ 60 ∧ ∀ p ∈ ps, -1000000000000000000 ≤ p.2 ∧ p.2 ≤ 1000000000000000000
  | .divide _ d => d ≤ 1000000
  | .look _ is => is.length ≤ 60
  | .unit is => is.length ≤ 60
  | _ => True
theorem Rule.num_bd {r : Rule} (h : r.num) : r.bd := by
  cases r with
  | sum ps => exact h.1
  | look x is => exact h
  | unit is => exact h
  | _ => trivial
/-- sizes of a fact, wherever its unknowns lie -/
def Fact.bnd : Fact → Prop
  | .row ts _ => (∀ z ∈ ts, z.2 ≠ 0 ∧ -1000000000000000000 ≤ z.2 ∧ z.2 ≤ 1000000000000000000) ∧ ts.length ≤ 60
  | .any ls => (∀ l ∈ ls, -1000000000000000000 ≤ l.a ∧ l.a ≤ 1000000000000000000) ∧ ls.length ≤ 60
theorem Fact.ok_bnd {f : Fact} {m : Int} (h : f.ok m) : f.bnd := by
  cases f with
  | row ts n => exact ⟨fun z hz => (h.1 z hz).2.2, h.2.1⟩
  | any ls => exact ⟨fun l hl => (h.1 l hl).2.2, h.2⟩
theorem Fact.bnd_ok {f : Fact} {m : Int} (h : f.bnd) (hv : ∀ v ∈ f.vars, 0 ≤ v ∧ v < m) : f.ok m := by
  cases f with
  | row ts n => exact ⟨fun z hz => ⟨(hv z.1 (List.mem_map.mpr ⟨z, hz, rfl⟩)).1, (hv z.1 (List.mem_map.mpr ⟨z, hz, rfl⟩)).2, h.1 z hz⟩, h.2, Int.le_refl _, Int.le_refl _⟩
  | any ls => exact ⟨fun l hl => ⟨(hv l.v (List.mem_map.mpr ⟨l, hl, rfl⟩)).1, (hv l.v (List.mem_map.mpr ⟨l, hl, rfl⟩)).2, h.1 l hl⟩, h.2⟩
theorem Fact.bnd_few {f : Fact} (h : f.bnd) : f.vars.length ≤ 60 := by
  cases f with
  | row ts n => simpa [Fact.vars] using h.2
  | any ls => simpa [Fact.vars] using h.2
theorem Body.isTup (b : Body) : ∃ ds, b.d = .tuple ds := by cases b <;> exact ⟨_, rfl⟩
theorem body_at {K : PySem.W.Frag} {H : Hp} {x : V} {b : Body} (h : Im K H x b.d) : ∃ p, x = .ref p ∧ BodyAt K H p b := by
  obtain ⟨ds, e⟩ := b.isTup
  have h' := h
  rw [e] at h'
  obtain ⟨p, rfl⟩ := h'.isRef
  exact ⟨p, rfl, h⟩

/-! ### sizes of the steps that a law draws -/
def wtL : List Int → Nat
  | [] => 0
  | x :: xs => x.natAbs + wtL xs
def wt (ts : Tms) : Nat := wtL (ts.map (·.2))
theorem wtL_set_le : ∀ {xs : List Int} {i : Nat} {x d : Int}, xs[i]? = some x → wtL (xs.set i (x + d)) ≤ wtL xs + d.natAbs
  | [], i, _, _, h => by simp at h
  | y :: ys, 0, x, d, h => by
    simp only [List.getElem?_cons_zero, Option.some.injEq] at h
    subst h
    simp only [List.set_cons_zero, wtL]
    omega
  | y :: ys, i + 1, x, d, h => by
    have q := wtL_set_le (xs := ys) (i := i) (x := x) (d := d) (by simpa using h)
    simp only [List.set_cons_succ, wtL]
    omega
theorem wt_cons (z : Int × Int) (ts : Tms) : wt (z :: ts) = z.2.natAbs + wt ts := rfl
theorem wt_mem : ∀ {ts : Tms} {z : Int × Int}, z ∈ ts → z.2.natAbs ≤ wt ts
  | [], _, h => by cases h
  | y :: ts, z, h => by
    rw [wt_cons]
    rcases List.mem_cons.mp h with rfl | h
    · omega
    · have := wt_mem h
      omega
theorem wt_le {bB : Nat} : ∀ {ts : Tms}, (∀ z ∈ ts, z.2.natAbs ≤ bB) → wt ts ≤ ts.length * bB
  | [], _ => by simp [wt, wtL]
  | z :: ts, h => by
    have h1 := h z List.mem_cons_self
    have h2 := wt_le (ts := ts) fun y hy => h y (List.mem_cons_of_mem _ hy)
    rw [wt_cons, List.length_cons, Nat.succ_mul]
    omega
theorem wt_fm {g : Int × Int → Option (Int × Int)} (hg : ∀ z y, g z = some y → y.2.natAbs ≤ z.2.natAbs) : ∀ ts : Tms, wt (ts.filterMap g) ≤ wt ts
  | [] => by simp
  | z :: ts => by
    have q := wt_fm hg ts
    rw [List.filterMap_cons, wt_cons]
    split
    · omega
    · rename_i y e
      have := hg z y e
      rw [wt_cons]
      omega
theorem wt_app (a b : Tms) : wt (a ++ b) = wt a + wt b := by
  induction a with
  | nil => simp [wt, wtL]
  | cons z a ih => rw [List.cons_append, wt_cons, wt_cons, ih]; omega
theorem wtL_app (a b : List Int) : wtL (a ++ b) = wtL a + wtL b := by
  induction a with
  | nil => simp [wtL]
  | cons z a ih => rw [List.cons_append]; simp only [wtL, ih]; omega
def rowL (xs : List Int) (n : Nat) : Tms := (List.range n).filterMap fun v => if xs.getD v 0 = 0 then none else some ((v : Int), xs.getD v 0)
theorem rowL_wt (xs : List Int) : ∀ n, n ≤ xs.length → wt (rowL xs n) = wtL (xs.take n)
  | 0, _ => by simp [rowL, wt, wtL]
  | n + 1, h => by
    have q := rowL_wt xs n (by omega)
    have hl : n < xs.length := by omega
    have e : xs.take (n + 1) = xs.take n ++ [xs[n]] := by rw [List.take_add_one, List.getElem?_eq_getElem hl]; rfl
    have e2 : xs.getD n 0 = xs[n] := by simp [List.getD, List.getElem?_eq_getElem hl]
    unfold rowL at q ⊢
    rw [List.range_succ, List.filterMap_append, wt_app, q, e, wtL_app]
    rw [List.filterMap_cons, e2]
    by_cases g : xs[n] = 0
    · simp [g, wt, wtL]
    · simp [g, wt, wtL]
theorem wtL_take (xs : List Int) (n : Nat) : wtL (xs.take n) ≤ wtL xs := by
  have : wtL xs = wtL (xs.take n) + wtL (xs.drop n) := by rw [← wtL_app, List.take_append_drop]
  omega
theorem rowL_mem {xs : List Int} {n : Nat} {z : Int × Int} (h : z ∈ rowL xs n) : 0 ≤ z.1 ∧ z.1 < n ∧ z.2 ≠ 0 := by
  unfold rowL at h
  obtain ⟨v, hv, e⟩ := List.mem_filterMap.mp h
  have := List.mem_range.mp hv
  split at e
  · cases e
  · cases e
    exact ⟨by simp only; omega, by simp only; omega, by assumption⟩
theorem rowL_len (xs : List Int) (n : Nat) : (rowL xs n).length ≤ n := by
  unfold rowL
  refine Nat.le_trans (List.length_filterMap_le _ _) ?_
  simp
theorem div_abs {c d : Int} : (c / d).natAbs ≤ c.natAbs := Int.natAbs_ediv_le_natAbs c d
def Fact.wB (bB : Nat) : Fact → Prop
  | .row ts _ => wt ts ≤ bB
  | .any ls => ∀ l ∈ ls, l.a.natAbs ≤ bB
structure Fact.sz (n : Nat) (bB L : Nat) (f : Fact) : Prop where
  ok : f.ok n
  w : f.wB bB
  len : f.vars.length ≤ L
theorem sz_row {n bB L : Nat} {ts : Tms} {k : Int} (h : ∀ z ∈ ts, 0 ≤ z.1 ∧ z.1 < n ∧ z.2 ≠ 0) (hw : wt ts ≤ bB) (hB : bB ≤ 1000000000000000000) (hl : ts.length ≤ L) (hL : L ≤ 60) : Fact.sz n bB L (.row ts k) :=
  ⟨⟨fun z hz => by have a := h z hz; have b := wt_mem hz; omega, by omega, Int.le_refl _, Int.le_refl _⟩, hw, by show (ts.map (·.1)).length ≤ L; rw [List.length_map]; exact hl⟩
theorem sz_any {n bB L : Nat} {ls : List Lit} (h : ∀ l ∈ ls, 0 ≤ l.v ∧ l.v < n ∧ l.a.natAbs ≤ bB) (hB : bB ≤ 1000000000000000000) (hl : ls.length ≤ L) (hL : L ≤ 60) : Fact.sz n bB L (.any ls) :=
  ⟨⟨fun l hl => by have a := h l hl; omega, by omega⟩, fun l hl => (h l hl).2.2, by show (ls.map (·.v)).length ≤ L; rw [List.length_map]; exact hl⟩
theorem Fact.sz.up {n bB L bB' L' : Nat} {f : Fact} (h : f.sz n bB L) (hB : bB ≤ bB') (hL : L ≤ L') : f.sz n bB' L' := by
  refine ⟨h.ok, ?_, Nat.le_trans h.len hL⟩
  cases f with
  | row ts k => exact Nat.le_trans h.w hB
  | any ls => exact fun l hl => Nat.le_trans (h.w l hl) hB
theorem sz_law {n : Nat} {f : Fact} (n5 : n ≤ 5) (ok : f.ok n) (le : f.le 1001) (ln : (f.vars.length : Int) ≤ (n : Int) + 3) : f.sz n 10000000 40 := by
  cases f with
  | row ts k =>
    have ln : ((ts.map (·.1)).length : Int) ≤ (n : Int) + 3 := ln
    rw [List.length_map] at ln
    refine sz_row (fun z hz => by have := ok.1 z hz; omega) ?_ (by decide) (by omega) (by decide)
    refine Nat.le_trans (wt_le (bB := 1001) fun z hz => by have := le z hz; omega) ?_
    exact Nat.le_trans (Nat.mul_le_mul_right _ (show ts.length ≤ 8 by omega)) (by decide)
  | any ls =>
    have ln : ((ls.map (·.v)).length : Int) ≤ (n : Int) + 3 := ln
    rw [List.length_map] at ln
    exact sz_any (fun z hz => by have := ok.1 z hz; have := le z hz; omega) (by decide) (by omega) (by decide)
theorem sz_tm {n : Nat} {ts : Tms} {k : Int} (n5 : n ≤ 5) (h : tmFit n ts) : Fact.sz n 10000000 40 (.row ts k) := by
  have hl : ts.length ≤ n := by
    have nd : (ts.map (·.1)).Nodup := h.2.1.imp fun {a b} q => by omega
    have q := nodup_le (us := upTo n) nd fun v hv => by
      obtain ⟨z, hz, rfl⟩ := List.mem_map.mp hv
      have := h.2.2 z hz
      exact mem_upTo.mpr ⟨by omega, by omega⟩
    rw [List.length_map] at q
    simpa [upTo] using q
  refine sz_row (fun z hz => by have := h.2.2 z hz; omega) ?_ (by decide) (by omega) (by decide)
  refine Nat.le_trans (wt_le (bB := 1000000) fun z hz => by have := h.2.2 z hz; omega) ?_
  exact Nat.le_trans (Nat.mul_le_mul_right _ (show ts.length ≤ 8 by omega)) (by decide)
theorem neg_wt (ts : Tms) : wt (negT ts) = wt ts := by
  induction ts with
  | nil => rfl
  | cons z ts ih =>
    show (-z.2).natAbs + wt (negT ts) = _
    rw [ih, wt_cons, Int.natAbs_neg]
theorem sz_neg {n bB L : Nat} {f g : Fact} (h : f.sz n bB L) (hB : bB + 1 ≤ 1000000000000000000) (hL : L ≤ 60) (e : f.ngt = some g) : g.sz n (bB + 1) L := by
  cases f with
  | row ts k =>
    cases e
    have hl : (ts.map (·.1)).length ≤ L := h.len
    rw [List.length_map] at hl
    refine sz_row (fun z hz => ?_) (by rw [neg_wt]; exact Nat.le_succ_of_le h.w) hB (by unfold negT; rw [List.length_map]; exact hl) hL
    obtain ⟨y, hy, rfl⟩ := List.mem_map.mp hz
    have := h.ok.1 y hy
    simp only
    omega
  | any ls =>
    match ls, e, h with
    | [⟨v, r, a⟩], e, h =>
      cases e
      have hw := h.w ⟨v, r, a⟩ List.mem_cons_self
      have ho := h.ok.1 ⟨v, r, a⟩ List.mem_cons_self
      refine sz_any (fun l hl => ?_) hB (by have : 1 ≤ L := h.len; simpa using this) hL
      rw [List.mem_singleton] at hl
      subst hl
      cases r <;> simp only [Lit.ngt, Rel.nnum] at hw ho ⊢ <;> omega
theorem sz_asRow {n bB L : Nat} {f : Fact} {ts : Tms} {k : Int} (h : f.sz n bB L) (b1 : 1 ≤ bB) (e : f.asRow = some (ts, k)) : (∀ z ∈ ts, 0 ≤ z.1 ∧ z.1 < n ∧ z.2 ≠ 0) ∧ wt ts ≤ bB ∧ ts.length ≤ L := by
  have ok := asRow_ok h.ok e
  refine ⟨fun z hz => by have := ok.1 z hz; omega, ?_⟩
  cases f with
  | row us k2 =>
    simp only [Fact.asRow, Option.some.injEq, Prod.mk.injEq] at e
    obtain ⟨rfl, rfl⟩ := e
    have hl : (us.map (·.1)).length ≤ L := h.len
    rw [List.length_map] at hl
    exact ⟨h.w, hl⟩
  | any ls =>
    match ls, e, h with
    | [], e, _ => cases e
    | l :: l' :: ls, e, _ => rw [asRow_two] at e; cases e
    | [⟨v, r, a⟩], e, h =>
      have hl : 1 ≤ L := h.len
      cases r <;> first | (cases e; exact ⟨b1, hl⟩) | cases e
def StIn (n bB L : Nat) (ss : List Step) : Prop := (∀ s ∈ ss, s.f.sz n bB L) ∧ 10000000 ≤ bB ∧ 6 * bB ≤ 1000000000000000000 ∧ 40 ≤ L ∧ L ≤ 58 ∧ 1 ≤ n ∧ n ≤ 5 ∧ ss.length ≤ 100
def StepOk (n bB L : Nat) (st : Step) : Prop := st.f.sz n bB L ∧ st.r.num
def facts0 (ss : List Step) : List Fact := .row [] 0 :: ss.map (·.f)
theorem facts0_sz {n bB L : Nat} {ss : List Step} {f : Fact} (h : StIn n bB L ss) (hf : f ∈ facts0 ss) : f.sz n bB L := by
  rcases List.mem_cons.mp hf with rfl | hf
  · exact sz_row (fun z hz => by cases hz) (Nat.zero_le _) (by have := h.2.2.1; omega) (Nat.zero_le _) (by have := h.2.2.2.2.1; omega)
  · obtain ⟨s, hs, rfl⟩ := List.mem_map.mp hf
    exact h.1 s hs
def spPickS (K : PySem.W.Frag) : Sp := fun vs H Q _ => ∃ (t c l : Addr) (ss : List Step), vs = [.ref t, .ref l] ∧ Tp t c H ∧ EntAt K H l (ss.map some) ∧ l ≠ t ∧ ss.length ≤ 100 ∧ ∀ (i : Int) (H' : Hp), Tp t c H' → Kp [t] H H' → Q (.int i) H'
def spFactOfS (K : PySem.W.Frag) : Sp := fun vs H Q _ => ∃ (l : Addr) (i : Int) (ss : List Step), vs = [.ref l, .int i] ∧ EntAt K H l (ss.map some) ∧ ∀ (p : Addr) (f : Fact) (H' : Hp), FactAt K H' p f → f ∈ facts0 ss → Kp [] H H' → Q (.ref p) H'
def spMovedS (K : PySem.W.Frag) : Sp := fun vs H Q _ => ∃ (t c p : Addr) (ts : Tms) (k : Int), vs = [.ref t, .ref p] ∧ Tp t c H ∧ FactAt K H p (.row ts k) ∧ ∀ (p' : Addr) (k' : Int) (H' : Hp), FactAt K H' p' (.row ts k') → Tp t c H' → Kp [t] H H' → Q (.ref p') H'
def spAddedS (K : PySem.W.Frag) : Sp := fun vs H Q _ => ∃ (l q : Addr) (refs : List V) (ss : List Step) (ps : List (Int × Int)) (n bB L : Nat), vs = [.ref l, .ref q, .int n] ∧ EntAt K H l (ss.map some) ∧ StIn n bB L ss ∧ H q = some (.lst refs) ∧ ImAll K H refs (ps.map tD) ∧ (∀ p ∈ ps, 1 ≤ p.2 ∧ p.2 ≤ 2) ∧ ps.length ≤ 3 ∧ ∀ (p : Addr) (ts : Tms) (k : Int) (H' : Hp), FactAt K H' p (.row ts k) → (Fact.row ts k).sz n (6 * bB) L → Kp [] H H' → Q (.ref p) H'
def spOpposedS (K : PySem.W.Frag) : Sp := fun vs H Q _ => ∃ (t c l : Addr) (ss : List Step) (n bB L : Nat), vs = [.ref t, .ref l] ∧ Tp t c H ∧ EntAt K H l (ss.map some) ∧ l ≠ t ∧ StIn n bB L ss ∧ ∀ (p : Addr) (i j : Int) (H' : Hp), SqT K H' p [.int i, .int j] → Tp t c H' → Kp [t] H H' → Q (.ref p) H'
def spByS (K : PySem.W.Frag) (lo hi : Int) : Sp := fun vs H Q _ => ∃ (t c l : Addr) (wa : WA) (M : Mdl) (r : Int) (ss : List Step) (bB L : Nat), vs = [.ref t, .ref wa.w, .ref l, .int r] ∧ Tp t c H ∧ WorldB K H wa M ∧ M.ok ∧ offW wa t ∧ EntAt K H l (ss.map some) ∧ l ≠ t ∧ StIn M.us.length bB L ss ∧ lo ≤ r ∧ r ≤ hi ∧ ∀ (p : Addr) (st : Step) (H' : Hp), Im K H' (.ref p) st.d → StepOk M.us.length (6 * bB) (L + 1) st → Tp t c H' → Kp [t] H H' → Q (.ref p) H'
def spStepS (K : PySem.W.Frag) : Sp := fun vs H Q _ => ∃ (t c l : Addr) (wa : WA) (M : Mdl) (ss : List Step) (bB L : Nat), vs = [.ref t, .ref wa.w, .ref l] ∧ Tp t c H ∧ WorldB K H wa M ∧ M.ok ∧ offW wa t ∧ EntAt K H l (ss.map some) ∧ l ≠ t ∧ StIn M.us.length bB L ss ∧ ∀ (p : Addr) (st : Step) (H' : Hp), Im K H' (.ref p) st.d → StepOk M.us.length (6 * bB) (L + 1) st → Tp t c H' → Kp [t] H H' → Q (.ref p) H'
theorem ix_anyM7 {K : PySem.W.Frag} {p : Addr} {H : Hp} {Q : VK} {d a b c e f g h' : Int} (h : H p = some (.lst [.int a, .int b, .int c, .int e, .int f, .int g, .int h'])) (h0 : 0 ≤ d) (h1 : d < 7) (q : ∀ n : Int, Q (.int n) H) : rIxL K (.ref p) (.int d) H Q := by
  have e : d = 0 ∨ d = 1 ∨ d = 2 ∨ d = 3 ∨ d = 4 ∨ d = 5 ∨ d = 6 := by omega
  rcases e with rfl | rfl | rfl | rfl | rfl | rfl | rfl <;> exact r_ixL h rfl (q _)
theorem stin_len {n bB L : Nat} {ss : List Step} (h : StIn n bB L ss) : ss.length ≤ 100 := h.2.2.2.2.2.2.2
/-- a step of the list, read -/
theorem stp_ix {K : PySem.W.Frag} {H : Hp} {ss : List Step} {refs : List V} {i : Int} (A : ImAll K H refs ((ss.map some).map entD)) (h0 : 0 ≤ i) (h1 : i < ss.length) : ∃ (p q : Addr) (s : Step) (xs : List V), atI refs i = some (.ref p) ∧ ss[i.toNat]? = some s ∧ s ∈ ss ∧ SqT K H p (.ref q :: .str s.r.name :: xs) ∧ FactAt K H q s.f := by
  have hl : i.toNat < ss.length := by omega
  rw [List.map_map] at A
  obtain ⟨x, ex, hx⟩ := mapGetJ A (List.getElem?_eq_getElem hl)
  rw [Int.toNat_of_nonneg h0, Int.zero_add] at ex
  obtain ⟨p, rfl⟩ := Im.isRef (show Im K H x (.tuple _) from hx)
  obtain ⟨q, xs, sp, hf, _⟩ := step_open hx
  exact ⟨p, q, _, xs, ex, List.getElem?_eq_getElem hl, List.getElem_mem hl, sp, hf⟩
theorem stp_len {K : PySem.W.Frag} {H : Hp} {ss : List Step} {refs : List V} (A : ImAll K H refs ((ss.map some).map entD)) : refs.length = ss.length := by
  have := mapLenP A
  simpa using this
theorem op_catAK {X : Cx} (K : PySem.W.Frag) (h : X.K = K := by rfl) : OpR X (binaryOp .Add) (rCatA K) := h ▸ op_catA
theorem r_catA1 {K : PySem.W.Frag} {H : Hp} {Q : VK} {a b : Addr} {xs : List V} {y : V} (h1 : SqT K H a xs) (h2 : SqT K H b [y]) (hz : xs.length + 1 ≤ 10000) (q : ∀ p H2, SqT K H2 p (xs ++ [y]) → Kp [] H H2 → Q (.ref p) H2) : rCatA K (.ref a) (.ref b) H Q :=
  ⟨a, b, xs, [y], rfl, rfl, h1, h2, by rw [sizeLine_eq]; show xs.length + 1 ≤ _; omega, fun e => by subst e; exact q b H h2 .refl, (fun _ e => by cases e), fun _ _ p hp => q p _ (SqT.of upd_same) (Kp.new hp)⟩
theorem ix_relM4 {K : PySem.W.Frag} {p : Addr} {H : Hp} {Q : VK} {d : Int} (h : H p = some (.lst [.str (Str.ofString "!="), .str (Str.ofString "!="), .str (Str.ofString "<="), .str (Str.ofString ">=")])) (h0 : 0 ≤ d) (h1 : d < 4) (q : ∀ r : Rel, Q (.str r.s) H) : rIxL K (.ref p) (.int d) H Q := by
  have e : d = 0 ∨ d = 1 ∨ d = 2 ∨ d = 3 := by omega
  rcases e with rfl | rfl | rfl | rfl
  · exact r_ixL h rfl (q .ne)
  · exact r_ixL h rfl (q .ne)
  · exact r_ixL h rfl (q .le)
  · exact r_ixL h rfl (q .ge)
theorem ix_ref4 {K : PySem.W.Frag} {p x y z u : Addr} {H : Hp} {Q : VK} {d : Int} (h : H p = some (.lst [.ref x, .ref y, .ref z, .ref u])) (h0 : 0 ≤ d) (h1 : d < 4) (qx : Q (.ref x) H) (qy : Q (.ref y) H) (qz : Q (.ref z) H) (qu : Q (.ref u) H) : rIxL K (.ref p) (.int d) H Q := by
  have e : d = 0 ∨ d = 1 ∨ d = 2 ∨ d = 3 := by omega
  rcases e with rfl | rfl | rfl | rfl
  · exact r_ixL h rfl qx
  · exact r_ixL h rfl qy
  · exact r_ixL h rfl qz
  · exact r_ixL h rfl qu
theorem labB_open {K : PySem.W.Frag} {H : Hp} {x : V} {b : Str × Body} (h : Im K H x (labD b)) : ∃ p q, x = .ref p ∧ SqT K H p [.str b.1, .ref q] ∧ BodyAt K H q b.2 := by
  obtain ⟨p, rfl⟩ := Im.isRef h
  obtain ⟨_, h1, h2⟩ := Im.open h
  obtain ⟨_, _, rfl, a1, h3⟩ := h2.c
  obtain ⟨_, _, rfl, a2, h4⟩ := h3.c
  obtain rfl := h4.n
  obtain ⟨q, rfl, a2⟩ := body_at a2
  cases a1
  exact ⟨p, q, rfl, h1, a2⟩
def okBody (n : Nat) (b : Body) : Prop := b.fit n ∨ b = .any []
theorem okBody.bd {n : Nat} {b : Body} (h : okBody n b) : b.bd := by
  rcases h with h | rfl
  · exact Body.fit_bd h
  · exact (show ([] : List Lit).length ≤ 62 by simp)
theorem sz_body {n : Nat} {ls : List Lit} (h : okBody n (.any ls)) : (Fact.any ls).sz n 10000000 40 := by
  rcases h with h | h
  · exact sz_any (fun l hl => by have := h.2.2 l hl; unfold litFit at this; omega) (by decide) h.1.2 (by decide)
  · cases h
    exact sz_any (fun l hl => by cases hl) (by decide) (by simp) (by decide)
theorem sz_negT {n : Nat} {ts : Tms} {k j : Int} (h : Fact.sz n 10000000 40 (.row ts k)) : Fact.sz n 10000000 40 (.row (negT ts) j) := by
  have hl : (ts.map (·.1)).length ≤ 40 := h.len
  rw [List.length_map] at hl
  refine sz_row (fun z hz => ?_) (by rw [neg_wt]; exact h.w) (by decide) (by unfold negT; rw [List.length_map]; exact hl) (by decide)
  obtain ⟨y, hy, rfl⟩ := List.mem_map.mp hz
  have := h.ok.1 y hy
  simp only
  omega
theorem sz_k {n B L : Nat} {ts : Tms} {k j : Int} (h : Fact.sz n B L (.row ts k)) : Fact.sz n B L (.row ts j) := ⟨⟨h.ok.1, h.ok.2.1, Int.le_refl _, Int.le_refl _⟩, h.w, h.len⟩

section
variable {P : Program} {w : World} {K : PySem.W.Frag} {mg : Str → Option Value} {base : Heap}
theorem ok_law_written {f : Addr} {fd : FuncData} (F : Fun K "_law_written" "_law_written" s_law_written f fd) (B : Bi K mg)  : FnOk P w K mg base CX0 1 f fd ["_law_body_here"] (spWritten K) := by
  have nd := sc_law_written.nd
  refine F.ok sc_law_written ?len (fun cdv A outer s H vs Q E hr h => ?body)
  case len =>
    rintro vs H Q E ⟨p, b, rfl, _⟩
    rfl
  case body =>
    obtain ⟨p, b, rfl, hb, bd, k⟩ := h
    refine ⟨_, (pss_cons (ps_if (pt_cmpR op_eq (pe_ix (ixT K) (pv 0) pe_int (fun _ _ => rfl)) pe_str (nomark _))
      (pss_one (ps_ret (by exact pe_lc (own := [("_law_v", 1), ("_law_c", 2)]) (g := (gTup K 2 (gCons (gName 1) (gCons (gName 2) gNil)))) (tt := tYes) rfl nd (pi_tup (pe_ix (ixT K) (pv 0) pe_int (fun _ _ => rfl))) (blkOk_by (N := ["_law_body_here", "_law_v", "_law_c", "_law_literal_here"]) (sc := defScope s_law_written) (by decide +kernel)) (fun _ _ _ _ _ => (pg_tup (n := 2) rfl (pgs_cons (pg_name (i := 1) nd rfl (Or.inl rfl)) (pgs_cons (pg_name (i := 2) nd rfl (Or.inl rfl)) pgs_nil)))) (fun _ _ _ _ _ => pts_nil) (fun _ _ _ _ _ => (pv 1)))))
      pss_nil)
      (pss_cons (ps_if (pt_cmpR op_eq (pe_ix (ixT K) (pv 0) pe_int (fun _ _ => rfl)) pe_str (nomark _))
      (pss_one (ps_ret (by exact pe_lc (own := [("_law_literal_here", 3)]) (g := (gName 3)) (tt := tYes) rfl nd (pi_tup (pe_ix (ixT K) (pv 0) pe_int (fun _ _ => rfl))) (blkOk_by (N := ["_law_body_here", "_law_v", "_law_c", "_law_literal_here"]) (sc := defScope s_law_written) (by decide +kernel)) (fun _ _ _ _ _ => (pg_name (i := 3) nd rfl (Or.inl rfl))) (fun _ _ _ _ _ => pts_nil) (fun _ _ _ _ _ => (pe_ix (ixT K) (pv 3) pe_int (fun _ _ => rfl))))))
      pss_nil)
      (pss_cons (ps_if (pt_cmpR op_eq (pe_ix (ixT K) (pv 0) pe_int (fun _ _ => rfl)) pe_str (nomark _))
      (pss_one (ps_ret (pe_op (op_catL K) (pe_lst (pa_cons (pe_ix (ixT K) (pe_ix (ixT K) (pv 0) pe_int (fun _ _ => rfl)) pe_int (fun _ _ => rfl)) pa_nil)) (by exact pe_lc (own := [("_law_v", 1), ("_law_c", 2)]) (g := (gTup K 2 (gCons (gName 1) (gCons (gName 2) gNil)))) (tt := tYes) rfl nd (pi_tup (pe_ix (ixT K) (pv 0) pe_int (fun _ _ => rfl))) (blkOk_by (N := ["_law_body_here", "_law_v", "_law_c", "_law_literal_here"]) (sc := defScope s_law_written) (by decide +kernel)) (fun _ _ _ _ _ => (pg_tup (n := 2) rfl (pgs_cons (pg_name (i := 1) nd rfl (Or.inl rfl)) (pgs_cons (pg_name (i := 2) nd rfl (Or.inl rfl)) pgs_nil)))) (fun _ _ _ _ _ => pts_nil) (fun _ _ _ _ _ => (pv 1))))))
      pss_nil)
      (pss_cons (ps_if (PW.pt (pw_or (pt_cmpR op_eq (pe_ix (ixT K) (pv 0) pe_int (fun _ _ => rfl)) pe_str (nomark _)) (pw_or1 (pt_cmpR op_eq (pe_ix (ixT K) (pv 0) pe_int (fun _ _ => rfl)) pe_str (nomark _)))))
      (pss_one (ps_ret (pe_callTy (cgList K) (by rfl) B.n_list (by decide +kernel) (pa_cons (pe_ix (ixT K) (pv 0) pe_int (fun _ _ => rfl)) pa_nil))))
      pss_nil)
      (pss_cons (ps_if (pt_cmpR op_eq (pe_ix (ixT K) (pv 0) pe_int (fun _ _ => rfl)) pe_str (nomark _))
      (pss_one (ps_ret (pe_lst (pa_cons (pe_ix (ixT K) (pv 0) pe_int (fun _ _ => rfl)) (pa_cons (pe_ix (ixT K) (pv 0) pe_int (fun _ _ => rfl)) pa_nil)))))
      pss_nil)
      (pss_one (ps_ret (pe_lst (pa_cons (pe_ix (ixT K) (pv 0) pe_int (fun _ _ => rfl)) (pa_cons (pe_ix (ixT K) (pv 0) pe_int (fun _ _ => rfl)) (pa_cons (pe_ix (ixT K) (pv 0) pe_int (fun _ _ => rfl)) pa_nil))))))))))), ?_⟩
    try dsimp only [L2.cxOf, L2.Cx.nox, L2.Cx.wish]
    rw [st_law_written]
    cases b with
    | row ts r n =>
      obtain ⟨q, s1, i1⟩ := b_row hb
      obtain ⟨xs, s2, i2⟩ := Im.open i1
      walk_at "cg"
      refine lcT_i (xs := xs) (as := ts) (d := tD) s2 i2 (fun z => z.1) (by have := bd.2; omega) (fun i z x H' R R' hz k2 hx q => ?_) (fun D H' hD eD k2 => ?_)
      · obtain ⟨px, rfl, hs⟩ := term_at hx
        walk_at "cg"
        exact q _ .refl
      · exact k D H' eD k2
    | any ls =>
      obtain ⟨q, s1, i1⟩ := b_any hb
      obtain ⟨xs, s2, i2⟩ := Im.open i1
      walk_at "cg"
      refine lcT_i (xs := xs) (as := ls) (d := Lit.d) s2 i2 (fun z => z.v) (by have : ls.length ≤ 62 := bd; omega) (fun i z x H' R R' hz k2 hx q => ?_) (fun D H' hD eD k2 => ?_)
      · obtain ⟨px, rfl, hs⟩ := lit_at hx
        walk_at "cg"
        exact q _ .refl
      · exact k D H' eD k2
    | when l ts r n =>
      obtain ⟨q1, q, s1, L, i1⟩ := b_when hb
      obtain ⟨xs, s2, i2⟩ := Im.open i1
      walk_at "cg"
      refine lcT_i (xs := xs) (as := ts) (d := tD) (by walk_at "cg h") (by walk_at "cg h") (fun z => z.1) (by have := bd.2; omega) (fun i z x H' R R' hz k2 hx q => ?_) (fun D H' hD eD k2 => ?_)
      · obtain ⟨px, rfl, hs⟩ := term_at hx
        walk_at "cg"
        exact q _ .refl
      · walk_at "cg"
        refine r_cat (by walk_at "cg h") eD (by simp; have := bd.2; omega) fun D2 H5 hD2 eD2 k5 => ?_
        exact k D2 H5 eD2 (by walk_at "cg kp")
    | diff us =>
      obtain ⟨q, s1, s2⟩ := b_diff hb
      walk_at "cg"
      exact k _ _ (by assumption) (by walk_at "cg kp")
    | table us rows =>
      obtain ⟨q, q2, s1, s2, i2⟩ := b_table hb
      walk_at "cg"
      exact k _ _ (by assumption) (by walk_at "cg kp")
    | elem x es y =>
      obtain ⟨q, s1, s2⟩ := b_elem hb
      walk_at "cg"
      exact k _ _ (by assumption) (by walk_at "cg kp")
    | times x y z =>
      have s1 := b_times hb
      walk_at "cg"
      exact k _ _ (by assumption) (by walk_at "cg kp")

theorem ok_law_pick {f : Addr} {fd : FuncData} (F : Fun K "_law_pick" "_law_pick" s_law_pick f fd) (B : Bi K mg) (D_law_draw : Is P w K mg base CX0 1 "_law_draw" ["_law_tape_here", "_law_many"] spDraw) : FnOk P w K mg base CX0 2 f fd ["_law_tape_here", "_law_steps"] (spPickS K) := by
  have nd := sc_law_pick.nd
  refine F.ok sc_law_pick ?len (fun cdv A outer s H vs Q E hr h => ?body)
  case len =>
    rintro vs H Q E ⟨t, c, l, ss, rfl, _⟩
    rfl
  case body =>
    obtain ⟨t, c, l, ss, rfl, T, hE, nlt, hn, k⟩ := h
    refine ⟨_, (pss_cons (ps_if (PW.pt (pw_or (pt_cmpR op_eq (pe_callB (cgLen K) (by rfl) B.n_len PySem.boot_len (pa_cons (pv 1) pa_nil)) pe_int (nomark _)) (pw_or1 (pt_cmpR op_eq (pe_is D_law_draw (hr.mono (by decide)) rfl pass0 (pa_cons (pv 0) (pa_cons pe_int pa_nil))) pe_int (nomark _)))))
      (pss_one (ps_ret (pe_op op_sub (pe_op op_add (pe_callB (cgLen K) (by rfl) B.n_len PySem.boot_len (pa_cons (pv 1) pa_nil)) (pe_is D_law_draw (hr.mono (by decide)) rfl pass0 (pa_cons (pv 0) (pa_cons pe_int pa_nil)))) pe_int)))
      pss_nil)
      (pss_one (ps_ret (pe_is D_law_draw (hr.mono (by decide)) rfl pass0 (pa_cons (pv 0) (pa_cons (pe_callB (cgLen K) (by rfl) B.n_len PySem.boot_len (pa_cons (pv 1) pa_nil)) pa_nil)))))), ?_⟩
    try dsimp only [L2.cxOf, L2.Cx.nox, L2.Cx.wish]
    rw [st_law_pick]
    obtain ⟨refs, el, A⟩ := hE.ex
    have hrl := stp_len A
    have mb : LtB (refs.length : Int) := .of (by omega)
    walk_at "cg"
    refine if_S (fun g => ?_) (fun g => ?_)
    · walk_at "cg"
      rename_i d1 H1 d10 d11 T1 k1
      exact k _ _ T1 k1
    · walk_at "cg"
      rename_i d1 H1 d10 d11 T1 k1
      have el1 := k1.get1 nlt el
      refine if_S (fun g1 => ?_) (fun g1 => ?_)
      · walk_at "cg"
        rename_i d2 H2 d20 d21 T2 k2
        exact k _ _ T2 (Kp.tr1 k2 k1)
      · walk_at "cg"
        rename_i d2 H2 d20 d21 T2 k2
        exact k _ _ T2 (Kp.tr1 k2 k1)
theorem ok_law_fact_of {f : Addr} {fd : FuncData} (F : Fun K "_law_fact_of" "_law_fact_of" s_law_fact_of f fd) (B : Bi K mg)  : FnOk P w K mg base CX0 1 f fd ["_law_steps", "_law_i"] (spFactOfS K) := by
  have nd := sc_law_fact_of.nd
  refine F.ok sc_law_fact_of ?len (fun cdv A outer s H vs Q E hr h => ?body)
  case len =>
    rintro vs H Q E ⟨l, i, ss, rfl, _⟩
    rfl
  case body =>
    obtain ⟨l, i, ss, rfl, hE, k⟩ := h
    refine ⟨_, (pss_cons (ps_if (PW.pt (pw_or (pt_cmpR op_lt (pv 1) pe_int (nomark _)) (pw_or1 (pt_cmpR op_ge (pv 1) (pe_callB (cgLen K) (by rfl) B.n_len PySem.boot_len (pa_cons (pv 0) pa_nil)) (nomark _)))))
      (pss_one (ps_ret (pe_tup (pa_cons pe_str (pa_cons (pe_tup pa_nil) (pa_cons pe_int pa_nil))))))
      pss_nil)
      (pss_one (ps_ret (pe_ix (ixT K) (pe_ix (ixL K) (pv 0) (pv 1) (fun _ _ => rfl)) pe_int (fun _ _ => rfl))))), ?_⟩
    try dsimp only [L2.cxOf, L2.Cx.nox, L2.Cx.wish]
    rw [st_law_fact_of]
    obtain ⟨refs, el, A⟩ := hE.ex
    have hrl := stp_len A
    walk_at "cg"
    refine if_S (fun g => ?_) (fun g => ?_)
    · walk_at "cg"
      rename_i p1 H1 hp1 s1 k1 p2 H2 hp2 s2 k2
      exact k p2 (.row [] 0) H2 (row_mk s2 (k2.im (.tup s1 .nil))) List.mem_cons_self (Kp.tr0 k2 k1)
    · walk_at "cg"
      refine if_S (fun g1 => ?_) (fun g1 => ?_)
      · walk_at "cg"
        rename_i p1 H1 hp1 s1 k1 p2 H2 hp2 s2 k2
        exact k p2 (.row [] 0) H2 (row_mk s2 (k2.im (.tup s1 .nil))) List.mem_cons_self (Kp.tr0 k2 k1)
      · obtain ⟨p, q, s, xs, ex, _, hm, sp, F⟩ := stp_ix A (i := i) (by omega) (by omega)
        walk_at "cg"
        refine r_ixL el ex ?_
        walk_at "cg"
        refine r_ixT sp atI_0 ?_
        walk_at "cg"
        exact k q s.f _ F (List.mem_cons_of_mem _ (List.mem_map.mpr ⟨s, hm, rfl⟩)) .refl
theorem ok_law_moved {f : Addr} {fd : FuncData} (F : Fun K "_law_moved" "_law_moved" s_law_moved f fd) (B : Bi K mg) (D_law_draw : Is P w K mg base CX0 1 "_law_draw" ["_law_tape_here", "_law_many"] spDraw) : FnOk P w K mg base CX0 2 f fd ["_law_tape_here", "_law_row"] (spMovedS K) := by
  have nd := sc_law_moved.nd
  refine F.ok sc_law_moved ?len (fun cdv A outer s H vs Q E hr h => ?body)
  case len =>
    rintro vs H Q E ⟨t, c, p, ts, n, rfl, _⟩
    rfl
  case body =>
    obtain ⟨t, c, p, ts, n, rfl, T, F, k⟩ := h
    refine ⟨_, (pss_one (ps_ret (pe_tup (pa_cons pe_str (pa_cons (pe_ix (ixT K) (pv 1) pe_int (fun _ _ => rfl)) (pa_cons (pe_op op_add (pe_ix (ixT K) (pv 1) pe_int (fun _ _ => rfl)) (pe_ix (ixL K) (pe_lst (pa_cons pe_int (pa_cons pe_int (pa_cons pe_int (pa_cons pe_int (pa_cons pe_int (pa_cons pe_int (pa_cons (pe_op op_sub pe_int pe_int) pa_nil)))))))) (pe_is D_law_draw (hr.mono (by decide)) rfl pass0 (pa_cons (pv 0) (pa_cons pe_int pa_nil))) (fun _ _ => rfl))) pa_nil)))))), ?_⟩
    try dsimp only [L2.cxOf, L2.Cx.nox, L2.Cx.wish]
    rw [st_law_moved]
    obtain ⟨q, s, I⟩ := row_open F
    walk_at "cg"
    rename_i l1 H1 hl1 e1 k1 d2 H2 d20 d21 T2 k2
    have I2 := k2.im (k1.im I)
    refine ix_anyM7 (by walk_at "cg h") d20 d21 fun m => ?_
    walk_at "cg"
    rename_i p3 H3 hp3 s3 k3
    exact k p3 _ H3 (row_mk s3 (k3.im I2)) (T2.kp0 k3) (Kp.tr0 k3 (Kp.tr1 k2 (Kp.tr0 k1 (Tp.base T))))
theorem ok_law_added {f : Addr} {fd : FuncData} (F : Fun K "_law_added" "_law_added" s_law_added f fd) (B : Bi K mg) (D_law_as_row : Is P w K mg base CX0 1 "_law_as_row" ["_law_fact_here"] (spAsRow K)) (D_law_fact_of : Is P w K mg base CX0 1 "_law_fact_of" ["_law_steps", "_law_i"] (spFactOfS K)) : FnOk P w K mg base CX0 2 f fd ["_law_steps", "_law_pairs", "_law_many"] (spAddedS K) := by
  have nd := sc_law_added.nd
  refine F.ok sc_law_added ?len (fun cdv A outer s H vs Q E hr h => ?body)
  case len =>
    rintro vs H Q E ⟨l, q, refs, ss, ps, n, bB, L, rfl, _⟩
    rfl
  case body =>
    obtain ⟨l, q, prefs, ss, ps, n, bB, L, rfl, hE, hin, hq, hqs, hps, p3, k⟩ := h
    refine ⟨_, (pss_cons (ps_set (i := 3) nd rfl (Or.inr rfl) (by exact pe_lc (own := [("_law_v", 8)]) (g := (gName 8)) (tt := tYes) rfl nd (pi_range1 rfl B.n_range (pa_cons (pv 2) pa_nil)) (blkOk_by (N := ["_law_steps", "_law_pairs", "_law_many", "_law_sums", "_law_rhs", "_law_i", "_law_m", "_law_row", "_law_v", "_law_c"]) (sc := defScope s_law_added) (by decide +kernel)) (fun _ _ _ _ _ => (pg_name (i := 8) nd rfl (Or.inl rfl))) (fun _ _ _ _ _ => pts_nil) (fun _ _ _ _ _ => pe_int)))
      (pss_cons (ps_set (i := 4) nd rfl (Or.inl rfl) pe_int)
      (pss_cons (ps_for PassesOwn.never rfl ((piLst K) (pv 1)) (pg_tup (n := 2) rfl (pgs_cons (pg_name (i := 5) nd rfl (Or.inl rfl)) (pgs_cons (pg_name (i := 6) nd rfl (Or.inl rfl)) pgs_nil)))
      (pss_cons (ps_set (i := 7) nd rfl (Or.inl rfl) (pe_is D_law_as_row (hr.mono (by decide)) rfl pass0 (pa_cons (pe_is D_law_fact_of (hr.mono (by decide)) rfl pass0 (pa_cons (pv 0) (pa_cons (pv 5) pa_nil))) pa_nil)))
      (pss_one (ps_if (pt_cmpR cg_notN (pv 7) pe_non (nomark _))
      (pss_cons (ps_for PassesOwn.never rfl (pi_tup (pe_ix (ixT K) (pv 7) pe_int (fun _ _ => rfl))) (pg_tup (n := 2) rfl (pgs_cons (pg_name (i := 8) nd rfl (Or.inl rfl)) (pgs_cons (pg_name (i := 9) nd rfl (Or.inl rfl)) pgs_nil)))
      (pss_one (ps_asg (pe_op op_add (pe_ix (ixL K) (pv 3) (pv 8) (fun _ _ => rfl)) (pe_op op_mul (pv 6) (pv 9))) (pg_sub (pv 3) (pv 8) set_list))))
      (pss_one (ps_set (i := 4) nd rfl (Or.inl rfl) (pe_op op_add (pv 4) (pe_op op_mul (pv 6) (pe_ix (ixT K) (pv 7) pe_int (fun _ _ => rfl)))))))
      pss_nil))))
      (pss_one (ps_ret (pe_tup (pa_cons pe_str (pa_cons (pe_callTy (cgTuple K) (by rfl) B.n_tuple (by decide +kernel) (pa_cons (by exact pe_lc (own := [("_law_v", 8)]) (g := (gName 8)) rfl nd (pi_range1 rfl B.n_range (pa_cons (pv 2) pa_nil)) (blkOk_by (N := ["_law_steps", "_law_pairs", "_law_many", "_law_sums", "_law_rhs", "_law_i", "_law_m", "_law_row", "_law_v", "_law_c"]) (sc := defScope s_law_added) (by decide +kernel)) (fun _ _ _ _ _ => (pg_name (i := 8) nd rfl (Or.inl rfl))) (fun _ _ _ _ _ => pts_one (pt_cmpR op_ne (pe_ix (ixL K) (pv 3) (pv 8) (fun _ _ => rfl)) pe_int (nomark _))) (fun _ _ _ _ _ => (pe_tup (pa_cons (pv 8) (pa_cons (pe_ix (ixL K) (pv 3) (pv 8) (fun _ _ => rfl)) pa_nil))))) pa_nil)) (pa_cons (pv 4) pa_nil))))))))), ?_⟩
    try dsimp only [L2.cxOf, L2.Cx.nox, L2.Cx.wish]
    rw [st_law_added]
    have hin2 := hin.2
    walk_at "cg"
    refine lcR_m (K := K) (fun _ => PyData.int 0) (by omega) (fun i H' R R' hi k1 q1 => ?_) (fun d H1 acc hd ed hA k1 => ?_)
    · walk_at "cg"
      exact q1 _ _ (.int _) .refl
    have e0 : ∃ xs : List Int, acc = xs.map V.int ∧ xs.length = n ∧ wtL xs = 0 := by
      refine ⟨(List.range n).map fun _ => 0, ?_, by simp, ?_⟩
      · have e1 : (List.range ((n : Int) - 0).toNat).map (fun _ => PyData.int 0) = ((List.range n).map fun _ => (0 : Int)).map PyData.int := by
          rw [List.map_map]
          rfl
        first | rw [e1] at hA | (rw [Int.toNat_natCast] at hA; have e1' : (List.range n).map (fun _ => PyData.int 0) = ((List.range n).map fun _ => (0 : Int)).map PyData.int := (by rw [List.map_map]; rfl); rw [e1'] at hA)
        exact hA.ints
      · generalize List.range n = rs
        induction rs with
        | nil => rfl
        | cons r rs ih => simp only [List.map_cons, wtL, ih]; rfl
    obtain ⟨xs0, rfl, xl0, xw0⟩ := e0
    have nqd : q ≠ d := ne_newL hd hq
    walk_at "cg"
    refine r_forLD [d] (k1.get0 hq) (by simpa using nqd) (k1.imAll hqs) (fun i σ' H' => ∃ (xs : List Int) (rhs : Int) (x5 x6 x7 x8 x9 : Option V), σ' = [some (.ref l), some (.ref q), some (.int n), some (.ref d), some (.int rhs), x5, x6, x7, x8, x9] ∧ H' d = some (.lst (xs.map V.int)) ∧ xs.length = n ∧ wtL xs ≤ i * (2 * bB) ∧ Kp [d] H1 H') ⟨xs0, 0, _, _, _, _, _, rfl, ed, xl0, by omega, Kp.base fun b hb => by rw [List.mem_singleton] at hb; rw [hb, ed]; trivial⟩ (fun i σ' H' ⟨_, _, _, _, _, _, _, _, _, _, _, h⟩ => h) ?_ ?_
    · rintro i z x σ' H' hz hx kk ⟨xs, rhs, x5, x6, x7, x8, x9, rfl, ed', xl, xw, -⟩
      obtain ⟨px, rfl, sx⟩ := term_at hx
      have hpz := hps z (List.mem_of_getElem? hz)
      have K' := Kp.trN kk k1 hd
      walk_at "cg"
      refine ⟨l, z.1, ss, rfl, hE.kp0 K', fun pf f H2 F2 hf k2 => ?_⟩
      have szf := facts0_sz hin hf
      have kk2 := Kp.tr0 k2 kk
      have ed2 := k2.get0 ed'
      clear K' kk ed' hx
      walk_at "cg"
      refine ⟨pf, f, rfl, F2, fun y H3 hy k3 => ?_⟩
      have kk3 := Kp.tr0 k3 kk2
      have ed3 := k3.get0 ed2
      have okr : ∀ ts n9, f.asRow = some (ts, n9) → _ := fun ts n9 e => sz_asRow (ts := ts) (k := n9) szf (by omega) e
      generalize f.asRow = ro at hy okr
      clear k2 k3 kk2 ed2 F2
      have st1 : (i + 1) * (2 * bB) = i * (2 * bB) + 2 * bB := Nat.succ_mul _ _
      cases hy with
      | none =>
        walk_at "cg"
        exact ⟨xs, _, _, _, _, _, _, rfl, ed3, xl, by omega, kk3⟩
      | some hr =>
        rename_i pr vs nr
        obtain ⟨qr, sr, ir⟩ := row_open hr
        obtain ⟨ys2, s2, i2⟩ := ir.open
        obtain ⟨o1, o2, o3⟩ := okr vs nr rfl
        clear hr ir
        walk_at "cg"
        refine r_forTI [d] s2 i2 (fun j σ' H' => ∃ (xs' : List Int) (x8 x9 : Option V), σ' = [some (.ref l), some (.ref q), some (.int n), some (.ref d), some (.int rhs), some (.int z.1), some (.int z.2), some (.ref pr), x8, x9] ∧ H' d = some (.lst (xs'.map V.int)) ∧ xs'.length = n ∧ wtL xs' ≤ wtL xs + 2 * wt (vs.take j) ∧ Kp [d] H3 H') ⟨xs, x8, x9, rfl, ed3, xl, by simp [wt, wtL], Kp.base fun b hb => by rw [List.mem_singleton] at hb; rw [hb, ed3]; trivial⟩ (fun i σ' H' ⟨_, _, _, _, _, _, _, h⟩ => h) ?_ ?_
        · rintro j u x2 σ' H4 hu hx2 k4 ⟨xs', x8, x9, rfl, ed4, xl4, xw4, -⟩
          obtain ⟨px2, rfl, sx2⟩ := term_at hx2
          have ou := o1 u (List.mem_of_getElem? hu)
          obtain ⟨y, hy⟩ : ∃ y, xs'[u.1.toNat]? = some y := ⟨_, List.getElem?_eq_getElem (by omega)⟩
          have ey : atI (xs'.map V.int) u.1 = some (.int y) := by
            have := atI_nat (xs := xs'.map V.int) (i := u.1) (by omega) (by rw [List.length_map]; omega)
            rw [this, List.getElem?_map, hy]
            rfl
          walk_at "cg"
          refine r_ixL ed4 ey ?_
          walk_at "cg"
          refine r_setL (m := u.1.toNat) ed4 (ixN_ok (by omega) (by rw [List.length_map]; omega)) fun H5 e5 k5 => ?_
          walk_at "cg"
          refine ⟨xs'.set u.1.toNat (y + z.2 * u.2), _, _, rfl, ?_, by rw [List.length_set]; exact xl4, ?_, Kp.tr1 k5 k4⟩
          · rw [e5, List.map_set]
          · have a := wtL_set_le (d := z.2 * u.2) hy
            have b : (z.2 * u.2).natAbs ≤ 2 * u.2.natAbs := by
              rw [Int.natAbs_mul]
              exact Nat.mul_le_mul_right _ (by omega)
            have cc : wt (vs.take (j + 1)) = wt (vs.take j) + u.2.natAbs := by
              rw [List.take_add_one, hu, wt_app]
              rfl
            omega
        · rintro σ' H4 k4 ⟨xs', x8, x9, rfl, ed4, xl4, xw4, -⟩
          rw [List.take_length] at xw4
          have sr4 := k4.tup sr
          walk_at "cg"
          exact ⟨xs', _, _, _, _, _, _, rfl, ed4, xl4, by omega, Kp.tr1 k4 kk3⟩
    · rintro σ' H' kk ⟨xs, rhs, x5, x6, x7, x8, x9, rfl, ed', xl, xw, -⟩
      have K' := Kp.trN kk k1 hd
      have gy : ∀ j : Nat, j < n → atI (xs.map V.int) (j : Int) = some (.int (xs.getD j 0)) := fun j hj => by
        have := atI_nat (xs := xs.map V.int) (i := (j : Int)) (by omega) (by rw [List.length_map]; omega)
        rw [this, List.getElem?_map, Int.toNat_natCast, List.getElem?_eq_getElem (by omega), List.getD_eq_getElem?_getD, List.getElem?_eq_getElem (by omega)]
        rfl
      walk_at "cg"
      refine lcR_f (K := K) (fun v => if xs.getD v 0 = 0 then none else some (tD ((v : Int), xs.getD v 0))) (by omega) (fun j H3 R R' hj k3 q1 q2 => ?_) (fun D H3 acc hD eD hA k3 => ?_)
      · have ed3 := k3.get0 ed'
        have z0 : (0 : Int) + (j : Int) = j := by omega
        rw [z0]
        walk_at "cg"
        refine r_ixL ed3 (gy j (by omega)) ?_
        walk_at "cg"
        refine if_S (fun g => ?_) (fun g => ?_)
        · walk_at "cg"
          refine r_ixL ed3 (gy j (by omega)) ?_
          walk_at "cg"
          exact q1 _ _ (tD ((j : Int), xs.getD j 0)) (by rw [if_neg g]) (.tup (by assumption) (.cons (.int _) (.cons (.int _) .nil))) (by walk_at "cg kp")
        · walk_at "cg"
          exact q2 _ (by rw [if_pos (Decidable.of_not_not g)]) .refl
      · have hN : ImAll K H3 acc ((rowL xs n).map tD) := by
          have e : (List.range n).filterMap (fun (v : Nat) => if xs.getD v 0 = 0 then none else some (tD ((v : Int), xs.getD v 0))) = (rowL xs n).map tD := by
            unfold rowL
            rw [List.map_filterMap]
            congr 1
            funext v
            by_cases g : xs.getD v 0 = 0
            · rw [if_pos g, if_pos g]; rfl
            · rw [if_neg g, if_neg g]; rfl
          rw [← e]
          exact hA
        have K3 := Kp.tr0 k3 K'
        have sz : (Fact.row (rowL xs n) rhs).sz n (6 * bB) L := by
          refine sz_row (fun z hz => rowL_mem hz) ?_ (by omega) (by have := rowL_len xs n; omega) (by omega)
          rw [rowL_wt xs n (by omega)]
          refine Nat.le_trans (wtL_take xs n) (Nat.le_trans xw ?_)
          have : ps.length * (2 * bB) ≤ 3 * (2 * bB) := Nat.mul_le_mul_right _ p3
          omega
        walk_at "cg"
        rename_i p5 H5 hp5 s5 k5 p6 H6 hp6 s6 k6
        exact k p6 _ _ H6 (row_mk s6 (.tup (k6.tup s5) (k6.imAll (k5.imAll hN)))) sz (Kp.tr0 k6 (Kp.tr0 k5 K3))
theorem ok_law_opposed {f : Addr} {fd : FuncData} (F : Fun K "_law_opposed" "_law_opposed" s_law_opposed f fd) (B : Bi K mg) (D_law_draw : Is P w K mg base CX0 1 "_law_draw" ["_law_tape_here", "_law_many"] spDraw) (D_law_negation : Is P w K mg base CX0 1 "_law_negation" ["_law_fact_here"] (spNegF K)) : FnOk P w K mg base CX0 2 f fd ["_law_tape_here", "_law_steps"] (spOpposedS K) := by
  have nd := sc_law_opposed.nd
  refine F.ok sc_law_opposed ?len (fun cdv A outer s H vs Q E hr h => ?body)
  case len =>
    rintro vs H Q E ⟨t, c, l, ss, n, bB, L, rfl, _⟩
    rfl
  case body =>
    obtain ⟨t, c, l, ss, n, bB, L, rfl, T, hE, nlt, hin, k⟩ := h
    refine ⟨_, (pss_cons (ps_set (i := 2) nd rfl (Or.inl rfl) (pe_lst pa_nil))
      (pss_cons (ps_for PassesOwn.never rfl (pi_range1 rfl B.n_range (pa_cons (pe_callB (cgLen K) (by rfl) B.n_len PySem.boot_len (pa_cons (pv 1) pa_nil)) pa_nil)) (pg_name (i := 3) nd rfl (Or.inl rfl))
      (pss_one (ps_for PassesOwn.never rfl (pi_range1 rfl B.n_range (pa_cons (pe_callB (cgLen K) (by rfl) B.n_len PySem.boot_len (pa_cons (pv 1) pa_nil)) pa_nil)) (pg_name (i := 4) nd rfl (Or.inl rfl))
      (pss_one (ps_if (PW.pt (pw_and (pt_cmpR op_eq (pe_ix (ixT K) (pe_ix (ixL K) (pv 1) (pv 3) (fun _ _ => rfl)) pe_int (fun _ _ => rfl)) pe_str (nomark _)) (pw_and1 (pt_cmpR op_eq (pe_ix (ixT K) (pe_ix (ixL K) (pv 1) (pv 4) (fun _ _ => rfl)) pe_int (fun _ _ => rfl)) pe_str (nomark _)))))
      (pss_one (ps_if (pt_cmpR (eqD K hr) (pe_ix (ixT K) (pe_ix (ixL K) (pv 1) (pv 4) (fun _ _ => rfl)) pe_int (fun _ _ => rfl)) (pe_is D_law_negation (hr.mono (by decide)) rfl pass0 (pa_cons (pe_ix (ixT K) (pe_ix (ixL K) (pv 1) (pv 3) (fun _ _ => rfl)) pe_int (fun _ _ => rfl)) pa_nil)) (nomark _))
      (pss_one (ps_expr (pe_bm PySem.F.plainAttrs_list PySem.F.slot_list_append PySem.F.type_list_append mt_append (pv 2) (pa_cons (pe_tup (pa_cons (pv 3) (pa_cons (pv 4) pa_nil))) pa_nil))))
      pss_nil))
      pss_nil)))))
      (pss_cons (ps_if (pt_cmpR op_eq (pe_callB (cgLen K) (by rfl) B.n_len PySem.boot_len (pa_cons (pv 2) pa_nil)) pe_int (nomark _))
      (pss_one (ps_ret (pe_tup (pa_cons pe_int (pa_cons pe_int pa_nil)))))
      pss_nil)
      (pss_one (ps_ret (pe_ix (ixL K) (pv 2) (pe_is D_law_draw (hr.mono (by decide)) rfl pass0 (pa_cons (pv 0) (pa_cons (pe_callB (cgLen K) (by rfl) B.n_len PySem.boot_len (pa_cons (pv 2) pa_nil)) pa_nil))) (fun _ _ => rfl))))))), ?_⟩
    try dsimp only [L2.cxOf, L2.Cx.nox, L2.Cx.wish]
    rw [st_law_opposed]
    have s100 := stin_len hin
    obtain ⟨refs, el, A⟩ := hE.ex
    have hrl := stp_len A
    clear hE
    walk_at "cg"
    rename_i d H1 hd ed k1
    have ndt : d ≠ t := Tp.nef hd T
    have ndc : d ≠ c := Tp.nefc hd T
    have nld : l ≠ d := ne_newL hd el
    have T1 := T.kp0 k1
    have el1 := k1.get0 el
    have A1 := k1.imAll A
    refine r_forR (fun i σ' H' => ∃ (ps : List (Int × Int)) (rs : List V) (x4 x5 : Option V), σ' = [some (.ref t), some (.ref l), some (.ref d), x4, x5] ∧ H' d = some (.lst rs) ∧ ImAll K H' rs (ps.map tD) ∧ ps.length ≤ i * ss.length ∧ H' l = some (.lst refs) ∧ ImAll K H' refs ((ss.map some).map entD) ∧ Tp t c H' ∧ Kp [] H H') ⟨[], [], _, _, rfl, ed, .nil, by simp, el1, A1, T1, k1⟩ ?_ ?_
    · clear el1 A1 T1 ed k1
      rintro i σ' H2 hi ⟨ps, rs, x4, x5, rfl, e2, R2, pl, el2, A2, T2, k2⟩
      have hi : i < ss.length := by omega
      have z0 : (0 : Int) + (i : Int) = i := by omega
      rw [z0]
      walk_at "cg"
      refine r_forR (fun j σ' H' => ∃ (ps : List (Int × Int)) (rs : List V) (x5 : Option V), σ' = [some (.ref t), some (.ref l), some (.ref d), some (.int (i : Int)), x5] ∧ H' d = some (.lst rs) ∧ ImAll K H' rs (ps.map tD) ∧ ps.length ≤ i * ss.length + j ∧ H' l = some (.lst refs) ∧ ImAll K H' refs ((ss.map some).map entD) ∧ Tp t c H' ∧ Kp [] H H') ⟨ps, rs, _, rfl, e2, R2, by omega, el2, A2, T2, k2⟩ ?_ ?_
      · clear e2 R2 pl el2 A2 T2 k2
        rintro j σ' H3 hj ⟨ps, rs, x5, rfl, e3, R3, pl, el3, A3, T3, k3⟩
        have hj : j < ss.length := by omega
        have z1 : (0 : Int) + (j : Int) = j := by omega
        rw [z1]
        have hpl := mapLenP R3
        have sq : i * ss.length ≤ 99 * ss.length := Nat.mul_le_mul_right _ (by omega)
        have rs9 : rs.length ≤ 9999 := by omega
        obtain ⟨p1, q1, s1, ys1, ex1, _, hm1, sp1, F1⟩ := stp_ix A3 (i := (i : Int)) (by omega) (by omega)
        obtain ⟨p2, q2, s2, ys2, ex2, _, hm2, sp2, F2⟩ := stp_ix A3 (i := (j : Int)) (by omega) (by omega)
        have skip : ∃ (ps : List (Int × Int)) (rs : List V) (x5 : Option V), ([some (.ref t), some (.ref l), some (.ref d), some (.int (i : Int)), some (.int (j : Int))] : St) = [some (.ref t), some (.ref l), some (.ref d), some (.int (i : Int)), x5] ∧ H3 d = some (.lst rs) ∧ ImAll K H3 rs (ps.map tD) ∧ ps.length ≤ i * ss.length + (j + 1) ∧ H3 l = some (.lst refs) ∧ ImAll K H3 refs ((ss.map some).map entD) ∧ Tp t c H3 ∧ Kp [] H H3 := ⟨ps, rs, _, rfl, e3, R3, by omega, el3, A3, T3, k3⟩
        walk_at "cg"
        refine r_ixL el3 ex1 ?_
        walk_at "cg"
        refine r_ixT sp1 atI_1 ?_
        walk_at "cg"
        refine if_S (fun g1 => ?_) (fun g1 => ?_)
        · walk_at "cg"
          refine r_ixL el3 ex2 ?_
          walk_at "cg"
          refine r_ixT sp2 atI_1 ?_
          walk_at "cg"
          refine if_S (fun g2 => ?_) (fun g2 => ?_)
          · walk_at "cg"
            refine r_ixL el3 ex2 ?_
            walk_at "cg"
            refine r_ixT sp2 atI_0 ?_
            walk_at "cg"
            refine r_ixL el3 ex1 ?_
            walk_at "cg"
            refine r_ixT sp1 atI_0 ?_
            walk_at "cg"
            refine ⟨q1, s1.f, rfl, F1, ok_tms (hin.1 s1 hm1).ok, fun x H4 hx k4 => ?_⟩
            have e4 := k4.get0 e3
            have R4 := k4.imAll R3
            have el4 := k4.get0 el3
            have A4 := k4.imAll A3
            have T4 := T3.kp0 k4
            have K4 := Kp.tr0 k4 k3
            have F4 := k4.im F2
            clear skip k3 k4 e3 R3 el3 A3 T3 F1 F2 sp1 sp2
            walk_at "cg"
            refine r_eqFO (a := some s2.f) F4 hx.im ?_
            walk_at "cg"
            refine if_B (fun g3 => ?_) (fun g3 => ?_)
            · walk_at "cg"
              rename_i p5 H5 hp5 s5 k5
              refine r_app (k5.get0 e4) (by rw [sizeLine_eq]; omega) fun H6 e6 k6 => ?_
              walk_at "cg"
              refine ⟨ps ++ [((i : Int), (j : Int))], _, _, rfl, e6, ?_, by rw [List.length_append]; simp; omega, k6.get1 nld (k5.get0 el4), k6.imAll (k5.imAll A4), (T4.kp0 k5).kp1 k6 ndt.symm ndc.symm, Kp.trN k6 (Kp.tr0 k5 K4) hd⟩
              rw [List.map_append]
              exact (k6.imAll (k5.imAll R4)).snoc (k6.im (.tup s5 (.cons (.int _) (.cons (.int _) .nil))))
            · walk_at "cg"
              exact ⟨ps, rs, _, rfl, e4, R4, by omega, el4, A4, T4, K4⟩
          · walk_at "cg"
            exact skip
        · walk_at "cg"
          exact skip
      · clear e2 R2 pl el2 A2 T2 k2
        rintro σ' H3 ⟨ps, rs, x5, rfl, e3, R3, pl, el3, A3, T3, k3⟩
        walk_at "cg"
        refine ⟨ps, rs, _, _, rfl, e3, R3, ?_, el3, A3, T3, k3⟩
        rw [Nat.succ_mul]
        omega
    · clear el1 A1 T1 ed k1
      rintro σ' H2 ⟨ps, rs, x4, x5, rfl, e2, R2, pl, el2, A2, T2, k2⟩
      have hpl := mapLenP R2
      have sq : ss.length * ss.length ≤ 100 * 100 := Nat.mul_le_mul s100 s100
      have pl2 : ps.length ≤ 100 * 100 := Nat.le_trans pl (Nat.mul_le_mul (by omega) s100)
      have mb : LtB (rs.length : Int) := .of (by omega)
      walk_at "cg"
      refine if_S (fun g => ?_) (fun g => ?_)
      · walk_at "cg"
        rename_i p3 H3 hp3 s3 k3
        exact k p3 0 0 H3 s3 (T2.kp0 k3) (Kp.tr0 (Kp.tr0 k3 k2) (Tp.base T))
      · walk_at "cg"
        rename_i d3 H3 d30 d31 T3 k3
        obtain ⟨z, hz⟩ : ∃ z, ps[d3.toNat]? = some z := ⟨_, List.getElem?_eq_getElem (by omega)⟩
        obtain ⟨x, ex, hx⟩ := mapGetJ (k3.imAll R2) hz
        rw [Int.toNat_of_nonneg d30, Int.zero_add] at ex
        obtain ⟨px, rfl, sx⟩ := term_at hx
        refine r_ixL (k3.get1 ndt e2) ex ?_
        walk_at "cg"
        exact k px z.1 z.2 H3 sx T3 (Kp.tr1 k3 (Kp.tr0 k2 (Tp.base T)))

end
section
variable {P : Program} {w : World} {K : PySem.W.Frag} {mg : Str → Option Value} {base : Heap}
theorem ok_law_by_label {f : Addr} {fd : FuncData} (F : Fun K "_law_by_label" "_law_by_label" s_law_by_label f fd) (B : Bi K mg) (D_law_fact : Is P w K mg base CX0 3 "_law_fact" ["_law_tape_here", "_law_many"] (spLawFact K)) (D_law_draw : Is P w K mg base CX0 1 "_law_draw" ["_law_tape_here", "_law_many"] spDraw) (D_law_pick : Is P w K mg base CX0 2 "_law_pick" ["_law_tape_here", "_law_steps"] (spPickS K)) (D_law_written : Is P w K mg base CX0 1 "_law_written" ["_law_body_here"] (spWritten K)) : FnOk P w K mg base CX0 4 f fd ["_law_tape_here", "_law_world", "_law_steps", "_law_rule"] (spByS K 1 4) := by
  have nd := sc_law_by_label.nd
  refine F.ok sc_law_by_label ?len (fun cdv A outer s H vs Q E hr h => ?body)
  case len =>
    rintro vs H Q E ⟨t, c, l, wa, M, r, ss, bB, L, rfl, _⟩
    rfl
  case body =>
    obtain ⟨t, c, l, wa, M, r, ss, bB, L, rfl, T, W, ok, nw, hE, nlt, hin, r1, r4, k⟩ := h
    refine ⟨_, (pss_cons (ps_set (i := 4) nd rfl (Or.inl rfl) (pe_callB (cgLen K) (by rfl) B.n_len PySem.boot_len (pa_cons (pe_ix (ixL K) (pv 1) pe_int (fun _ _ => rfl)) pa_nil)))
      (pss_cons (ps_asg (pe_tup (pa_cons pe_str (pa_cons (pe_tup (pa_cons pe_str (pa_cons (pe_tup pa_nil) pa_nil))) pa_nil))) (pg_tup (n := 2) rfl (pgs_cons (pg_name (i := 5) nd rfl (Or.inl rfl)) (pgs_cons (pg_name (i := 6) nd rfl (Or.inl rfl)) pgs_nil))))
      (Evl.pss_cut (ps_if (PW.pt (pw_and (pt_cmpR op_gt (pe_callB (cgLen K) (by rfl) B.n_len PySem.boot_len (pa_cons (pe_ix (ixL K) (pv 1) pe_int (fun _ _ => rfl)) pa_nil)) pe_int (nomark _)) (pw_and1 (pt_cmpR op_gt (pe_is D_law_draw (hr.mono (by decide)) rfl pass0 (pa_cons (pv 0) (pa_cons pe_int pa_nil))) pe_int (nomark _)))))
      (pss_one (ps_asg (pe_ix (ixL K) (pe_ix (ixL K) (pv 1) pe_int (fun _ _ => rfl)) (pe_is D_law_draw (hr.mono (by decide)) rfl pass0 (pa_cons (pv 0) (pa_cons (pe_callB (cgLen K) (by rfl) B.n_len PySem.boot_len (pa_cons (pe_ix (ixL K) (pv 1) pe_int (fun _ _ => rfl)) pa_nil)) pa_nil))) (fun _ _ => rfl)) (pg_tup (n := 2) rfl (pgs_cons (pg_name (i := 5) nd rfl (Or.inl rfl)) (pgs_cons (pg_name (i := 6) nd rfl (Or.inl rfl)) pgs_nil)))))
      pss_nil)
      (pss_cons (ps_if (pt_cmpR op_eq (pv 3) pe_int (nomark _))
      (pss_cons (ps_set (i := 7) nd rfl (Or.inl rfl) (pe_is D_law_fact (hr.mono (by decide)) rfl pass0 (pa_cons (pv 0) (pa_cons (pv 4) pa_nil))))
      (Evl.pss_cut (ps_if (pt_cmpR op_eq (pe_ix (ixT K) (pv 6) pe_int (fun _ _ => rfl)) pe_str (nomark _))
      (pss_cons (ps_set (i := 7) nd rfl (Or.inl rfl) (pe_tup (pa_cons pe_str (pa_cons (pe_ix (ixT K) (pv 6) pe_int (fun _ _ => rfl)) (pa_cons (pe_ix (ixT K) (pv 6) pe_int (fun _ _ => rfl)) pa_nil)))))
      (pss_one (ps_if (PW.pt (pw_or (pt_cmpR op_eq (pe_ix (ixT K) (pv 6) pe_int (fun _ _ => rfl)) pe_str (nomark _)) (pw_or1 (PW.pt (pw_and (pt_cmpR op_eq (pe_ix (ixT K) (pv 6) pe_int (fun _ _ => rfl)) pe_str (nomark _)) (pw_and1 (pt_cmpR op_eq (pe_is D_law_draw (hr.mono (by decide)) rfl pass0 (pa_cons (pv 0) (pa_cons pe_int pa_nil))) pe_int (nomark _))))))))
      (pss_one (ps_set (i := 7) nd rfl (Or.inl rfl) (pe_tup (pa_cons pe_str (pa_cons (pe_callTy (cgTuple K) (by rfl) B.n_tuple (by decide +kernel) (pa_cons (by exact pe_lc (own := [("_law_v", 11), ("_law_c", 13)]) (g := (gTup K 2 (gCons (gName 11) (gCons (gName 13) gNil)))) (tt := tYes) rfl nd (pi_tup (pe_ix (ixT K) (pv 6) pe_int (fun _ _ => rfl))) (blkOk_by (N := ["_law_tape_here", "_law_world", "_law_steps", "_law_rule", "_law_many", "_law_label", "_law_body_here", "_law_fact_here", "_law_a", "_law_x", "_law_literals", "_law_v", "_law_hints", "_law_c", "_law_k"]) (sc := defScope s_law_by_label) (by decide +kernel)) (fun _ _ _ _ _ => (pg_tup (n := 2) rfl (pgs_cons (pg_name (i := 11) nd rfl (Or.inl rfl)) (pgs_cons (pg_name (i := 13) nd rfl (Or.inl rfl)) pgs_nil)))) (fun _ _ _ _ _ => pts_nil) (fun _ _ _ _ _ => (pe_tup (pa_cons (pv 11) (pa_cons (pe_op op_sub pe_int (pv 13)) pa_nil))))) pa_nil)) (pa_cons (pe_op op_sub pe_int (pe_ix (ixT K) (pv 6) pe_int (fun _ _ => rfl))) pa_nil))))))
      pss_nil)))
      pss_nil)
      (Evl.pss_cut (ps_if (PW.pt (pw_and (pt_cmpR op_eq (pe_ix (ixT K) (pv 6) pe_int (fun _ _ => rfl)) pe_str (nomark _)) (pw_and1 (pt_cmpR op_ne (pv 5) pe_str (nomark _)))))
      (pss_one (ps_set (i := 7) nd rfl (Or.inl rfl) (pv 6)))
      pss_nil)
      (pss_one (ps_ret (pe_tup (pa_cons (pv 7) (pa_cons pe_str (pa_cons (pv 5) pa_nil)))))))))
      pss_nil)
      (pss_cons (ps_if (pt_cmpR op_eq (pv 3) pe_int (nomark _))
      (pss_cons (ps_set (i := 8) nd rfl (Or.inl rfl) (pe_op op_add (pe_ix (ixT K) (pe_ix (ixL K) (pe_ix (ixL K) (pv 1) pe_int (fun _ _ => rfl)) pe_int (fun _ _ => rfl)) pe_int (fun _ _ => rfl)) (pe_is D_law_draw (hr.mono (by decide)) rfl pass0 (pa_cons (pv 0) (pa_cons pe_int pa_nil)))))
      (pss_cons (ps_set (i := 9) nd rfl (Or.inl rfl) (pe_is D_law_draw (hr.mono (by decide)) rfl pass0 (pa_cons (pv 0) (pa_cons (pv 4) pa_nil))))
      (pss_one (ps_ret (pe_tup (pa_cons (pe_tup (pa_cons pe_str (pa_cons (pe_tup (pa_cons (pe_tup (pa_cons (pv 9) (pa_cons pe_str (pa_cons (pv 8) pa_nil)))) (pa_cons (pe_tup (pa_cons (pe_op op_sub (pe_op op_sub (pv 4) pe_int) (pv 9)) (pa_cons pe_str (pa_cons (pv 8) pa_nil)))) pa_nil))) pa_nil))) (pa_cons pe_str (pa_cons (pv 5) pa_nil))))))))
      pss_nil)
      (Evl.pss_cut (ps_if (PW.pt (pw_and (pt_cmpR op_eq (pv 3) pe_int (nomark _)) (pw_and1 (pt_cmpR op_eq (pe_ix (ixT K) (pv 6) pe_int (fun _ _ => rfl)) pe_str (nomark _)))))
      (pss_cons (ps_set (i := 7) nd rfl (Or.inl rfl) (pe_tup (pa_cons pe_str (pa_cons (pe_ix (ixT K) (pv 6) pe_int (fun _ _ => rfl)) (pa_cons (pe_ix (ixT K) (pv 6) pe_int (fun _ _ => rfl)) pa_nil)))))
      (Evl.pss_cut (ps_if (pt_cmpR op_eq (pe_ix (ixT K) (pv 6) pe_int (fun _ _ => rfl)) pe_str (nomark _))
      (pss_one (ps_set (i := 7) nd rfl (Or.inl rfl) (pe_tup (pa_cons pe_str (pa_cons (pe_callTy (cgTuple K) (by rfl) B.n_tuple (by decide +kernel) (pa_cons (by exact pe_lc (own := [("_law_v", 11), ("_law_c", 13)]) (g := (gTup K 2 (gCons (gName 11) (gCons (gName 13) gNil)))) (tt := tYes) rfl nd (pi_tup (pe_ix (ixT K) (pv 6) pe_int (fun _ _ => rfl))) (blkOk_by (N := ["_law_tape_here", "_law_world", "_law_steps", "_law_rule", "_law_many", "_law_label", "_law_body_here", "_law_fact_here", "_law_a", "_law_x", "_law_literals", "_law_v", "_law_hints", "_law_c", "_law_k"]) (sc := defScope s_law_by_label) (by decide +kernel)) (fun _ _ _ _ _ => (pg_tup (n := 2) rfl (pgs_cons (pg_name (i := 11) nd rfl (Or.inl rfl)) (pgs_cons (pg_name (i := 13) nd rfl (Or.inl rfl)) pgs_nil)))) (fun _ _ _ _ _ => pts_nil) (fun _ _ _ _ _ => (pe_tup (pa_cons (pv 11) (pa_cons (pe_op op_sub pe_int (pv 13)) pa_nil))))) pa_nil)) (pa_cons (pe_op op_sub pe_int (pe_ix (ixT K) (pv 6) pe_int (fun _ _ => rfl))) pa_nil))))))
      pss_nil)
      (pss_one (ps_ret (pe_tup (pa_cons (pv 7) (pa_cons pe_str (pa_cons (pv 5) (pa_cons (pe_is D_law_pick (hr.mono (by decide)) rfl pass0 (pa_cons (pv 0) (pa_cons (pv 2) pa_nil))) pa_nil)))))))))
      pss_nil)
      (pss_cons (ps_set (i := 10) nd rfl (Or.inl rfl) (pe_lst pa_nil))
      (pss_cons (ps_for PassesOwn.never rfl (pi_range1 rfl B.n_range (pa_cons (pv 4) pa_nil)) (pg_name (i := 11) nd rfl (Or.inl rfl))
      (pss_one (ps_if (pt_cmpR (inS K) (pv 11) (pe_is D_law_written (hr.mono (by decide)) rfl pass0 (pa_cons (pv 6) pa_nil)) rfl)
      (pss_cons (ps_set (i := 8) nd rfl (Or.inl rfl) (pe_op op_add (pe_ix (ixT K) (pe_ix (ixL K) (pe_ix (ixL K) (pv 1) pe_int (fun _ _ => rfl)) (pv 11) (fun _ _ => rfl)) pe_int (fun _ _ => rfl)) (pe_is D_law_draw (hr.mono (by decide)) rfl pass0 (pa_cons (pv 0) (pa_cons (pe_op op_add (pe_op op_sub (pe_ix (ixT K) (pe_ix (ixL K) (pe_ix (ixL K) (pv 1) pe_int (fun _ _ => rfl)) (pv 11) (fun _ _ => rfl)) pe_int (fun _ _ => rfl)) (pe_ix (ixT K) (pe_ix (ixL K) (pe_ix (ixL K) (pv 1) pe_int (fun _ _ => rfl)) (pv 11) (fun _ _ => rfl)) pe_int (fun _ _ => rfl))) pe_int) pa_nil)))))
      (pss_one (ps_expr (pe_bm PySem.F.plainAttrs_list PySem.F.slot_list_append PySem.F.type_list_append mt_append (pv 10) (pa_cons (pe_tup (pa_cons (pv 11) (pa_cons (pe_ix (ixL K) (pe_lst (pa_cons pe_str (pa_cons pe_str (pa_cons pe_str (pa_cons pe_str pa_nil))))) (pe_is D_law_draw (hr.mono (by decide)) rfl pass0 (pa_cons (pv 0) (pa_cons pe_int pa_nil))) (fun _ _ => rfl)) (pa_cons (pv 8) pa_nil)))) pa_nil)))))
      pss_nil)))
      (pss_cons (ps_setLc (i := 12) (own := [("_law_k", 14)]) (g := (gName 14)) (tt := tYes) rfl nd rfl rfl (sw_true rfl rfl rfl (by decide +kernel)) (pi_range1 rfl B.n_range (pa_cons (pe_is D_law_draw (hr.mono (by decide)) rfl pass0 (pa_cons (pv 0) (pa_cons pe_int pa_nil))) pa_nil)) (blkOk_by (N := ["_law_tape_here", "_law_world", "_law_steps", "_law_rule", "_law_many", "_law_label", "_law_body_here", "_law_fact_here", "_law_a", "_law_x", "_law_literals", "_law_v", "_law_hints", "_law_c", "_law_k"]) (sc := defScope s_law_by_label) (by decide +kernel)) (fun _ _ _ _ _ => (pg_name (i := 14) nd rfl (Or.inl rfl))) (fun _ _ _ _ _ => pts_nil) (fun _ _ _ _ _ => (pe_is D_law_pick (hr.mono (by decide)) rfl pass0 (pa_cons (pv 0) (pa_cons (pv 2) pa_nil)))))
      (pss_one (ps_ret (pe_tup (pa_cons (pe_tup (pa_cons pe_str (pa_cons (pe_callTy (cgTuple K) (by rfl) B.n_tuple (by decide +kernel) (pa_cons (pv 10) pa_nil)) pa_nil))) (pa_cons pe_str (pa_cons (pv 5) (pa_cons (pe_callTy (cgTuple K) (by rfl) B.n_tuple (by decide +kernel) (pa_cons (pv 12) pa_nil)) pa_nil)))))))))))))))), ?_⟩
    try dsimp only [L2.cxOf, L2.Cx.nox, L2.Cx.wish]
    rw [st_law_by_label]
    obtain ⟨pg, w1, w2⟩ := W.w
    obtain ⟨ru, w3, w4⟩ := W.u
    obtain ⟨rf, w5, w6⟩ := W.f
    have hul := mapLenP w4
    have hfl := mapLenP w6
    have hin2 := hin.2
    have nww : wa.w ≠ t := nw _ (by simp [WA.all])
    have nwu : wa.u ≠ t := nw _ (by simp [WA.all])
    have nwf : wa.f ≠ t := nw _ (by simp [WA.all])
    have rl : (ru.length : Int) = M.us.length := by omega
    have up : ∀ {f : Fact}, f.sz M.us.length 10000000 40 → f.sz M.us.length (6 * bB) (L + 1) := fun h => h.up (by omega) (by omega)
    walk_at "cg"
    rw [rl]
    rename_i p0 H0 hp0 s0 k0 p2 H1 hp2 s1 k1 p3 H2 hp3 s3 k2
    refine ⟨fun σ' H' => ∃ (x : Str) (pb : Addr) (b : Body), σ' = [some (.ref t), some (.ref wa.w), some (.ref l), some (.int r), some (.int (M.us.length : Int)), some (.str x), some (.ref pb), none, none, none, none, none, none, none, none] ∧ BodyAt K H' pb b ∧ okBody M.us.length b ∧ (b = .any [] ∨ (x, b) ∈ M.bs) ∧ Tp t c H' ∧ Kp [t] H H', ?_, ?_⟩
    · have B2 : BodyAt K H2 p2 (.any []) := k2.im (.tup s1 (.cons (.str _) (.cons (k1.im (.tup s0 .nil)) .nil)))
      have K2 := Kp.tr0 k2 (Kp.tr0 k1 k0)
      have T2 := T.kp0 K2
      have w12 := K2.get0 w1
      have w52 := K2.get0 w5
      have K2t : Kp [t] H H2 := Kp.tr0 K2 (Tp.base T)
      clear k0 k1 k2 s0 s1
      walk_at "cg"
      refine if_S (fun g => ?_) (fun g => ?_)
      · walk_at "cg"
        rename_i d3 H3 d30 d31 T3 k3
        have w13 := k3.get1 nww w12
        have w53 := k3.get1 nwf w52
        have K3 := Kp.tr1 k3 K2t
        refine if_S (fun g1 => ?_) (fun g1 => ?_)
        · have mb : LtB (rf.length : Int) := .of (by have := ok.nb; omega)
          clear K2 K2t k3
          walk_at "cg"
          rename_i d4 H4 d40 d41 T4 k4
          have K4 := Kp.tr1 k4 K3
          obtain ⟨z, hz⟩ : ∃ z, M.bs[d4.toNat]? = some z := ⟨_, List.getElem?_eq_getElem (by omega)⟩
          obtain ⟨x, ex, hx⟩ := mapGetJ (K4.imAll w6) hz
          rw [Int.toNat_of_nonneg d40, Int.zero_add] at ex
          obtain ⟨px, pb, rfl, sx, bx⟩ := labB_open hx
          have hm := List.mem_of_getElem? hz
          refine r_ixL (K4.get1 nwf w5) ex ?_
          walk_at "cg"
          exact ⟨z.1, pb, z.2, rfl, bx, .inl (ok.bf z hm), .inr hm, T4, K4⟩
        · walk_at "cg"
          exact ⟨_, p2, .any [], rfl, k3.im B2, .inr rfl, .inl rfl, T3, K3⟩
      · walk_at "cg"
        exact ⟨_, p2, .any [], rfl, B2, .inr rfl, .inl rfl, T2, K2t⟩
    clear k0 k1 k2 s0 s1 s3 hp0 hp2 hp3
    rintro σ' H1 ⟨x, pb, b, rfl, hb, okb, hmem, T1, k1⟩
    have W1 := W.kp1 k1 nw
    have E1 := hE.kp k1 (fun z => nlt (by simpa using z))
    have w11 := k1.get1 nww w1
    have w31 := k1.get1 nwu w3
    have w41 := k1.imAll w4
    clear W hE w1 w2 w3 w4 w5 w6 T hfl
    walk_at "cg"
    refine if_S (fun g => ?_) (fun g => ?_)
    · walk_at "cg"
      refine ⟨t, c, _, rfl, T1, by omega, by omega, fun pf f H2 F2 okf lef ln T2 k2 => ?_⟩
      have K2 := Kp.tr1 k2 k1
      have b2 := k2.im hb
      have sz2 := sz_law (n := M.us.length) (by omega) okf lef ln
      clear k1 k2 hb T1 okf lef ln W1 E1 w11 w31 w41
      walk_at "cg"
      refine ⟨fun σ' H' => ∃ (pf : Addr) (f : Fact), σ' = [some (.ref t), some (.ref wa.w), some (.ref l), some (.int r), some (.int (M.us.length : Int)), some (.str x), some (.ref pb), some (.ref pf), none, none, none, none, none, none, none] ∧ FactAt K H' pf f ∧ f.sz M.us.length 10000000 40 ∧ Tp t c H' ∧ Kp [t] H2 H', ?_, ?_⟩
      · have skip : ∃ (pf' : Addr) (f' : Fact), ([some (.ref t), some (.ref wa.w), some (.ref l), some (.int r), some (.int (M.us.length : Int)), some (.str x), some (.ref pb), some (.ref pf), none, none, none, none, none, none, none] : St) = [some (.ref t), some (.ref wa.w), some (.ref l), some (.int r), some (.int (M.us.length : Int)), some (.str x), some (.ref pb), some (.ref pf'), none, none, none, none, none, none, none] ∧ FactAt K H2 pf' f' ∧ f'.sz M.us.length 10000000 40 ∧ Tp t c H2 ∧ Kp [t] H2 H2 := ⟨pf, f, rfl, F2, sz2, T2, Tp.base T2⟩
        cases b with
        | any ls =>
          obtain ⟨q1, s1, i1⟩ := b_any b2
          walk_at "cg"
          exact skip
        | diff us =>
          obtain ⟨q1, s1, i1⟩ := b_diff b2
          walk_at "cg"
          exact skip
        | table us rows =>
          obtain ⟨q1, q2, s1, i1, i2⟩ := b_table b2
          walk_at "cg"
          exact skip
        | elem x1 es y =>
          obtain ⟨q1, s1, i1⟩ := b_elem b2
          walk_at "cg"
          exact skip
        | times x1 y z =>
          have s1 := b_times b2
          walk_at "cg"
          exact skip
        | when l1 ts r1 n =>
          obtain ⟨q1, q2, s1, i1, i2⟩ := b_when b2
          walk_at "cg"
          exact skip
        | row ts re n =>
          clear skip F2 sz2
          have fit : Body.fit M.us.length (.row ts re n) := by
            rcases okb with h | h
            · exact h
            · cases h
          have szr : ∀ j, (Fact.row ts j).sz M.us.length 10000000 40 := fun j => sz_tm (by omega) fit.1
          have l60 := fit.1.1
          obtain ⟨q1, s1, i1⟩ := b_row b2
          have plain : ∀ (pf' : Addr) (H4 : Hp), FactAt K H4 pf' (.row ts n) → Tp t c H4 → Kp [t] H2 H4 → ∃ (pf'' : Addr) (f' : Fact), ([some (.ref t), some (.ref wa.w), some (.ref l), some (.int r), some (.int (M.us.length : Int)), some (.str x), some (.ref pb), some (.ref pf'), none, none, none, none, none, none, none] : St) = [some (.ref t), some (.ref wa.w), some (.ref l), some (.int r), some (.int (M.us.length : Int)), some (.str x), some (.ref pb), some (.ref pf''), none, none, none, none, none, none, none] ∧ FactAt K H4 pf'' f' ∧ f'.sz M.us.length 10000000 40 ∧ Tp t c H4 ∧ Kp [t] H2 H4 := fun pf' H4 F4 T4 k4 => ⟨pf', .row ts n, rfl, F4, szr n, T4, k4⟩
          have turned : ∀ (pf' : Addr) (H4 : Hp) (j : Int), FactAt K H4 pf' (.row (negT ts) j) → Tp t c H4 → Kp [t] H2 H4 → ∃ (pf'' : Addr) (f' : Fact), ([some (.ref t), some (.ref wa.w), some (.ref l), some (.int r), some (.int (M.us.length : Int)), some (.str x), some (.ref pb), some (.ref pf'), none, none, none, none, none, none, none] : St) = [some (.ref t), some (.ref wa.w), some (.ref l), some (.int r), some (.int (M.us.length : Int)), some (.str x), some (.ref pb), some (.ref pf''), none, none, none, none, none, none, none] ∧ FactAt K H4 pf'' f' ∧ f'.sz M.us.length 10000000 40 ∧ Tp t c H4 ∧ Kp [t] H2 H4 := fun pf' H4 j F4 T4 k4 => ⟨pf', .row (negT ts) j, rfl, F4, sz_negT (szr n), T4, k4⟩
          cases re
          · walk_at "cg"
            rename_i p3 H3 hp3 s3 k3
            exact plain p3 H3 (row_mk s3 (k3.im i1)) (T2.kp0 k3) (Kp.tr0 k3 (Tp.base T2))
          · obtain ⟨xs, h1, h2⟩ := i1.open
            walk_at "cg"
            rename_i p3 H3 hp3 s3 k3
            replace h1 := k3.tup h1
            replace h2 := k3.imAll h2
            have s13 := k3.tup s1
            have T3 := T2.kp0 k3
            have K3 := Kp.tr0 k3 (Tp.base T2)
            clear k3 i1 s1 plain T2 s3 b2
            refine lcT_m (xs := xs) (as := ts) (d := tD) h1 h2 (fun z => tD (z.1, -z.2)) (by omega) (fun i z x H' R R' hz k2 hx q => ?_) (fun D H4 acc hD eD hA k4 => ?_)
            · obtain ⟨px, rfl, hs⟩ := term_at hx
              have z8 : (0 : Int) - z.2 = -z.2 := by omega
              walk_at "cg"
              rename_i p5 H5 hp5 s5 k5
              rw [z8] at s5
              exact q _ _ (.tup s5 (.cons (.int _) (.cons (.int _) .nil))) (by walk_at "cg kp")
            · have hN : ImAll K H4 acc ((negT ts).map tD) := by
                rw [negT, List.map_map]
                exact hA
              walk_at "cg"
              rename_i p5 H5 hp5 s5 k5 p6 H6 hp6 s6 k6
              exact turned p6 H6 _ (row_mk s6 (.tup (k6.tup s5) (k6.imAll (k5.imAll hN)))) (((T3.kp0 k4).kp0 k5).kp0 k6) (Kp.tr0 k6 (Kp.tr0 k5 (Kp.tr0 k4 K3)))
          · walk_at "cg"
            rename_i p3 H3 hp3 s3 k3 d4 H4 d40 d41 T4 k4
            have K4 := Kp.tr1 k4 (Kp.tr0 k3 (Tp.base T2))
            have i14 := k4.im (k3.im i1)
            have F4 : FactAt K H4 p3 (.row ts n) := k4.im (row_mk s3 (k3.im i1))
            have s14 := k4.tup (k3.tup s1)
            clear k3 k4 i1 s1 T2 s3 b2
            refine if_S (fun g2 => ?_) (fun g2 => ?_)
            · obtain ⟨xs, h1, h2⟩ := i14.open
              walk_at "cg"
              refine lcT_m (xs := xs) (as := ts) (d := tD) h1 h2 (fun z => tD (z.1, -z.2)) (by omega) (fun i z x H' R R' hz k2 hx q => ?_) (fun D H5 acc hD eD hA k5 => ?_)
              · obtain ⟨px, rfl, hs⟩ := term_at hx
                have z8 : (0 : Int) - z.2 = -z.2 := by omega
                walk_at "cg"
                rename_i p5 H5 hp5 s5 k5
                rw [z8] at s5
                exact q _ _ (.tup s5 (.cons (.int _) (.cons (.int _) .nil))) (by walk_at "cg kp")
              · have hN : ImAll K H5 acc ((negT ts).map tD) := by
                  rw [negT, List.map_map]
                  exact hA
                walk_at "cg"
                rename_i p6 H6 hp6 s6 k6 p7 H7 hp7 s7 k7
                exact turned p7 H7 _ (row_mk s7 (.tup (k7.tup s6) (k7.imAll (k6.imAll hN)))) (((T4.kp0 k5).kp0 k6).kp0 k7) (Kp.tr0 k7 (Kp.tr0 k6 (Kp.tr0 k5 K4)))
            · walk_at "cg"
              exact plain p3 H4 F4 T4 K4
          · walk_at "cg"
            rename_i p3 H3 hp3 s3 k3
            exact plain p3 H3 (row_mk s3 (k3.im i1)) (T2.kp0 k3) (Kp.tr0 k3 (Tp.base T2))
      clear F2 sz2
      rintro σ' H3 ⟨pf, f, rfl, F3, sz3, T3, k3⟩
      have K3 := Kp.tr1 k3 K2
      have b3 := k3.im b2
      clear k3 K2 b2 T2
      refine ⟨fun σ' H' => ∃ (pf : Addr) (f : Fact), σ' = [some (.ref t), some (.ref wa.w), some (.ref l), some (.int r), some (.int (M.us.length : Int)), some (.str x), some (.ref pb), some (.ref pf), none, none, none, none, none, none, none] ∧ FactAt K H3 pf f ∧ f.sz M.us.length 10000000 40 ∧ H' = H3, ?_, ?_⟩
      · cases b with
        | any ls =>
          obtain ⟨q1, s1, i1⟩ := b_any b3
          walk_at "cg"
          refine if_S (fun g2 => ?_) (fun g2 => ?_)
          · walk_at "cg"
            exact ⟨pb, .any ls, rfl, any_mk s1 i1, sz_body okb, rfl⟩
          · walk_at "cg"
            exact ⟨pf, f, rfl, F3, sz3, rfl⟩
        | diff us =>
          obtain ⟨q1, s1, i1⟩ := b_diff b3
          walk_at "cg"
          exact ⟨pf, f, rfl, F3, sz3, rfl⟩
        | table us rows =>
          obtain ⟨q1, q2, s1, i1, i2⟩ := b_table b3
          walk_at "cg"
          exact ⟨pf, f, rfl, F3, sz3, rfl⟩
        | elem x1 es y =>
          obtain ⟨q1, s1, i1⟩ := b_elem b3
          walk_at "cg"
          exact ⟨pf, f, rfl, F3, sz3, rfl⟩
        | times x1 y z =>
          have s1 := b_times b3
          walk_at "cg"
          exact ⟨pf, f, rfl, F3, sz3, rfl⟩
        | when l1 ts r1 n =>
          obtain ⟨q1, q2, s1, i1, i2⟩ := b_when b3
          walk_at "cg"
          exact ⟨pf, f, rfl, F3, sz3, rfl⟩
        | row ts re n =>
          obtain ⟨q1, s1, i1⟩ := b_row b3
          walk_at "cg"
          exact ⟨pf, f, rfl, F3, sz3, rfl⟩
      clear F3 sz3
      rintro σ' H' ⟨pf, f, rfl, F3, sz3, rfl⟩
      walk_at "cg"
      rename_i p4 H4 hp4 s4 k4
      exact k p4 ⟨f, .given x⟩ H4 (step_mk (s := ⟨f, .given x⟩) s4 (k4.im F3) (.cons (.str _) .nil)) ⟨up sz3, trivial⟩ (T3.kp0 k4) (Kp.tr0 k4 K3)
    walk_at "cg"
    refine if_S (fun g2 => ?_) (fun g2 => ?_)
    · obtain ⟨z, hz⟩ : ∃ z, M.us[0]? = some z := ⟨_, List.getElem?_eq_getElem (by omega)⟩
      obtain ⟨x0, ex, hx⟩ := mapGetJ w41 hz
      obtain ⟨pz, rfl, sz⟩ := un_at hx
      have oz := ok.un z (List.mem_of_getElem? hz)
      have ex0 : atI ru 0 = some (.ref pz) := by simpa using ex
      have mb : LtB (M.us.length : Int) := .of (by omega)
      walk_at "cg"
      refine r_ixL w31 ex0 ?_
      walk_at "cg"
      rename_i d2 H2 d20 d21 T2 k2 d3 H3 d30 d31 T3 k3 p4 H4 hp4 s4 k4 p5 H5 hp5 s5 k5 p6 H6 hp6 s6 k6 p7 H7 hp7 s7 k7 p8 H8 hp8 s8 k8
      have K3 := Kp.tr1 k3 (Kp.tr1 k2 k1)
      clear k1 k2 k3 T1 T2 hb W1 E1 w11 w31 w41 hx sz ex ex0
      have o2 := oz.2.2
      refine k p8 ⟨.any [⟨d3, .ne, z.2.1 + d2⟩, ⟨(M.us.length : Int) - 1 - d3, .ne, z.2.1 + d2⟩], .apart x⟩ H8 (step_mk (s := ⟨.any [⟨d3, .ne, z.2.1 + d2⟩, ⟨(M.us.length : Int) - 1 - d3, .ne, z.2.1 + d2⟩], .apart x⟩) s8 (k8.im (any_mk s7 (k7.im (.tup s6 (.cons (k6.im (k5.im (lit_mk s4))) (.cons (k6.im (lit_mk s5)) .nil)))))) (.cons (.str _) .nil)) ⟨sz_any (fun l hl => ?_) (by omega) (by simp; omega) (by omega), trivial⟩ (((((T3.kp0 k4).kp0 k5).kp0 k6).kp0 k7).kp0 k8) (Kp.tr0 k8 (Kp.tr0 k7 (Kp.tr0 k6 (Kp.tr0 k5 (Kp.tr0 k4 K3)))))
      simp only [List.mem_cons, List.not_mem_nil, or_false] at hl
      rcases hl with rfl | rfl <;> (simp only; omega)
    walk_at "cg"
    refine ⟨fun σ' H' => σ' = [some (.ref t), some (.ref wa.w), some (.ref l), some (.int r), some (.int (M.us.length : Int)), some (.str x), some (.ref pb), none, none, none, none, none, none, none, none] ∧ H' = H1, ?_, ?_⟩
    · walk_at "cg"
      refine if_S (fun g3 => ?_) (fun g3 => ?_)
      · cases b with
        | any ls =>
          obtain ⟨q1, s1, i1⟩ := b_any hb
          walk_at "cg"
          exact ⟨rfl, rfl⟩
        | diff us =>
          obtain ⟨q1, s1, i1⟩ := b_diff hb
          walk_at "cg"
          exact ⟨rfl, rfl⟩
        | table us rows =>
          obtain ⟨q1, q2, s1, i1, i2⟩ := b_table hb
          walk_at "cg"
          exact ⟨rfl, rfl⟩
        | elem x1 es y =>
          obtain ⟨q1, s1, i1⟩ := b_elem hb
          walk_at "cg"
          exact ⟨rfl, rfl⟩
        | times x1 y z =>
          have s1 := b_times hb
          walk_at "cg"
          exact ⟨rfl, rfl⟩
        | row ts re n =>
          obtain ⟨q1, s1, i1⟩ := b_row hb
          walk_at "cg"
          exact ⟨rfl, rfl⟩
        | when l1 ts re n =>
          have fit : Body.fit M.us.length (.when l1 ts re n) := by
            rcases okb with h | h
            · exact h
            · cases h
          have szr : ∀ j, (Fact.row ts j).sz M.us.length 10000000 40 := fun j => sz_tm (by omega) fit.2.1
          have l60 := fit.2.1.1
          obtain ⟨q1, q2, s1, L1, i1⟩ := b_when hb
          walk_at "cg"
          rename_i p2 H2 hp2 s2 k2
          have F2 : FactAt K H2 p2 (.row ts n) := row_mk s2 (k2.im i1)
          have s12 := k2.tup s1
          have i12 := k2.im i1
          have T2 := T1.kp0 k2
          have E2 := E1.kp0 k2
          have K2 := Kp.tr0 k2 k1
          clear k2 s2 s1 i1 L1 hb W1 w11 w31 w41 T1 k1 E1
          refine ⟨fun σ' H' => ∃ (pf : Addr) (f : Fact), σ' = [some (.ref t), some (.ref wa.w), some (.ref l), some (.int r), some (.int (M.us.length : Int)), some (.str x), some (.ref pb), some (.ref pf), none, none, none, none, none, none, none] ∧ FactAt K H' pf f ∧ f.sz M.us.length 10000000 40 ∧ Kp [] H2 H', ?_, ?_⟩
          · cases re
            · walk_at "cg"
              exact ⟨p2, _, rfl, F2, szr n, .refl⟩
            · obtain ⟨xs, h1, h2⟩ := i12.open
              walk_at "cg"
              refine lcT_m (xs := xs) (as := ts) (d := tD) h1 h2 (fun z => tD (z.1, -z.2)) (by omega) (fun i z x H' R R' hz k2 hx q => ?_) (fun D H4 acc hD eD hA k4 => ?_)
              · obtain ⟨px, rfl, hs⟩ := term_at hx
                have z8 : (0 : Int) - z.2 = -z.2 := by omega
                walk_at "cg"
                rename_i p5 H5 hp5 s5 k5
                rw [z8] at s5
                exact q _ _ (.tup s5 (.cons (.int _) (.cons (.int _) .nil))) (by walk_at "cg kp")
              · have hN : ImAll K H4 acc ((negT ts).map tD) := by
                  rw [negT, List.map_map]
                  exact hA
                walk_at "cg"
                rename_i p5 H5 hp5 s5 k5 p6 H6 hp6 s6 k6
                exact ⟨p6, .row (negT ts) _, rfl, row_mk s6 (.tup (k6.tup s5) (k6.imAll (k5.imAll hN))), sz_negT (szr n), Kp.tr0 k6 (Kp.tr0 k5 k4)⟩
            · walk_at "cg"
              exact ⟨p2, _, rfl, F2, szr n, .refl⟩
            · walk_at "cg"
              exact ⟨p2, _, rfl, F2, szr n, .refl⟩
          clear F2
          rintro σ' H3 ⟨pf, f, rfl, F3, sz3, k3⟩
          have T3 := T2.kp0 k3
          have E3 := E2.kp0 k3
          have K3 := Kp.tr0 k3 K2
          clear k3 K2 T2 E2 s12 i12
          walk_at "cg"
          refine ⟨t, c, l, ss, rfl, T3, E3, nlt, stin_len hin, fun ni H4 T4 k4 => ?_⟩
          have F4 := k4.im F3
          have K4 := Kp.tr1 k4 K3
          clear k4 K3 T3 E3 F3
          walk_at "cg"
          rename_i p5 H5 hp5 s5 k5
          exact k p5 ⟨f, .thn x ni⟩ H5 (step_mk (s := ⟨f, .thn x ni⟩) s5 (k5.im F4) (.cons (.str _) (.cons (.int _) .nil))) ⟨up sz3, trivial⟩ (T4.kp0 k5) (Kp.tr0 k5 K4)
      · walk_at "cg"
        exact ⟨rfl, rfl⟩
    rintro σ' H' ⟨rfl, rfl⟩
    walk_at "cg"
    rename_i dl H2 hdl edl k2
    have ndt : dl ≠ t := Tp.nef hdl T1
    have ndc : dl ≠ c := Tp.nefc hdl T1
    have fl : H dl = none := by
      cases e : H dl with
      | none => rfl
      | some o =>
        have := k1.get (by simpa using ndt) e
        rw [hdl] at this
        cases this
    have K2 := Kp.tr0 k2 k1
    have b2 := k2.im hb
    have E2 := E1.kp0 k2
    have w12 := k2.get0 w11
    have w32 := k2.get0 w31
    have w42 := k2.imAll w41
    have T2 := T1.kp0 k2
    have nwd : wa.w ≠ dl := ne_newL hdl w11
    have nud : wa.u ≠ dl := ne_newL hdl w31
    have nld : l ≠ dl := by
      obtain ⟨refs, el, _⟩ := E1.ex
      exact ne_newL hdl el
    clear k2 k1 hb E1 w11 w31 w41 T1 W1
    refine r_forR (fun i σ' H' => ∃ (ls : List Lit) (rs : List V) (x9 x10 : Option V), σ' = [some (.ref t), some (.ref wa.w), some (.ref l), some (.int r), some (.int (M.us.length : Int)), some (.str x), some (.ref pb), none, x10, none, some (.ref dl), x9, none, none, none] ∧ H' dl = some (.lst rs) ∧ ImAll K H' rs (ls.map Lit.d) ∧ ls.length ≤ i ∧ (∀ z ∈ ls, 0 ≤ z.v ∧ z.v < M.us.length ∧ z.a.natAbs ≤ 10000000) ∧ BodyAt K H' pb b ∧ EntAt K H' l (ss.map some) ∧ H' wa.w = some (.lst [.ref wa.u, .ref wa.f, pg]) ∧ H' wa.u = some (.lst ru) ∧ ImAll K H' ru (M.us.map unD) ∧ Tp t c H' ∧ Kp [t] H H') ⟨[], [], _, _, rfl, edl, .nil, by simp, (fun z hz => by cases hz), b2, E2, w12, w32, w42, T2, K2⟩ ?_ ?_
    · clear edl b2 E2 w12 w32 w42 T2 K2
      rintro i σ' H3 hi ⟨ls, rs, x9, x10, rfl, e3, A3, ll, lo, b3, E3, w13, w33, w43, T3, K3⟩
      have hi : i < M.us.length := by omega
      have z0 : (0 : Int) + (i : Int) = i := by omega
      rw [z0]
      have hll := mapLenP A3
      walk_at "cg"
      refine ⟨pb, b, rfl, b3, okb.bd, fun lw H4 e4 k4 => ?_⟩
      have e34 := k4.get0 e3
      have A4 := k4.imAll A3
      have b4 := k4.im b3
      have E4 := E3.kp0 k4
      have w14 := k4.get0 w13
      have w34 := k4.get0 w33
      have w44 := k4.imAll w43
      have T4 := T3.kp0 k4
      have K4 := Kp.tr0 k4 K3
      clear k4 e3 A3 b3 E3 w13 w33 w43 T3 K3
      walk_at "cg"
      refine r_inL e4 rfl (flat_ints _) (inV_ints _ _) ?_
      walk_at "cg"
      refine if_S (fun g5 => ?_) (fun g5 => ?_)
      · obtain ⟨z, hz⟩ : ∃ z, M.us[((i : Int)).toNat]? = some z := ⟨_, List.getElem?_eq_getElem (by omega)⟩
        obtain ⟨x0, ex, hx⟩ := mapGetJ w44 hz
        rw [Int.toNat_of_nonneg (by omega), Int.zero_add] at ex
        obtain ⟨pz, rfl, sz⟩ := un_at hx
        have oz := (ok.un z (List.mem_of_getElem? hz)).2.2
        have mb : LtB (z.2.2 - z.2.1 + 1) := .of (by omega)
        walk_at "cg"
        refine r_ixL w34 ex ?_
        walk_at "cg"
        refine r_ixL w34 ex ?_
        walk_at "cg"
        refine r_ixL w34 ex ?_
        walk_at "cg"
        rename_i d5 H5 d50 d51 T5 k5 l6 H6 hl6 e6 k6 d7 H7 d70 d71 T7 k7
        refine ix_relM4 (by walk_at "cg h") d70 d71 fun re => ?_
        have K7 := Kp.tr1 k7 (Kp.tr0 k6 (Kp.tr1 k5 (Tp.base T4)))
        have e37 := K7.get1 ndt e34
        have A7 := K7.imAll A4
        have b7 := K7.im b4
        have E7 := E4.kp K7 (fun z => nlt (by simpa using z))
        have w17 := K7.get1 nww w14
        have w37 := K7.get1 nwu w34
        have w47 := K7.imAll w44
        have KK := Kp.tr1 K7 K4
        clear K7 k5 k6 k7 e6 e34 A4 b4 E4 w14 w34 w44 T4 K4 T5 sz hx ex e4
        walk_at "cg"
        rename_i p8 H8 hp8 s8 k8 H9 e9 k9
        refine ⟨ls ++ [⟨i, re, z.2.1 + d5⟩], _, _, _, rfl, e9, ?_, by simp; omega, fun y hy => ?_, k9.im (k8.im b7), (E7.kp0 k8).kp k9 (fun z => nld (by simpa using z)), k9.get1 nwd (k8.get0 w17), k9.get1 nud (k8.get0 w37), k9.imAll (k8.imAll w47), (T7.kp0 k8).kp1 k9 ndt.symm ndc.symm, Kp.trN k9 (Kp.tr0 k8 KK) fl⟩
        · rw [List.map_append]
          exact (k9.imAll (k8.imAll A7)).snoc (k9.im (lit_mk (v := (i : Int)) (r := re) (a := z.2.1 + d5) s8))
        · rcases List.mem_append.mp hy with h | h
          · exact lo y h
          · rw [List.mem_singleton] at h
            subst h
            simp only
            omega
      · walk_at "cg"
        exact ⟨ls, rs, _, _, rfl, e34, A4, by omega, lo, b4, E4, w14, w34, w44, T4, K4⟩
    · clear edl b2 E2 w12 w32 w42 T2 K2
      rintro σ' H3 ⟨ls, rs, x9, x10, rfl, e3, A3, ll, lo, b3, E3, w13, w33, w43, T3, K3⟩
      have hll := mapLenP A3
      clear b3 w13 w33 w43
      walk_at "cg"
      rename_i d4 H4 d40 d41 T4 k4
      have e4 := k4.get1 ndt e3
      have A4 := k4.imAll A3
      have E4 := E3.kp k4 (fun z => nlt (by simpa using z))
      have K4 := Kp.tr1 k4 K3
      clear k4 e3 A3 E3 T3 K3
      refine lcR_d (K := K) PyData.int (fun _ _ => True) T4 (by omega) (fun j H' R R' hj T' k' q' => ?_) (fun hl H5 acc is hhl ehl lis _ hA T5 k5 => ?_)
      · walk_at "cg"
        refine ⟨t, c, l, ss, rfl, T', E4.kp k' (fun z => nlt (by simpa using z)), nlt, stin_len hin, fun ni H6 T6 k6 => ?_⟩
        exact q' _ _ _ trivial (.int ni) T6 k6
      have e5 := k5.get1 ndt e4
      have A5 := k5.imAll A4
      have K5 := Kp.tr1 k5 K4
      clear k5 e4 A4 E4 T4 K4
      walk_at "cg"
      rename_i p6 H6 hp6 s6 k6 p7 H7 hp7 s7 k7 p8 H8 hp8 s8 k8 p9 H9 hp9 s9 k9
      have A7 : Im K H7 (.ref p6) (litsD ls) := k7.im (.tup s6 (k6.imAll A5))
      have F8 : FactAt K H8 p7 (.any ls) := k8.im (any_mk s7 A7)
      have I8 : Im K H8 (.ref p8) (intsD is) := .tup s8 (k8.imAll (k7.imAll (k6.imAll hA)))
      exact k p9 ⟨.any ls, .look x is⟩ H9 (step_mk (s := ⟨.any ls, .look x is⟩) s9 (k9.im F8) (.cons (.str _) (.cons (k9.im I8) .nil))) ⟨sz_any (fun z hz => by have := lo z hz; omega) (by omega) (by omega) (by omega), (by show is.length ≤ 60; omega)⟩ ((((T5.kp0 k6).kp0 k7).kp0 k8).kp0 k9) (Kp.tr0 k9 (Kp.tr0 k8 (Kp.tr0 k7 (Kp.tr0 k6 K5))))

end
section
variable {P : Program} {w : World} {K : PySem.W.Frag} {mg : Str → Option Value} {base : Heap}
theorem ok_law_by_steps {f : Addr} {fd : FuncData} (F : Fun K "_law_by_steps" "_law_by_steps" s_law_by_steps f fd) (B : Bi K mg) (D_law_pick : Is P w K mg base CX0 2 "_law_pick" ["_law_tape_here", "_law_steps"] (spPickS K)) (D_law_fact_of : Is P w K mg base CX0 1 "_law_fact_of" ["_law_steps", "_law_i"] (spFactOfS K)) (D_law_as_row : Is P w K mg base CX0 1 "_law_as_row" ["_law_fact_here"] (spAsRow K)) (D_law_opposed : Is P w K mg base CX0 2 "_law_opposed" ["_law_tape_here", "_law_steps"] (spOpposedS K)) (D_law_moved : Is P w K mg base CX0 2 "_law_moved" ["_law_tape_here", "_law_row"] (spMovedS K)) (D_law_draw : Is P w K mg base CX0 1 "_law_draw" ["_law_tape_here", "_law_many"] spDraw) (D_law_fact : Is P w K mg base CX0 3 "_law_fact" ["_law_tape_here", "_law_many"] (spLawFact K)) (D_law_added : Is P w K mg base CX0 2 "_law_added" ["_law_steps", "_law_pairs", "_law_many"] (spAddedS K)) (D_law_literal : Is P w K mg base CX0 2 "_law_literal" ["_law_tape_here", "_law_many"] (spLawLiteral K)) : FnOk P w K mg base CX0 4 f fd ["_law_tape_here", "_law_world", "_law_steps", "_law_rule"] (spByS K 5 10) := by
  have nd := sc_law_by_steps.nd
  refine F.ok sc_law_by_steps ?len (fun cdv A outer s H vs Q E hr h => ?body)
  case len =>
    rintro vs H Q E ⟨t, c, l, wa, M, r, ss, bB, L, rfl, _⟩
    rfl
  case body =>
    obtain ⟨t, c, l, wa, M, r, ss, bB, L, rfl, T, W, ok, nw, hE, nlt, hin, r5, r10, k⟩ := h
    refine ⟨_, (pss_cons (ps_set (i := 4) nd rfl (Or.inl rfl) (pe_callB (cgLen K) (by rfl) B.n_len PySem.boot_len (pa_cons (pe_ix (ixL K) (pv 1) pe_int (fun _ _ => rfl)) pa_nil)))
      (pss_cons (ps_set (i := 5) nd rfl (Or.inl rfl) (pe_is D_law_pick (hr.mono (by decide)) rfl pass0 (pa_cons (pv 0) (pa_cons (pv 2) pa_nil))))
      (pss_cons (ps_set (i := 6) nd rfl (Or.inl rfl) (pe_is D_law_fact_of (hr.mono (by decide)) rfl pass0 (pa_cons (pv 2) (pa_cons (pv 5) pa_nil))))
      (pss_cons (ps_if (pt_cmpR op_eq (pv 3) pe_int (nomark _))
      (pss_cons (ps_setLc (i := 7) (own := [("_law_k", 15)]) (g := (gName 15)) (tt := tYes) rfl nd rfl rfl (sw_true rfl rfl rfl (by decide +kernel)) (pi_range1 rfl B.n_range (pa_cons (pe_is D_law_draw (hr.mono (by decide)) rfl pass0 (pa_cons (pv 0) (pa_cons pe_int pa_nil))) pa_nil)) (blkOk_by (N := ["_law_tape_here", "_law_world", "_law_steps", "_law_rule", "_law_many", "_law_i", "_law_fact_here", "_law_pairs", "_law_row", "_law_d", "_law_terms_here", "_law_hints", "_law_stated", "_law_s", "_law_t", "_law_k", "_law_v", "_law_c"]) (sc := defScope s_law_by_steps) (by decide +kernel)) (fun _ _ _ _ _ => (pg_name (i := 15) nd rfl (Or.inl rfl))) (fun _ _ _ _ _ => pts_nil) (fun _ _ _ _ _ => (pe_tup (pa_cons (pe_is D_law_pick (hr.mono (by decide)) rfl pass0 (pa_cons (pv 0) (pa_cons (pv 2) pa_nil))) (pa_cons (pe_op op_add pe_int (pe_is D_law_draw (hr.mono (by decide)) rfl pass0 (pa_cons (pv 0) (pa_cons pe_int pa_nil)))) pa_nil)))))
      (pss_one (ps_ret (pe_tup (pa_cons (pe_is D_law_moved (hr.mono (by decide)) rfl pass0 (pa_cons (pv 0) (pa_cons (pe_is D_law_added (hr.mono (by decide)) rfl pass0 (pa_cons (pv 2) (pa_cons (pv 7) (pa_cons (pv 4) pa_nil)))) pa_nil))) (pa_cons pe_str (pa_cons (pe_callTy (cgTuple K) (by rfl) B.n_tuple (by decide +kernel) (pa_cons (pv 7) pa_nil)) pa_nil)))))))
      pss_nil)
      (pss_cons (ps_if (pt_cmpR op_eq (pv 3) pe_int (nomark _))
      (pss_cons (ps_set (i := 8) nd rfl (Or.inl rfl) (pe_is D_law_as_row (hr.mono (by decide)) rfl pass0 (pa_cons (pv 6) pa_nil)))
      (pss_cons (ps_set (i := 9) nd rfl (Or.inr rfl) (pe_op op_add pe_int (pe_is D_law_draw (hr.mono (by decide)) rfl pass0 (pa_cons (pv 0) (pa_cons pe_int pa_nil)))))
      (pss_cons (ps_if (pt_cmpR cg_isN (pv 8) pe_non (nomark _))
      (pss_one (ps_ret (pe_tup (pa_cons (pv 6) (pa_cons pe_str (pa_cons (pv 5) (pa_cons (pv 9) pa_nil)))))))
      pss_nil)
      (pss_cons (ps_set (i := 10) nd rfl (Or.inl rfl) (pe_callTy (cgTuple K) (by rfl) B.n_tuple (by decide +kernel) (pa_cons (by exact pe_lc (own := [("_law_v", 16), ("_law_c", 17)]) (g := (gTup K 2 (gCons (gName 16) (gCons (gName 17) gNil)))) rfl nd (pi_tup (pe_ix (ixT K) (pv 8) pe_int (fun _ _ => rfl))) (blkOk_by (N := ["_law_tape_here", "_law_world", "_law_steps", "_law_rule", "_law_many", "_law_i", "_law_fact_here", "_law_pairs", "_law_row", "_law_d", "_law_terms_here", "_law_hints", "_law_stated", "_law_s", "_law_t", "_law_k", "_law_v", "_law_c"]) (sc := defScope s_law_by_steps) (by decide +kernel)) (fun _ _ _ _ _ => (pg_tup (n := 2) rfl (pgs_cons (pg_name (i := 16) nd rfl (Or.inl rfl)) (pgs_cons (pg_name (i := 17) nd rfl (Or.inl rfl)) pgs_nil)))) (fun _ _ _ _ _ => pts_one (pt_cmpR op_ne (pe_op op_fdiv (pv 17) (pv 9)) pe_int (nomark _))) (fun _ _ _ _ _ => (pe_tup (pa_cons (pv 16) (pa_cons (pe_op op_fdiv (pv 17) (pv 9)) pa_nil))))) pa_nil)))
      (pss_one (ps_ret (pe_tup (pa_cons (pe_is D_law_moved (hr.mono (by decide)) rfl pass0 (pa_cons (pv 0) (pa_cons (pe_tup (pa_cons pe_str (pa_cons (pv 10) (pa_cons (pe_op op_fdiv (pe_ix (ixT K) (pv 8) pe_int (fun _ _ => rfl)) (pv 9)) pa_nil)))) pa_nil))) (pa_cons pe_str (pa_cons (pv 5) (pa_cons (pv 9) pa_nil)))))))))))
      pss_nil)
      (pss_cons (ps_if (pt_cmpR op_eq (pv 3) pe_int (nomark _))
      (pss_cons (ps_setLc (i := 11) (own := [("_law_k", 15)]) (g := (gName 15)) (tt := tYes) rfl nd rfl rfl (sw_true rfl rfl rfl (by decide +kernel)) (pi_range1 rfl B.n_range (pa_cons (pe_op op_add pe_int (pe_is D_law_draw (hr.mono (by decide)) rfl pass0 (pa_cons (pv 0) (pa_cons pe_int pa_nil)))) pa_nil)) (blkOk_by (N := ["_law_tape_here", "_law_world", "_law_steps", "_law_rule", "_law_many", "_law_i", "_law_fact_here", "_law_pairs", "_law_row", "_law_d", "_law_terms_here", "_law_hints", "_law_stated", "_law_s", "_law_t", "_law_k", "_law_v", "_law_c"]) (sc := defScope s_law_by_steps) (by decide +kernel)) (fun _ _ _ _ _ => (pg_name (i := 15) nd rfl (Or.inl rfl))) (fun _ _ _ _ _ => pts_nil) (fun _ _ _ _ _ => (pe_is D_law_pick (hr.mono (by decide)) rfl pass0 (pa_cons (pv 0) (pa_cons (pv 2) pa_nil)))))
      (pss_cons (ps_set (i := 12) nd rfl (Or.inl rfl) (pe_lst (pa_cons (pe_tup (pa_cons pe_str (pa_cons (pe_tup pa_nil) pa_nil))) (pa_cons (pe_is D_law_fact (hr.mono (by decide)) rfl pass0 (pa_cons (pv 0) (pa_cons (pv 4) pa_nil))) (pa_cons (pv 6) (pa_cons (pe_tup (pa_cons pe_str (pa_cons (pe_tup (pa_cons (pe_is D_law_literal (hr.mono (by decide)) rfl pass0 (pa_cons (pv 0) (pa_cons (pv 4) pa_nil))) pa_nil)) pa_nil))) pa_nil))))))
      (pss_one (ps_ret (pe_tup (pa_cons (pe_ix (ixL K) (pv 12) (pe_is D_law_draw (hr.mono (by decide)) rfl pass0 (pa_cons (pv 0) (pa_cons pe_int pa_nil))) (fun _ _ => rfl)) (pa_cons pe_str (pa_cons (pe_callTy (cgTuple K) (by rfl) B.n_tuple (by decide +kernel) (pa_cons (pv 11) pa_nil)) pa_nil))))))))
      pss_nil)
      (pss_cons (ps_if (pt_cmpR op_eq (pv 3) pe_int (nomark _))
      (pss_cons (ps_asg (pe_is D_law_opposed (hr.mono (by decide)) rfl pass0 (pa_cons (pv 0) (pa_cons (pv 2) pa_nil))) (pg_tup (n := 2) rfl (pgs_cons (pg_name (i := 13) nd rfl (Or.inl rfl)) (pgs_cons (pg_name (i := 14) nd rfl (Or.inl rfl)) pgs_nil))))
      (pss_one (ps_ret (pe_tup (pa_cons (pv 6) (pa_cons pe_str (pa_cons (pv 5) (pa_cons (pe_is D_law_pick (hr.mono (by decide)) rfl pass0 (pa_cons (pv 0) (pa_cons (pv 2) pa_nil))) (pa_cons (pv 13) (pa_cons (pv 14) pa_nil))))))))))
      pss_nil)
      (pss_cons (ps_if (pt_cmpR op_eq (pv 3) pe_int (nomark _))
      (pss_cons (ps_for PassesOwn.never rfl (pi_range1 rfl B.n_range (pa_cons (pe_callB (cgLen K) (by rfl) B.n_len PySem.boot_len (pa_cons (pv 2) pa_nil)) pa_nil)) (pg_name (i := 15) nd rfl (Or.inl rfl))
      (pss_one (ps_if (PW.pt (pw_and (pt_cmpR op_eq (pe_callB (cgLen K) (by rfl) B.n_len PySem.boot_len (pa_cons (pe_ix (ixT K) (pe_ix (ixT K) (pe_ix (ixL K) (pv 2) (pv 15) (fun _ _ => rfl)) pe_int (fun _ _ => rfl)) pe_int (fun _ _ => rfl)) pa_nil)) pe_int (nomark _)) (pw_and1 (pt_cmpR op_eq (pe_is D_law_draw (hr.mono (by decide)) rfl pass0 (pa_cons (pv 0) (pa_cons pe_int pa_nil))) pe_int (nomark _)))))
      (pss_one (ps_set (i := 5) nd rfl (Or.inl rfl) (pv 15)))
      pss_nil)))
      (pss_one (ps_ret (pe_tup (pa_cons (pe_is D_law_fact (hr.mono (by decide)) rfl pass0 (pa_cons (pv 0) (pa_cons (pv 4) pa_nil))) (pa_cons pe_str (pa_cons (pv 5) pa_nil)))))))
      pss_nil)
      (pss_cons (ps_if (pt_cmpR op_eq (pe_ix (ixT K) (pv 6) pe_int (fun _ _ => rfl)) pe_str (nomark _))
      (pss_one (ps_ret (pe_tup (pa_cons (pe_is D_law_moved (hr.mono (by decide)) rfl pass0 (pa_cons (pv 0) (pa_cons (pv 6) pa_nil))) (pa_cons pe_str (pa_cons (pv 5) pa_nil))))))
      pss_nil)
      (pss_one (ps_ret (pe_tup (pa_cons (pe_tup (pa_cons pe_str (pa_cons (pe_op (op_catAK K) (pe_ix (ixT K) (pv 6) pe_int (fun _ _ => rfl)) (pe_tup (pa_cons (pe_is D_law_literal (hr.mono (by decide)) rfl pass0 (pa_cons (pv 0) (pa_cons (pv 4) pa_nil))) pa_nil))) pa_nil))) (pa_cons pe_str (pa_cons (pv 5) pa_nil))))))))))))))), ?_⟩
    try dsimp only [L2.cxOf, L2.Cx.nox, L2.Cx.wish]
    rw [st_law_by_steps]
    obtain ⟨pg, w1, w2⟩ := W.w
    obtain ⟨ru, w3, w4⟩ := W.u
    have hul := mapLenP w4
    have hin2 := hin.2
    have s100 := stin_len hin
    have rl : (ru.length : Int) = M.us.length := by omega
    have up : ∀ {f : Fact}, f.sz M.us.length bB L → f.sz M.us.length (6 * bB) (L + 1) := fun h => h.up (by omega) (by omega)
    have up0 : ∀ {f : Fact}, f.sz M.us.length 10000000 40 → f.sz M.us.length (6 * bB) (L + 1) := fun h => h.up (by omega) (by omega)
    walk_at "cg"
    rw [rl]
    clear w1 w2 w3 w4 W
    refine ⟨t, c, l, ss, rfl, T, hE, nlt, s100, fun ni H1 T1 k1 => ?_⟩
    have E1 := hE.kp k1 (fun z => nlt (by simpa using z))
    clear hE T
    walk_at "cg"
    refine ⟨l, ni, ss, rfl, E1, fun pf f H2 F2 hf k2 => ?_⟩
    have szf := facts0_sz hin hf
    have E2 := E1.kp0 k2
    have T2 := T1.kp0 k2
    have K2 := Kp.tr0 k2 k1
    clear k1 k2 E1 T1
    walk_at "cg"
    refine if_S (fun g => ?_) (fun g => ?_)
    · walk_at "cg"
      rename_i d3 H3 d30 d31 T3 k3
      have E3 := E2.kp k3 (fun z => nlt (by simpa using z))
      have K3 := Kp.tr1 k3 K2
      clear k3 K2 E2 T2 F2
      refine lcR_d (K := K) tD (fun _ z => 1 ≤ z.2 ∧ z.2 ≤ 2) T3 (by omega) (fun j H' R R' hj T' k' q' => ?_) (fun hl H4 acc ps hhl ehl lps hP hA T4 k4 => ?_)
      · walk_at "cg"
        refine ⟨t, c, l, ss, rfl, T', E3.kp k' (fun z => nlt (by simpa using z)), nlt, s100, fun nj H5 T5 k5 => ?_⟩
        walk_at "cg"
        rename_i d6 H6 d60 d61 T6 k6 p7 H7 hp7 s7 k7
        exact q' (.ref p7) H7 (nj, 1 + d6) (by simp only; omega) (.tup s7 (.cons (.int _) (.cons (.int _) .nil))) (T6.kp0 k7) (Kp.tr0 k7 (Kp.tr1 k6 k5))
      have E4 := E3.kp k4 (fun z => nlt (by simpa using z))
      have K4 := Kp.tr1 k4 K3
      have nht : hl ≠ t := Tp.nef hhl T3
      have hpl := mapLenP hA
      have hps : ∀ p ∈ ps, 1 ≤ p.2 ∧ p.2 ≤ 2 := fun p hp => by
        obtain ⟨j, hj⟩ := List.getElem?_of_mem hp
        exact hP j p hj
      clear k4 K3 E3 T3
      walk_at "cg"
      refine ⟨l, hl, acc, ss, ps, _, bB, L, rfl, E4, hin, ehl, hA, hps, by omega, fun p5 ts kk H5 F5 sz5 k5 => ?_⟩
      walk_at "cg"
      refine ⟨t, c, p5, ts, kk, rfl, T4.kp0 k5, F5, fun p6 k6' H6 F6 T6 k6 => ?_⟩
      have e6 := k6.get1 nht (k5.get0 ehl)
      have A6 := k6.imAll (k5.imAll hA)
      have K6 := Kp.tr1 k6 (Kp.tr0 k5 K4)
      clear k5 k6 K4 E4 T4 ehl hA F5
      walk_at "cg"
      rename_i p7 H7 hp7 s7 k7 p8 H8 hp8 s8 k8
      have I7 : Im K H7 (.ref p7) (tmD ps) := .tup s7 (k7.imAll A6)
      exact k p8 ⟨.row ts k6', .sum ps⟩ H8 (step_mk (s := ⟨.row ts k6', .sum ps⟩) s8 (k8.im (k7.im F6)) (.cons (k8.im I7) .nil)) ⟨(sz_k sz5).up (Nat.le_refl _) (by omega), (by omega : ps.length ≤ 60), fun p hp => by have := hps p hp; omega⟩ ((T6.kp0 k7).kp0 k8) (Kp.tr0 k8 (Kp.tr0 k7 K6))
    walk_at "cg"
    refine if_S (fun g2 => ?_) (fun g2 => ?_)
    · walk_at "cg"
      refine ⟨pf, f, rfl, F2, fun y H3 hy k3 => ?_⟩
      have F3 := k3.im F2
      have T3 := T2.kp0 k3
      have K3 := Kp.tr0 k3 K2
      clear k3 K2 T2 F2 E2
      walk_at "cg"
      rename_i d4 H4 d40 d41 T4 k4
      have F4 := k4.im F3
      have hy4 := hy.kp k4
      have K4 := Kp.tr1 k4 K3
      clear k4 K3 T3 F3 hy
      have dm : 1 ≤ 1 + d4 := by omega
      have dm2 : 1 + d4 ≤ 3 := by omega
      generalize 1 + d4 = d at dm dm2 ⊢
      have okr : ∀ ts n9, f.asRow = some (ts, n9) → _ := fun ts n9 e => sz_asRow (ts := ts) (k := n9) szf (by omega) e
      generalize f.asRow = ro at hy4 okr
      cases hy4 with
      | none =>
        walk_at "cg"
        rename_i p5 H5 hp5 s5 k5
        exact k p5 ⟨f, .divide ni d⟩ H5 (step_mk (s := ⟨f, .divide ni d⟩) s5 (k5.im F4) (.cons (.int _) (.cons (.int _) .nil))) ⟨up szf, (by omega : d ≤ 1000000)⟩ (T4.kp0 k5) (Kp.tr0 k5 K4)
      | some hr =>
        rename_i pr vs nr
        obtain ⟨qr, sr, ir⟩ := row_open hr
        obtain ⟨ys2, s2, i2⟩ := ir.open
        obtain ⟨o1, o2, o3⟩ := okr vs nr rfl
        clear hr ir
        walk_at "cg"
        refine lcT_f (xs := ys2) (as := vs) (d := tD) s2 i2 (fun z => if z.2 / d = 0 then none else some (tD (z.1, z.2 / d))) (by omega) (fun i z x H' R R' hz k5 hx q1 q2 => ?_) (fun D H5 acc hD eD hA k5 => ?_)
        · obtain ⟨px, rfl, hs⟩ := term_at hx
          walk_at "cg"
          refine if_S (fun g3 => ?_) (fun g3 => ?_)
          · walk_at "cg"
            exact q1 _ _ (tD (z.1, z.2 / d)) (by rw [if_neg g3]) (.tup (by assumption) (.cons (.int _) (.cons (.int _) .nil))) (by walk_at "cg kp")
          · walk_at "cg"
            exact q2 _ (by rw [if_pos (Decidable.of_not_not g3)]) .refl
        · have hN : ImAll K H5 acc ((vs.filterMap fun z => if z.2 / d = 0 then none else some (z.1, z.2 / d)).map tD) := by
            have e : vs.filterMap (fun z => if z.2 / d = 0 then none else some (tD (z.1, z.2 / d))) = (vs.filterMap fun z => if z.2 / d = 0 then none else some (z.1, z.2 / d)).map tD := by
              rw [List.map_filterMap]
              congr 1
              funext z
              by_cases g : z.2 / d = 0
              · rw [if_pos g, if_pos g]; rfl
              · rw [if_neg g, if_neg g]; rfl
            rw [← e]
            exact hA
          have szn : ∀ j, (Fact.row (vs.filterMap fun z => if z.2 / d = 0 then none else some (z.1, z.2 / d)) j).sz M.us.length (6 * bB) (L + 1) := fun j => by
            refine sz_row (fun z hz => ?_) ?_ (by omega) ?_ (by omega)
            · obtain ⟨y, hy, e⟩ := List.mem_filterMap.mp hz
              have := o1 y hy
              split at e
              · cases e
              · rename_i g
                cases e
                exact ⟨this.1, this.2.1, g⟩
            · refine Nat.le_trans (wt_fm (fun z y e => ?_) vs) (by omega)
              split at e
              · cases e
              · cases e
                exact div_abs
            · exact Nat.le_trans (List.length_filterMap_le _ _) (by omega)
          generalize vs.filterMap (fun z => if z.2 / d = 0 then none else some (z.1, z.2 / d)) = us at hN szn
          have T5 := T4.kp0 k5
          have K5 := Kp.tr0 k5 K4
          have sr5 := k5.tup sr
          clear k5 K4 T4 F4 sr s2 i2 hA
          walk_at "cg"
          rename_i p6 H6 hp6 s6 k6 p7 H7 hp7 s7 k7
          have F7 : FactAt K H7 p7 (.row us (nr / d)) := row_mk s7 (k7.im (.tup s6 (k6.imAll hN)))
          have K7 := Kp.tr0 k7 (Kp.tr0 k6 K5)
          refine ⟨t, c, p7, us, nr / d, rfl, (T5.kp0 k6).kp0 k7, F7, fun p8 k8' H8 F8 T8 k8 => ?_⟩
          have K8 := Kp.tr1 k8 K7
          clear k6 k7 k8 K7 K5 s6 s7 F7 T5
          walk_at "cg"
          rename_i p9 H9 hp9 s9 k9
          exact k p9 ⟨.row us k8', .divide ni d⟩ H9 (step_mk (s := ⟨.row us k8', .divide ni d⟩) s9 (k9.im F8) (.cons (.int _) (.cons (.int _) .nil))) ⟨szn _, (by omega : d ≤ 1000000)⟩ (T8.kp0 k9) (Kp.tr0 k9 K8)
    walk_at "cg"
    refine if_S (fun g3 => ?_) (fun g3 => ?_)
    · walk_at "cg"
      rename_i d3 H3 d30 d31 T3 k3
      have E3 := E2.kp k3 (fun z => nlt (by simpa using z))
      have F3 := k3.im F2
      have K3 := Kp.tr1 k3 K2
      clear k3 K2 E2 T2 F2
      refine lcR_d (K := K) PyData.int (fun _ _ => True) T3 (by omega) (fun j H' R R' hj T' k' q' => ?_) (fun hl H4 acc is hhl ehl lis hP hA T4 k4 => ?_)
      · walk_at "cg"
        refine ⟨t, c, l, ss, rfl, T', E3.kp k' (fun z => nlt (by simpa using z)), nlt, s100, fun nj H5 T5 k5 => ?_⟩
        exact q' _ _ _ trivial (.int nj) T5 k5
      have F4 := k4.im F3
      have K4 := Kp.tr1 k4 K3
      have nht : hl ≠ t := Tp.nef hhl T3
      clear k4 K3 E3 T3 F3 hhl
      walk_at "cg"
      rename_i p5 H5 hp5 s5 k5 p6 H6 hp6 s6 k6
      have A6 : FactAt K H6 p6 (.any []) := any_mk s6 (k6.im (.tup s5 .nil))
      have e6 := k6.get0 (k5.get0 ehl)
      have hA6 := k6.imAll (k5.imAll hA)
      have F6 := k6.im (k5.im F4)
      have T6 := (T4.kp0 k5).kp0 k6
      have K6 := Kp.tr0 k6 (Kp.tr0 k5 K4)
      clear k5 k6 K4 T4 F4 ehl hA s5 s6
      refine ⟨t, c, _, rfl, T6, by omega, by omega, fun p7 f7 H7 F7 ok7 le7 ln7 T7 k7 => ?_⟩
      have sz7 := sz_law (n := M.us.length) (by omega) ok7 le7 ln7
      have A7 := k7.im A6
      have e7 := k7.get1 nht e6
      have hA7 := k7.imAll hA6
      have F67 := k7.im F6
      have K7 := Kp.tr1 k7 K6
      clear k7 K6 T6 F6 A6 e6 hA6
      walk_at "cg"
      refine ⟨t, c, _, rfl, T7, by omega, by omega, fun p8 l8 H8 L8 lf8 T8 k8 => ?_⟩
      have A8 := k8.im A7
      have e8 := k8.get1 nht e7
      have hA8 := k8.imAll hA7
      have F8 := k8.im F67
      have G8 := k8.im F7
      have K8 := Kp.tr1 k8 K7
      clear k8 K7 T7 F67 F7 A7 e7 hA7
      walk_at "cg"
      rename_i p9 H9 hp9 s9 k9 p10 H10 hp10 s10 k10 l11 H11 hl11 e11 k11 d12 H12 d120 d121 T12 k12
      have F10 : FactAt K H10 p10 (.any [l8]) := any_mk s10 (k10.im (.tup s9 (.cons (k9.im (lit_mk L8)) .nil)))
      have K10 := Kp.tr0 k10 k9
      have K12 := Kp.tr1 k12 (Kp.tr0 k11 (Kp.tr0 K10 (Tp.base T8)))
      have sz10 : Fact.sz M.us.length 10000000 40 (.any [l8]) := sz_any (fun z hz => by
        rw [List.mem_singleton] at hz
        subst hz
        unfold litFit at lf8
        omega) (by decide) (by simp) (by decide)
      have sz9 : Fact.sz M.us.length 10000000 40 (.any []) := sz_any (fun z hz => by cases hz) (by decide) (by simp) (by decide)
      have X1 := K12.im A8
      have X2 := K12.im G8
      have X3 := K12.im F8
      have X4 := k12.im (k11.im F10)
      have e12 := K12.get1 nht e8
      have hA12 := K12.imAll hA8
      have KK := Kp.tr1 K12 K8
      have e112 : H12 l11 = some (.lst [.ref p6, .ref p7, .ref pf, .ref p10]) := k12.get1 (Tp.nef hl11 ((T8.kp0 k9).kp0 k10)) e11
      clear k9 k10 k11 k12 K10 K12 K8 A8 G8 F8 F10 s9 s10 e8 hA8 T8 e11
      have fin : ∀ (pp : Addr) (ff : Fact), FactAt K H12 pp ff → ff.sz M.us.length (6 * bB) (L + 1) → ∀ (p13 p14 : Addr) (H13 H14 : Hp), SqT K H13 p13 acc → Kp [] H12 H13 → SqT K H14 p14 [.ref pp, .str (Str.ofString "unit"), .ref p13] → Kp [] H13 H14 → Q (.ref p14) H14 := fun pp ff Fp szp p13 p14 H13 H14 s13 k13 s14 k14 =>
        k p14 ⟨ff, .unit is⟩ H14 (step_mk (s := ⟨ff, .unit is⟩) s14 (k14.im (k13.im Fp)) (.cons (k14.im (show Im K H13 (.ref p13) (intsD is) from .tup s13 (k13.imAll hA12))) .nil)) ⟨szp, (by omega : is.length ≤ 60)⟩ ((T12.kp0 k13).kp0 k14) (Kp.tr0 k14 (Kp.tr0 k13 KK))
      refine ix_ref4 e112 d120 d121 ?_ ?_ ?_ ?_
      · walk_at "cg"
        rename_i p13 H13 hp13 s13 k13 p14 H14 hp14 s14 k14
        exact fin _ _ X1 (up0 sz9) _ _ _ _ s13 k13 s14 k14
      · walk_at "cg"
        rename_i p13 H13 hp13 s13 k13 p14 H14 hp14 s14 k14
        exact fin _ _ X2 (up0 sz7) _ _ _ _ s13 k13 s14 k14
      · walk_at "cg"
        rename_i p13 H13 hp13 s13 k13 p14 H14 hp14 s14 k14
        exact fin _ _ X3 (up szf) _ _ _ _ s13 k13 s14 k14
      · walk_at "cg"
        rename_i p13 H13 hp13 s13 k13 p14 H14 hp14 s14 k14
        exact fin _ _ X4 (up0 sz10) _ _ _ _ s13 k13 s14 k14
    walk_at "cg"
    refine if_S (fun g4 => ?_) (fun g4 => ?_)
    · walk_at "cg"
      refine ⟨t, c, l, ss, _, bB, L, rfl, T2, E2, nlt, hin, fun p3 s3 t3 H3 sp3 T3 k3 => ?_⟩
      have E3 := E2.kp k3 (fun z => nlt (by simpa using z))
      have F3 := k3.im F2
      have K3 := Kp.tr1 k3 K2
      clear k3 K2 E2 T2 F2
      walk_at "cg"
      refine ⟨t, c, l, ss, rfl, T3, E3, nlt, s100, fun nj H4 T4 k4 => ?_⟩
      have F4 := k4.im F3
      have K4 := Kp.tr1 k4 K3
      clear k4 K3 E3 T3 F3 sp3
      walk_at "cg"
      rename_i p5 H5 hp5 s5 k5
      exact k p5 ⟨f, .cases ni nj s3 t3⟩ H5 (step_mk (s := ⟨f, .cases ni nj s3 t3⟩) s5 (k5.im F4) (.cons (.int _) (.cons (.int _) (.cons (.int _) (.cons (.int _) .nil))))) ⟨up szf, trivial⟩ (T4.kp0 k5) (Kp.tr0 k5 K4)
    walk_at "cg"
    refine if_S (fun g5 => ?_) (fun g5 => ?_)
    · obtain ⟨refs, el, A⟩ := E2.ex
      have hrl := stp_len A
      clear F2
      walk_at "cg"
      refine r_forR (fun i σ' H' => ∃ (nx : Int) (x1 : Option V), σ' = [some (.ref t), some (.ref wa.w), some (.ref l), some (.int r), some (.int (M.us.length : Int)), some (.int nx), some (.ref pf), none, none, none, none, none, none, none, none, x1, none, none] ∧ H' l = some (.lst refs) ∧ ImAll K H' refs ((ss.map some).map entD) ∧ Tp t c H' ∧ Kp [t] H H') ⟨_, _, rfl, el, A, T2, K2⟩ ?_ ?_
      · clear el A T2 K2 E2
        rintro i σ' H3 hi ⟨nx, x1, rfl, e3, A3, T3, K3⟩
        have z0 : (0 : Int) + (i : Int) = i := by omega
        rw [z0]
        obtain ⟨p, q, s, xs, ex, _, hm, sp, F⟩ := stp_ix A3 (i := (i : Int)) (by omega) (by omega)
        walk_at "cg"
        refine r_ixL e3 ex ?_
        walk_at "cg"
        refine r_ixT sp atI_0 ?_
        obtain ⟨f9, r9⟩ := s
        dsimp only at F sp
        cases f9 with
        | row ts n =>
          obtain ⟨q1, s1, i1⟩ := row_open F
          obtain ⟨xs1, h1, h2⟩ := i1.open
          walk_at "cg"
          refine if_S (fun g6 => ?_) (fun g6 => ?_)
          · walk_at "cg"
            rename_i d4 H4 d40 d41 T4 k4
            refine if_S (fun g7 => ?_) (fun g7 => ?_)
            · walk_at "cg"
              exact ⟨_, _, rfl, k4.get1 nlt e3, k4.imAll A3, T4, Kp.tr1 k4 K3⟩
            · walk_at "cg"
              exact ⟨_, _, rfl, k4.get1 nlt e3, k4.imAll A3, T4, Kp.tr1 k4 K3⟩
          · walk_at "cg"
            exact ⟨_, _, rfl, e3, A3, T3, K3⟩
        | any ls =>
          obtain ⟨q1, s1, i1⟩ := any_open F
          obtain ⟨xs1, h1, h2⟩ := i1.open
          walk_at "cg"
          refine if_S (fun g6 => ?_) (fun g6 => ?_)
          · walk_at "cg"
            rename_i d4 H4 d40 d41 T4 k4
            refine if_S (fun g7 => ?_) (fun g7 => ?_)
            · walk_at "cg"
              exact ⟨_, _, rfl, k4.get1 nlt e3, k4.imAll A3, T4, Kp.tr1 k4 K3⟩
            · walk_at "cg"
              exact ⟨_, _, rfl, k4.get1 nlt e3, k4.imAll A3, T4, Kp.tr1 k4 K3⟩
          · walk_at "cg"
            exact ⟨_, _, rfl, e3, A3, T3, K3⟩
      · clear el A T2 K2 E2
        rintro σ' H3 ⟨nx, x1, rfl, e3, A3, T3, K3⟩
        walk_at "cg"
        refine ⟨t, c, _, rfl, T3, by omega, by omega, fun p4 f4 H4 F4 ok4 le4 ln4 T4 k4 => ?_⟩
        have sz4 := sz_law (n := M.us.length) (by omega) ok4 le4 ln4
        have K4 := Kp.tr1 k4 K3
        clear k4 K3 T3 e3 A3
        walk_at "cg"
        rename_i p5 H5 hp5 s5 k5
        exact k p5 ⟨f4, .absurd nx⟩ H5 (step_mk (s := ⟨f4, .absurd nx⟩) s5 (k5.im F4) (.cons (.int _) .nil)) ⟨up0 sz4, trivial⟩ (T4.kp0 k5) (Kp.tr0 k5 K4)
    walk_at "cg"
    cases f with
    | row ts n =>
      obtain ⟨q1, s1, i1⟩ := row_open F2
      walk_at "cg"
      refine ⟨t, c, pf, ts, n, rfl, T2, F2, fun p3 k3' H3 F3 T3 k3 => ?_⟩
      have K3 := Kp.tr1 k3 K2
      clear k3 K2 T2 F2 E2 s1 i1
      walk_at "cg"
      rename_i p4 H4 hp4 s4 k4
      exact k p4 ⟨.row ts k3', .weaken ni⟩ H4 (step_mk (s := ⟨.row ts k3', .weaken ni⟩) s4 (k4.im F3) (.cons (.int _) .nil)) ⟨up (sz_k szf), trivial⟩ (T3.kp0 k4) (Kp.tr0 k4 K3)
    | any ls =>
      obtain ⟨q1, s1, i1⟩ := any_open F2
      have hln : (ls.map (·.v)).length ≤ L := szf.len
      rw [List.length_map] at hln
      walk_at "cg"
      refine ⟨t, c, _, rfl, T2, by omega, by omega, fun p3 l3 H3 L3 lf3 T3 k3 => ?_⟩
      have i3 := k3.im i1
      have s13 := k3.tup s1
      have K3 := Kp.tr1 k3 K2
      clear k3 K2 T2 F2 E2 s1 i1
      obtain ⟨xs, h1, h2⟩ := i3.open
      have hxl := mapLenP h2
      walk_at "cg"
      rename_i p4 H4 hp4 s4 k4
      refine r_catA1 (k4.tup h1) s4 (by omega) fun p5 H5 s5 k5 => ?_
      have I5 : Im K H5 (.ref p5) (litsD (ls ++ [l3])) := .tup s5 (by
        rw [List.map_append]
        exact (k5.imAll (k4.imAll h2)).snoc (k5.im (k4.im (lit_mk L3))))
      have T5 := (T3.kp0 k4).kp0 k5
      have K5 := Kp.tr0 k5 (Kp.tr0 k4 K3)
      clear k4 k5 K3 T3 s4 s5 h1 h2 L3 s13 i3
      walk_at "cg"
      rename_i p6 H6 hp6 s6 k6 p7 H7 hp7 s7 k7
      refine k p7 ⟨.any (ls ++ [l3]), .weaken ni⟩ H7 (step_mk (s := ⟨.any (ls ++ [l3]), .weaken ni⟩) s7 (k7.im (any_mk s6 (k6.im I5))) (.cons (.int _) .nil)) ⟨sz_any (fun z hz => ?_) (by omega) (by simp; omega) (by omega), trivial⟩ ((T5.kp0 k6).kp0 k7) (Kp.tr0 k7 (Kp.tr0 k6 K5))
      rcases List.mem_append.mp hz with h | h
      · have a := szf.ok.1 z h
        have b := szf.w z h
        omega
      · rw [List.mem_singleton] at h
        subst h
        unfold litFit at lf3
        omega
theorem ok_law_step {f : Addr} {fd : FuncData} (F : Fun K "_law_step" "_law_step" s_law_step f fd) (B : Bi K mg) (D_law_draw : Is P w K mg base CX0 1 "_law_draw" ["_law_tape_here", "_law_many"] spDraw) (D_law_by_label : Is P w K mg base CX0 4 "_law_by_label" ["_law_tape_here", "_law_world", "_law_steps", "_law_rule"] (spByS K 1 4)) (D_law_by_steps : Is P w K mg base CX0 4 "_law_by_steps" ["_law_tape_here", "_law_world", "_law_steps", "_law_rule"] (spByS K 5 10)) (D_law_fact : Is P w K mg base CX0 3 "_law_fact" ["_law_tape_here", "_law_many"] (spLawFact K)) (D_law_negation : Is P w K mg base CX0 1 "_law_negation" ["_law_fact_here"] (spNegF K)) (D_law_moved : Is P w K mg base CX0 2 "_law_moved" ["_law_tape_here", "_law_row"] (spMovedS K)) (D_law_literal : Is P w K mg base CX0 2 "_law_literal" ["_law_tape_here", "_law_many"] (spLawLiteral K)) (D_law_fact_of : Is P w K mg base CX0 1 "_law_fact_of" ["_law_steps", "_law_i"] (spFactOfS K)) : FnOk P w K mg base CX0 5 f fd ["_law_tape_here", "_law_world", "_law_steps"] (spStepS K) := by
  have nd := sc_law_step.nd
  refine F.ok sc_law_step ?len (fun cdv A outer s H vs Q E hr h => ?body)
  case len =>
    rintro vs H Q E ⟨t, c, l, wa, M, ss, bB, L, rfl, _⟩
    rfl
  case body =>
    obtain ⟨t, c, l, wa, M, ss, bB, L, rfl, T, W, ok, nw, hE, nlt, hin, k⟩ := h
    refine ⟨_, (pss_cons (ps_set (i := 3) nd rfl (Or.inl rfl) (pe_callB (cgLen K) (by rfl) B.n_len PySem.boot_len (pa_cons (pe_ix (ixL K) (pv 1) pe_int (fun _ _ => rfl)) pa_nil)))
      (pss_cons (ps_set (i := 4) nd rfl (Or.inl rfl) (pe_is D_law_draw (hr.mono (by decide)) rfl pass0 (pa_cons (pv 0) (pa_cons pe_int pa_nil))))
      (pss_cons (ps_if (pt_cmpR op_eq (pv 4) pe_int (nomark _))
      (pss_cons (ps_set (i := 5) nd rfl (Or.inl rfl) (pe_is D_law_draw (hr.mono (by decide)) rfl pass0 (pa_cons (pv 0) (pa_cons (pv 3) pa_nil))))
      (pss_cons (ps_set (i := 6) nd rfl (Or.inl rfl) (pe_tup (pa_cons pe_str (pa_cons (pe_tup (pa_cons (pe_tup (pa_cons (pv 5) (pa_cons pe_int pa_nil))) pa_nil)) (pa_cons (pe_ix (ixT K) (pe_ix (ixL K) (pe_ix (ixL K) (pv 1) pe_int (fun _ _ => rfl)) (pv 5) (fun _ _ => rfl)) pe_int (fun _ _ => rfl)) pa_nil)))))
      (Evl.pss_cut (ps_if (pt_cmpR op_eq (pe_is D_law_draw (hr.mono (by decide)) rfl pass0 (pa_cons (pv 0) (pa_cons pe_int pa_nil))) pe_int (nomark _))
      (pss_one (ps_set (i := 6) nd rfl (Or.inl rfl) (pe_tup (pa_cons pe_str (pa_cons (pe_tup (pa_cons (pe_tup (pa_cons (pv 5) (pa_cons (pe_op op_sub pe_int pe_int) pa_nil))) pa_nil)) (pa_cons (pe_op op_sub pe_int (pe_ix (ixT K) (pe_ix (ixL K) (pe_ix (ixL K) (pv 1) pe_int (fun _ _ => rfl)) (pv 5) (fun _ _ => rfl)) pe_int (fun _ _ => rfl))) pa_nil))))))
      pss_nil)
      (pss_one (ps_ret (pe_tup (pa_cons (pe_is D_law_moved (hr.mono (by decide)) rfl pass0 (pa_cons (pv 0) (pa_cons (pv 6) pa_nil))) (pa_cons pe_str (pa_cons (pv 5) pa_nil)))))))))
      pss_nil)
      (pss_cons (ps_if (pt_cmpR op_lt (pv 4) pe_int (nomark _))
      (pss_one (ps_ret (pe_is D_law_by_label (hr.mono (by decide)) rfl pass0 (pa_cons (pv 0) (pa_cons (pv 1) (pa_cons (pv 2) (pa_cons (pv 4) pa_nil)))))))
      pss_nil)
      (pss_cons (ps_if (pt_cmpR op_lt (pv 4) pe_int (nomark _))
      (pss_one (ps_ret (pe_is D_law_by_steps (hr.mono (by decide)) rfl pass0 (pa_cons (pv 0) (pa_cons (pv 1) (pa_cons (pv 2) (pa_cons (pv 4) pa_nil)))))))
      pss_nil)
      (pss_cons (ps_set (i := 7) nd rfl (Or.inl rfl) (pe_tup (pa_cons pe_str (pa_cons (pe_tup (pa_cons (pe_is D_law_literal (hr.mono (by decide)) rfl pass0 (pa_cons (pv 0) (pa_cons (pv 3) pa_nil))) pa_nil)) pa_nil))))
      (Evl.pss_cut (ps_if (pt_cmpR op_eq (pv 4) pe_int (nomark _))
      (pss_one (ps_set (i := 7) nd rfl (Or.inl rfl) (pe_is D_law_fact (hr.mono (by decide)) rfl pass0 (pa_cons (pv 0) (pa_cons (pv 3) pa_nil)))))
      pss_nil)
      (Evl.pss_cut (ps_if (PW.pt (pw_and (pt_cmpR op_eq (pv 4) pe_int (nomark _)) (pw_and1 (pt_cmpR op_gt (pe_callB (cgLen K) (by rfl) B.n_len PySem.boot_len (pa_cons (pv 2) pa_nil)) pe_int (nomark _)))))
      (pss_cons (ps_set (i := 8) nd rfl (Or.inl rfl) (pe_is D_law_negation (hr.mono (by decide)) rfl pass0 (pa_cons (pe_is D_law_fact_of (hr.mono (by decide)) rfl pass0 (pa_cons (pv 2) (pa_cons (pe_is D_law_draw (hr.mono (by decide)) rfl pass0 (pa_cons (pv 0) (pa_cons (pe_callB (cgLen K) (by rfl) B.n_len PySem.boot_len (pa_cons (pv 2) pa_nil)) pa_nil))) pa_nil))) pa_nil)))
      (pss_one (ps_if (pt_cmpR cg_notN (pv 8) pe_non (nomark _))
      (pss_one (ps_set (i := 7) nd rfl (Or.inl rfl) (pv 8)))
      pss_nil)))
      pss_nil)
      (pss_one (ps_ret (pe_tup (pa_cons (pv 7) (pa_cons pe_str pa_nil))))))))))))), ?_⟩
    try dsimp only [L2.cxOf, L2.Cx.nox, L2.Cx.wish]
    rw [st_law_step]
    obtain ⟨pg, w1, w2⟩ := W.w
    obtain ⟨ru, w3, w4⟩ := W.u
    have hul := mapLenP w4
    have hin2 := hin.2
    have s100 := stin_len hin
    have rl : (ru.length : Int) = M.us.length := by omega
    have nww : wa.w ≠ t := nw _ (by simp [WA.all])
    have nwu : wa.u ≠ t := nw _ (by simp [WA.all])
    have up0 : ∀ {f : Fact}, f.sz M.us.length 10000000 40 → f.sz M.us.length (6 * bB) (L + 1) := fun h => h.up (by omega) (by omega)
    walk_at "cg"
    rename_i dr H1 dr0 dr1 T1 k1
    rw [rl]
    have W1 := W.kp1 k1 nw
    have E1 := hE.kp k1 (fun z => nlt (by simpa using z))
    have w11 := k1.get1 nww w1
    have w31 := k1.get1 nwu w3
    have w41 := k1.imAll w4
    clear W hE w1 w2 w3 w4 T
    walk_at "cg"
    refine if_S (fun g => ?_) (fun g => ?_)
    · have mb : LtB (M.us.length : Int) := .of (by omega)
      walk_at "cg"
      rename_i dv H2 dv0 dv1 T2 k2 p3 H3 hp3 s3 k3 p4 H4 hp4 s4 k4
      have K4 := Kp.tr0 k4 k3
      have w14 := K4.get0 (k2.get1 nww w11)
      have w34 := K4.get0 (k2.get1 nwu w31)
      have w44 := K4.imAll (k2.imAll w41)
      have T4 := T2.kp0 K4
      have K4t := Kp.tr0 K4 (Kp.tr1 k2 k1)
      have I4 : Im K H4 (.ref p4) (tmD [(dv, 1)]) := .tup s4 (.cons (k4.im (.tup s3 (.cons (.int _) (.cons (.int _) .nil)))) .nil)
      clear k1 k2 k3 k4 K4 w11 w31 w41 W1 E1 T1 T2 s3 s4
      obtain ⟨z, hz⟩ : ∃ z, M.us[dv.toNat]? = some z := ⟨_, List.getElem?_eq_getElem (by omega)⟩
      obtain ⟨x0, ex, hx⟩ := mapGetJ w44 hz
      rw [Int.toNat_of_nonneg (by omega), Int.zero_add] at ex
      obtain ⟨pz, rfl, sz⟩ := un_at hx
      have one : ∀ (cc j : Int), cc = 1 ∨ cc = -1 → Fact.sz M.us.length 10000000 40 (.row [(dv, cc)] j) := fun cc j hc => sz_row (fun z hz => by
        rw [List.mem_singleton] at hz
        subst hz
        rcases hc with rfl | rfl <;> (simp only; omega)) (by rcases hc with rfl | rfl <;> simp [wt, wtL]) (by decide) (by simp) (by decide)
      refine r_ixL w34 ex ?_
      walk_at "cg"
      rename_i p5 H5 hp5 s5 k5
      have F5 : FactAt K H5 p5 (.row [(dv, 1)] z.2.2) := row_mk s5 (k5.im I4)
      have w15 := k5.get0 w14
      have w35 := k5.get0 w34
      have w45 := k5.imAll w44
      have sz5 := k5.tup sz
      have T5 := T4.kp0 k5
      have KK := Kp.tr0 k5 K4t
      clear k5 K4t T4 w14 w34 w44 s5 hx sz I4
      refine ⟨fun σ' H' => ∃ (pf : Addr) (cc j : Int), σ' = [some (.ref t), some (.ref wa.w), some (.ref l), some (.int (M.us.length : Int)), some (.int dr), some (.int dv), some (.ref pf), none, none] ∧ (cc = 1 ∨ cc = -1) ∧ FactAt K H' pf (.row [(dv, cc)] j) ∧ Tp t c H' ∧ Kp [t] H H', ?_, ?_⟩
      · walk_at "cg"
        rename_i d6 H6 d60 d61 T6 k6
        refine if_S (fun g2 => ?_) (fun g2 => ?_)
        · have w16 := k6.get1 nww w15
          have w36 := k6.get1 nwu w35
          have sz6 := k6.tup sz5
          have K6 := Kp.tr1 k6 KK
          clear k6 KK w15 w35 sz5 T5 F5
          walk_at "cg"
          rename_i p7 H7 hp7 s7 k7 p8 H8 hp8 s8 k8
          have sz8 := k8.tup (k7.tup sz6)
          refine r_ixL (k8.get0 (k7.get0 w36)) ex ?_
          walk_at "cg"
          rename_i p9 H9 hp9 s9 k9
          exact ⟨p9, 0 - 1, _, rfl, .inr (by decide), row_mk s9 (k9.im (.tup s8 (.cons (k8.im (.tup s7 (.cons (.int _) (.cons (.int _) .nil)))) .nil))), ((T6.kp0 k7).kp0 k8).kp0 k9, Kp.tr0 k9 (Kp.tr0 k8 (Kp.tr0 k7 K6))⟩
        · walk_at "cg"
          exact ⟨p5, 1, _, rfl, .inl rfl, k6.im F5, T6, Kp.tr1 k6 KK⟩
      clear F5 T5 KK w15 w35 w45 sz5
      rintro σ' H6 ⟨pf, cc, j, rfl, hc, F6, T6, K6⟩
      walk_at "cg"
      refine ⟨t, c, pf, [(dv, cc)], j, rfl, T6, F6, fun p7 k7' H7 F7 T7 k7 => ?_⟩
      have K7 := Kp.tr1 k7 K6
      clear k7 K6 T6 F6
      walk_at "cg"
      rename_i p8 H8 hp8 s8 k8
      exact k p8 ⟨.row [(dv, cc)] k7', .bound dv⟩ H8 (step_mk (s := ⟨.row [(dv, cc)] k7', .bound dv⟩) s8 (k8.im F7) (.cons (.int _) .nil)) ⟨up0 (one cc k7' hc), trivial⟩ (T7.kp0 k8) (Kp.tr0 k8 K7)
    walk_at "cg"
    clear w11 w31 w41
    refine if_S (fun g2 => ?_) (fun g2 => ?_)
    · walk_at "cg"
      exact ⟨t, c, l, wa, M, dr, ss, bB, L, rfl, T1, W1, ok, nw, E1, nlt, hin, by omega, by omega, fun p st H2 I2 o2 T2 k2 => k p st H2 I2 o2 T2 (Kp.tr1 k2 k1)⟩
    walk_at "cg"
    refine if_S (fun g3 => ?_) (fun g3 => ?_)
    · walk_at "cg"
      exact ⟨t, c, l, wa, M, dr, ss, bB, L, rfl, T1, W1, ok, nw, E1, nlt, hin, by omega, by omega, fun p st H2 I2 o2 T2 k2 => k p st H2 I2 o2 T2 (Kp.tr1 k2 k1)⟩
    clear W1
    walk_at "cg"
    refine ⟨t, c, _, rfl, T1, by omega, by omega, fun p2 l2 H2 L2 lf2 T2 k2 => ?_⟩
    have E2 := E1.kp k2 (fun z => nlt (by simpa using z))
    have K2 := Kp.tr1 k2 k1
    clear k1 k2 E1 T1
    walk_at "cg"
    rename_i p3 H3 hp3 s3 k3 p4 H4 hp4 s4 k4
    have F4 : FactAt K H4 p4 (.any [l2]) := any_mk s4 (k4.im (.tup s3 (.cons (k3.im (lit_mk L2)) .nil)))
    have sz4 : Fact.sz M.us.length (6 * bB) (L + 1) (.any [l2]) := up0 (sz_any (fun z hz => by
        rw [List.mem_singleton] at hz
        subst hz
        unfold litFit at lf2
        omega) (by decide) (by simp) (by decide))
    have E4 := (E2.kp0 k3).kp0 k4
    have T4 := (T2.kp0 k3).kp0 k4
    have K4 := Kp.tr0 k4 (Kp.tr0 k3 K2)
    clear k3 k4 s3 s4 L2 E2 T2 K2
    refine ⟨fun σ' H' => ∃ (pf : Addr) (f : Fact), σ' = [some (.ref t), some (.ref wa.w), some (.ref l), some (.int (M.us.length : Int)), some (.int dr), none, none, some (.ref pf), none] ∧ FactAt K H' pf f ∧ f.sz M.us.length (6 * bB) (L + 1) ∧ EntAt K H' l (ss.map some) ∧ Tp t c H' ∧ Kp [t] H H', ?_, ?_⟩
    · walk_at "cg"
      refine if_S (fun g4 => ?_) (fun g4 => ?_)
      · walk_at "cg"
        refine ⟨t, c, _, rfl, T4, by omega, by omega, fun p5 f5 H5 F5 ok5 le5 ln5 T5 k5 => ?_⟩
        walk_at "cg"
        exact ⟨p5, f5, rfl, F5, up0 (sz_law (n := M.us.length) (by omega) ok5 le5 ln5), E4.kp k5 (fun z => nlt (by simpa using z)), T5, Kp.tr1 k5 K4⟩
      · walk_at "cg"
        exact ⟨p4, _, rfl, F4, sz4, E4, T4, K4⟩
    clear F4 sz4 E4 T4 K4
    rintro σ' H5 ⟨pf, f, rfl, F5, sz5, E5, T5, K5⟩
    refine ⟨fun σ' H' => ∃ (pf : Addr) (f : Fact) (x1 : Option V), σ' = [some (.ref t), some (.ref wa.w), some (.ref l), some (.int (M.us.length : Int)), some (.int dr), none, none, some (.ref pf), x1] ∧ FactAt K H' pf f ∧ f.sz M.us.length (6 * bB) (L + 1) ∧ Tp t c H' ∧ Kp [t] H H', ?_, ?_⟩
    · obtain ⟨refs, el, A⟩ := E5.ex
      have hrl := stp_len A
      walk_at "cg"
      refine if_S (fun g4 => ?_) (fun g4 => ?_)
      · walk_at "cg"
        refine if_S (fun g5 => ?_) (fun g5 => ?_)
        · have mb : LtB (refs.length : Int) := .of (by omega)
          walk_at "cg"
          rename_i d6 H6 d60 d61 T6 k6
          refine ⟨l, d6, ss, rfl, E5.kp k6 (fun z => nlt (by simpa using z)), fun p7 f7 H7 F7 hf k7 => ?_⟩
          have szf := facts0_sz hin hf
          have G7 := k7.im (k6.im F5)
          have T7 := T6.kp0 k7
          have K7 := Kp.tr0 k7 (Kp.tr1 k6 K5)
          clear k6 k7 T6 K5 T5 F5 E5 el A
          walk_at "cg"
          refine ⟨p7, f7, rfl, F7, ok_tms szf.ok, fun x8 H8 hx k8 => ?_⟩
          have G8 := k8.im G7
          have T8 := T7.kp0 k8
          have K8 := Kp.tr0 k8 K7
          cases e : f7.ngt with
          | none =>
            rw [e] at hx
            cases hx
            walk_at "cg"
            exact ⟨pf, f, _, rfl, G8, sz5, T8, K8⟩
          | some g7 =>
            rw [e] at hx
            cases hx with
            | some hg =>
            walk_at "cg"
            exact ⟨_, g7, _, rfl, hg, (sz_neg szf (by omega) (by omega) e).up (by omega) (by omega), T8, K8⟩
        · walk_at "cg"
          exact ⟨pf, f, _, rfl, F5, sz5, T5, K5⟩
      · walk_at "cg"
        exact ⟨pf, f, _, rfl, F5, sz5, T5, K5⟩
    clear F5 sz5 E5 T5 K5
    rintro σ' H6 ⟨pf, f, x1, rfl, F6, sz6, T6, K6⟩
    walk_at "cg"
    rename_i p7 H7 hp7 s7 k7
    exact k p7 ⟨f, .suppose⟩ H7 (step_mk (s := ⟨f, .suppose⟩) s7 (k7.im F6) .nil) ⟨sz6, trivial⟩ (T6.kp0 k7) (Kp.tr0 k7 K6)

end
/-! ### enumerate over a tuple -/
def IteT (K : PySem.W.Frag) (a : Addr) : It :=
  ⟨fun i H => ∃ (xs : List V) (x : V), SqT K H a xs ∧ xs[i]? = some x, fun i H v H' => ∃ T x, v = .ref T ∧ H T = none ∧ H' = upd H T (.tup [.int (i : Nat), x]) ∧ ∀ xs, SqT K H a xs → xs[i]? = some x, fun i H => ∃ xs : List V, SqT K H a xs ∧ xs.length ≤ i⟩
theorem stopDraws {prog : Program} {w : World} {A : Around} (hh : A.handled = none) (it t : Addr) (i : Nat) (items : Array Value) (hx : items[i]? = none) :
    Draws prog w A it [it, t] i (fun _ _ => True) (fun j h => j = i ∧ h.IsTupleIter it t i ∧ h.IsTuple t items) where
  live := fun _ _ st => let ⟨o, ho, _⟩ := st.2.1; ⟨o, ho⟩
  frame := fun _ _ _ st hk => ⟨st.1, st.2.1.at fun o e => hk it (by simp) o e, st.2.2.at fun o e => hk t (by simp) o e⟩
  item := fun j s Q E hj st hQ => absurd st.1 (Nat.ne_of_lt hj)
  done := fun s Q E st hE => wpAny_nextOf_tuple_end hh st.2.1 st.2.2 hx hE
theorem turn_enumT {P : Program} {w : World} {K : PySem.W.Frag} {elts : List Expr} {kk : Nat} {tpos : Pos} (a e it : Addr) :
    Turn P w K (.Tuple elts kk tpos) (IteT K a) [e, it] e (fun i h => (∃ old, IsEnum h e it ((i : Nat) : Int) old) ∧ h.IsTupleIter it a i ∧ e ≠ it) where
  mem := by simp
  obj := fun i h st b hb => by
    obtain ⟨⟨old, he⟩, ⟨o, ho, hc, hd⟩, _⟩ := st
    have e' : b = e ∨ b = it := by simpa using hb
    rcases e' with z | z
    · rw [z]; exact ⟨_, he, fun v q => nomatch q⟩
    · rw [z]; exact ⟨o, ho, fun v q => by rw [hd] at q; cases q⟩
  keep := fun i h h' st k => let ⟨⟨old, he⟩, hi, hne⟩ := st; ⟨⟨old, k e (by simp) _ he⟩, hi.at fun o q => k it (by simp) o q, hne⟩
  item := by
    intro X hP hw hK hc i pins s σ H E I hf st hg
    subst hP hw hK
    obtain ⟨⟨old, he⟩, hit, hne⟩ := st
    obtain ⟨xs, x, hq, hx⟩ := hg
    obtain ⟨its, rv, p, hz⟩ := I.tuple hq
    obtain ⟨u, hu, ru⟩ := rv.get hx
    have hel : e < s.heap.objs.size := Heap.lt_size he
    have hil : it < s.heap.objs.size := by obtain ⟨_, q, _⟩ := hit; exact Heap.lt_size q
    have pT : s.heap.IsTuple a its.toArray := p
    have nai : a ≠ it := fun z => by
      obtain ⟨o1, e1, c1, _⟩ := pT
      obtain ⟨o2, e2, c2, _⟩ := hit
      rw [z, e2] at e1
      cases e1
      rw [c2] at c1
      exact absurd (Value.type.inj c1) (by decide)
    have nea : e ≠ a := fun z => by
      obtain ⟨o1, e1, c1, _⟩ := pT
      have h2 := he
      unfold IsEnum at h2
      rw [z, e1] at h2
      cases h2
      exact absurd (Value.type.inj c1) (by decide)
    have hlt : i < its.toArray.size := by
      obtain ⟨h, _⟩ := List.getElem?_eq_some_iff.mp hu
      simpa using h
    refine wpAny_pyNext_enum_itemC (Draws.tuple (A := X.A.in1) (show X.A.in1.handled = none from I.ok.hd hc) it a nai its.toArray) he ⟨hit, pT⟩ hlt hne (by simp [hne, nea]) fun x1 h' tk hP ho hs' hT hsz hk => ?_
    have ex1 : x1 = u := by
      have hP2 : its[i]? = some x1 := by simpa using hP
      rw [hu] at hP2
      cases hP2
      rfl
    subst ex1
    refine ⟨_, rfl, wpAny_letOwnedTupleGo_enum (s := { s with heap := h', toks := tk + 1 }) ho fun h'' he' sb => ?_⟩
    have hT2 : h''.get? s.heap.objs.size = some { cls := .type "tuple", data := .seq #[.int i tk, x1] } := (sb.2 _ (Nat.ne_of_gt hel)).trans hT
    have new : ObjOk X.prog X.w (upd H s.heap.objs.size (.tup [.int (i : Nat), x])) h'' s.heap.objs.size (.tup [.int (i : Nat), x]) :=
      ⟨by show 2 ≤ sizeLine; decide, [.int i tk, x1], .cons ⟨_, rfl⟩ (.cons ru .nil), ⟨_, hT2, rfl, _, rfl⟩⟩
    have I1 : Inv X pins σ (upd H s.heap.objs.size (.tup [.int (i : Nat), x])) { s with heap := h'', toks := tk + 1 } :=
      I.turnedNew (ch := [e, it]) (fun b ob hb q => (sb.2 b (fun z => hb (by simp [z]))).trans (hk b ob (fun z => hb (by simp [z])) (fun z => hb (by simp [z])) q)) hf (Nat.le_refl _) new
    refine ⟨.ref s.heap.objs.size, _, I1, rfl, ⟨_, x, rfl, I.hok.fresh (Nat.le_refl _), rfl, fun ys hy => by rw [I.tuple_inj hy hq]; exact hx⟩, ⟨⟨x1, ?_⟩, hs'.1.at fun o q => (sb.2 it (Ne.symm hne)).trans q, hne⟩, fun b hb => ?_⟩
    · have e1 : ((i + 1 : Nat) : Int) = (i : Int) + 1 := by omega
      rw [e1]; exact he'
    · have hb' : b < s.heap.objs.size := by
        have e' : b = e ∨ b = it := by simpa using hb
        rcases e' with z | z
        · rw [z]; exact hel
        · rw [z]; exact hil
      rw [upd_ne (Nat.ne_of_lt hb')]
      exact (hf b hb).1
  done := by
    intro X hP hw hK hc i pins s σ H E I hf st hg
    subst hP hw hK
    obtain ⟨⟨old, he⟩, hit, hne⟩ := st
    obtain ⟨xs, hq, hx⟩ := hg
    obtain ⟨its, rv, p, hz⟩ := I.tuple hq
    obtain ⟨f0, f1, f2, f3, f4, f5⟩ := hf it (by simp)
    have hl := rv.length
    exact wpAny_pyNext_enum_endD (stopDraws (A := X.A.in1) (show X.A.in1.handled = none from I.ok.hd hc) it a i its.toArray (by simp; omega)) he ⟨rfl, hit, p⟩ fun h' eb => ⟨rfl, I.turned (t' := s.toks) (fun b o hb q => eb b o hb q) f0 f1 f3 f4 f5⟩
  self := fun A i s Q E st h => let ⟨⟨_, he⟩, _⟩ := st; wpAny_pyIter_enum he h
set_option maxHeartbeats 1000000 in
theorem meets_enumerate_new1 {v : Value} {o : Obj} {H : Heap → Prop} (B : Begins v o H) :
    Meets (Builtin.«enumerate.__new__» ⟨[.type "enumerate", v], []⟩) (fun _ R s => H s.heap ∧
      R (.ok (.ret (.ref (s.heap.push o).objs.size))) { s with heap := (s.heap.push o).push { cls := .type "enumerate", data := .fields #[.none, .bool false, .ref s.heap.objs.size, rawInt 0, .none, .none] } }) :=
  .of_wp fun prog w A R s h => by
    obtain ⟨hp, g, d, tk, os⟩ := s; obtain ⟨h1, h⟩ := h
    have hsub := sub_enumerate
    have q1 : ∀ {A' : Around} {E : Value → Shared → Prop} {Q : Value → Shared → Prop}, Q (.ref hp.objs.size) ⟨hp.push o, g, d, tk, os⟩ → wpAny (model prog w) A' (pyIter v) Q E ⟨hp, g, d, tk, os⟩ :=
      fun q => B.iter prog w _ _ ⟨hp, g, d, tk, os⟩ _ h1 q
    wp_walk using q1
    refine wpAny_stack_any fun st => wpAny_pure ?_
    split
    · rename_i c _ _ _ _ _
      cases (c == Value.type "enumerate")
      · wp_walk using q1
        exact ⟨_, rfl, h⟩
      · wp_walk using q1
        exact ⟨_, rfl, h⟩
    · wp_walk using q1
      exact ⟨_, rfl, h⟩
theorem call_enumerate_tuple {prog : Program} {w : World} {A : Around} {E : Value → Shared → Prop} {s : Shared} {l : Addr} {items : Array Value} {Q : Value → Shared → Prop} (hL : s.heap.IsTuple l items)
    (h : ∀ h', IsEnum h' (s.heap.objs.size + 1) s.heap.objs.size 0 .none → h'.IsTupleIter s.heap.objs.size l 0 → h'.objs.size = s.heap.objs.size + 2 →
      (∀ b o, s.heap.get? b = some o → h'.get? b = some o) → Q (.ref (s.heap.objs.size + 1)) { s with heap := h' }) :
    wpAny (model prog w) A (call (.type "enumerate") [.ref l]) Q E s := by
  refine callType_new F.called_enumerate (by decide) (F.typeCall_enumerate_1 _) (F.newCall_enumerate_1 _) (fun obj => F.args_object_init_2 obj _) F.entry_enumerate_new
    (meets_enumerate_new1 (begins_tuple l items)) ⟨hL, ?_⟩
  have hz : (s.heap.push { cls := .type "tuple_iterator", data := .fields #[.ref l, .int 0 0] }).objs.size = s.heap.objs.size + 1 := Heap.size_push ..
  show _ ∧ _
  rw [hz]
  have he : IsEnum ((s.heap.push { cls := .type "tuple_iterator", data := .fields #[.ref l, .int 0 0] }).push
      { cls := .type "enumerate", data := .fields #[.none, .bool false, .ref s.heap.objs.size, rawInt 0, .none, .none] }) (s.heap.objs.size + 1) s.heap.objs.size 0 .none := by
    have := Heap.get?_push_size (s.heap.push { cls := .type "tuple_iterator", data := .fields #[.ref l, .int 0 0] })
      (o := { cls := .type "enumerate", data := .fields #[.none, .bool false, .ref s.heap.objs.size, rawInt 0, .none, .none] }) rfl
    rw [hz] at this; exact this
  refine ⟨⟨_, he, rfl⟩, h _ he ⟨_, Heap.get?_push_of_some _ (Heap.get?_push_size _ rfl), rfl, rfl⟩ (by rw [Heap.size_push, hz]) fun b o x => Heap.get?_push_of_some _ (Heap.get?_push_of_some _ x)⟩
def iEnumT (K : PySem.W.Frag) (ta : TA) : TI := fun σ H R => ta σ H fun vs H1 => ∃ a xs, vs = [.ref a] ∧ SqT K H1 a xs ∧ R (IteT K a) H1
open PySem.Spec PyProof.Rows in
theorem pi_enumT {X : Cx} {e : Expr} {ta : TA} {p pos tpos : Pos} {elts : List Expr} {kk : Nat} (hg : Gl X "enumerate") (hm : X.mg "enumerate" = none) (ha : PA X [e] ta) (hs : starEach [e] X.env = [(false, eval e X.env)] := by rfl) :
    PI X (.Tuple elts kk tpos) (.Call (.Name "enumerate" p) [e] [] pos) (iEnumT X.K ta) := by
  refine ⟨fun pins s σ H R I h => ?_⟩
  refine Call_ (ld_blt I hg hm PyProof.Rows.boot_enumerate (PyProof.Rows.callWith_type1 (thn (ha.run pos pins s σ H _ I h) fun us s1 ⟨vs, H1, I1, r1, q1⟩ => ?_) hs rfl))
  obtain ⟨a, xs, ex, hq, q⟩ := q1
  subst ex
  cases r1 with
  | cons r rr =>
    cases rr
    cases r
    obtain ⟨its, rv, p', hz⟩ := I1.tuple hq
    refine call_enumerate_tuple (show s1.heap.IsTuple a its.toArray from p') fun h' he hit hsz hk => wpAny_pyIter_enum he ?_
    have I2 : Inv X pins σ H1 { s1 with heap := h' } := I1.kept (t' := s1.toks) hk
    refine ⟨s1.heap.objs.size + 1, [s1.heap.objs.size + 1, s1.heap.objs.size], _, _, H1, rfl, I2, turn_enumT a (s1.heap.objs.size + 1) s1.heap.objs.size, ⟨⟨.none, he⟩, hit, Nat.succ_ne_self _⟩, fun b hb => ?_, q⟩
    have e' : b = s1.heap.objs.size + 1 ∨ b = s1.heap.objs.size := by simpa using hb
    have hle : s1.heap.objs.size ≤ b := by
      rcases e' with z | z
      · rw [z]; exact Nat.le_add_right _ _
      · rw [z]; exact Nat.le_refl _
    exact I1.fpOk hle (I1.hok.fresh hle)
theorem walk_enumT {K : PySem.W.Frag} {a : Addr} {xs : List V} : Walk (IteT K a) xs.length (fun H => SqT K H a xs) (YPair (fun i => some (.int (i : Nat))) (fun i => xs[i]?)) := by
  refine ⟨fun i _ hi q => ⟨xs, xs[i], q, by simp [hi]⟩, fun _ q => ⟨xs, q, Nat.le_refl _⟩, fun i H v H' _ q y => ?_⟩
  obtain ⟨T, x, h1, h2, h3, h4⟩ := y
  exact ⟨T, .int (i : Nat), x, h1, h2, h3, rfl, h4 xs q⟩
theorem piEnumT {X : Cx} (K : PySem.W.Frag) {e : Expr} {ta : TA} {p pos tpos : Pos} {elts : List Expr} {kk : Nat} (hg : Gl X "enumerate") (hm : X.mg "enumerate" = none) (ha : PA X [e] ta) (h : X.K = K := by rfl)
    (hs : starEach [e] X.env = [(false, eval e X.env)] := by rfl) : PI X (.Tuple elts kk tpos) (.Call (.Name "enumerate" p) [e] [] pos) (iEnumT K ta) := h ▸ pi_enumT hg hm ha hs
def enumS (K : PySem.W.Frag) (vs : List V) (H : Hp) (R : It → Hp → Prop) : Prop := ∃ a xs, vs = [.ref a] ∧ SqT K H a xs ∧ R (IteT K a) H
theorem r_enumT {K : PySem.W.Frag} {H : Hp} {R : It → Hp → Prop} {a : Addr} {xs : List V} (h1 : SqT K H a xs) (q : R (IteT K a) H) : enumS K [.ref a] H R := ⟨a, xs, rfl, h1, q⟩
instance s_enumT {K : PySem.W.Frag} {ta : TA} {σ : St} {H : Hp} {R : It → Hp → Prop} : Stp (iEnumT K ta σ H R) (ta σ H fun vs H1 => enumS K vs H1 R) := ⟨id⟩
section
variable {K : PySem.W.Frag} {p : Addr} {g : TG} {tb : TS} {nx bk ct : St → Hp → Prop} {rt : VK} {σ : St} {H : Hp}
theorem r_forET (xs : List V) (Pv : Nat → St → Hp → Prop) (h0 : Pv 0 σ H) (hG : ∀ i σ' H', Pv i σ' H' → SqT K H' p xs)
    (hs : ∀ (i : Nat) (x : V) (T : Addr) σ' H1 H2, xs[i]? = some x → Pv i σ' H1 → SqT K H2 T [.int (i : Int), x] → Kp [] H1 H2 → g (.ref T) σ' H2 fun σ2 H3 => tb ⟨Pv (i + 1), rt, nx, Pv (i + 1)⟩ σ2 H3) (hd : ∀ σ' H', Pv xs.length σ' H' → nx σ' H') : forS (IteT K p) g tb ⟨nx, rt, bk, ct⟩ σ H :=
  for_it walk_enumT Pv h0 (fun i σ' H' _ h => hG i σ' H' h) (fun i x σ' H1 H2 _ h y => by
    obtain ⟨T, a, b, rfl, hT, rfl, ha, hb⟩ := y
    cases ha
    exact hs i b T σ' H1 _ hb h (SqT.of upd_same) (Kp.new hT)) hd
end

def bndB (i : Nat) : Nat := 10000000 * 6 ^ i
theorem bndB_le {i : Nat} (h : i ≤ 13) : 10000000 ≤ bndB i ∧ 6 * bndB i ≤ 1000000000000000000 ∧ bndB (i + 1) = 6 * bndB i := by
  have h1 : 6 ^ i ≤ 6 ^ 13 := Nat.pow_le_pow_right (by decide) h
  have h0 : 0 < 6 ^ i := Nat.pow_pos (by decide)
  have e : (6 : Nat) ^ 13 = 13060694016 := by decide
  unfold bndB
  refine ⟨by omega, by omega, ?_⟩
  rw [Nat.pow_succ]
  omega
theorem stin_up {n i : Nat} {ss : List Step} (h : StIn n (bndB i) (40 + i) ss) (hi : i ≤ 12) : StIn n (bndB (i + 1)) (40 + (i + 1)) ss := by
  have q := bndB_le (i := i) (by omega)
  have q2 := bndB_le (i := i + 1) (by omega)
  refine ⟨fun s hs => (h.1 s hs).up (by omega) (by omega), q2.1, q2.2.1, by omega, by omega, h.2.2.2.2.2⟩
theorem stin_app {n i : Nat} {ss : List Step} {st : Step} (h : StIn n (bndB i) (40 + i) ss) (hi : i ≤ 12) (hl : ss.length ≤ i) (o : StepOk n (6 * bndB i) (40 + i + 1) st) : StIn n (bndB (i + 1)) (40 + (i + 1)) (ss ++ [st]) := by
  have q := bndB_le (i := i) (by omega)
  have u := stin_up h hi
  refine ⟨fun s hs => ?_, u.2.1, u.2.2.1, u.2.2.2.1, u.2.2.2.2.1, u.2.2.2.2.2.1, u.2.2.2.2.2.2.1, by rw [List.length_append]; simp; omega⟩
  rcases List.mem_append.mp hs with h9 | h9
  · exact u.1 s h9
  · rw [List.mem_singleton] at h9
    subst h9
    exact o.1.up (by omega) (by omega)

def plainR : Rule → Prop
  | .suppose => False
  | .cases _ _ _ _ => False
  | _ => True
def getU (acc : List (List Int)) (i : Int) : List Int := acc.getD i.toNat []
def behind (acc : List (List Int)) (st : Step) : List Int := match st.r with
  | .suppose => [(acc.length : Int)]
  | .cases i j s t => (getU acc i).filter (fun k => decide (k ≠ s)) ++ (getU acc j).filter (fun k => decide (k ≠ t))
  | r => r.prem.flatMap (getU acc)
def undOf (acc : List (List Int)) (st : Step) : List Int := (upTo (acc.length + 1)).filter fun k => decide (k ∈ behind acc st)
def und (ss : List Step) : List (List Int) := ss.foldl (fun acc st => acc ++ [undOf acc st]) []
theorem und_app (ss : List Step) (st : Step) : und (ss ++ [st]) = und ss ++ [undOf (und ss) st] := by
  unfold und
  rw [List.foldl_append]
  rfl
theorem und_fold : ∀ (tt : List Step) (acc : List (List Int)), ∃ xs, tt.foldl (fun acc st => acc ++ [undOf acc st]) acc = acc ++ xs ∧ xs.length = tt.length
  | [], acc => ⟨[], by simp, rfl⟩
  | t :: tt, acc => by
    obtain ⟨xs, e, l⟩ := und_fold tt (acc ++ [undOf acc t])
    exact ⟨undOf acc t :: xs, by rw [List.foldl_cons, e, List.append_assoc]; rfl, by rw [List.length_cons, List.length_cons, l]⟩
theorem und_len (ss : List Step) : (und ss).length = ss.length := by
  obtain ⟨xs, e, l⟩ := und_fold ss []
  unfold und
  rw [e, List.nil_append, l]
theorem und_pre (ss tt : List Step) : ∃ xs, und (ss ++ tt) = und ss ++ xs := by
  obtain ⟨xs, e, _⟩ := und_fold tt (und ss)
  refine ⟨xs, ?_⟩
  unfold und at e ⊢
  rw [List.foldl_append, e]
theorem und_take {ss : List Step} {i : Nat} {st : Step} (h : ss[i]? = some st) : (und ss)[i]? = some (undOf (und (ss.take i)) st) := by
  have hi := (List.getElem?_eq_some_iff.mp h).1
  have e : ss = (ss.take i ++ [st]) ++ ss.drop (i + 1) := by
    rw [List.append_assoc, List.singleton_append]
    have := List.getElem_cons_drop (as := ss) (i := i) hi
    rw [(List.getElem?_eq_some_iff.mp h).2] at this
    rw [this, List.take_append_drop]
  obtain ⟨xs, e2⟩ := und_pre (ss.take i ++ [st]) (ss.drop (i + 1))
  have el : (und (ss.take i)).length = i := by rw [und_len, List.length_take]; omega
  rw [e, e2, und_app, List.append_assoc, List.getElem?_append_right (by omega), el, Nat.sub_self]
  have e3 : (List.take i (ss.take i ++ [st] ++ ss.drop (i + 1))) = ss.take i := by rw [← e]
  rw [e3]
  rfl
theorem und_get {ss : List Step} {i : Nat} {j : Int} (h0 : 0 ≤ j) (h1 : j < i) (hi : i ≤ ss.length) : getU (und (ss.take i)) j = getU (und ss) j := by
  obtain ⟨xs, e⟩ := und_pre (ss.take i) (ss.drop i)
  rw [List.take_append_drop] at e
  unfold getU
  rw [e, List.getD_eq_getElem?_getD, List.getD_eq_getElem?_getD, List.getElem?_append_left (by rw [und_len, List.length_take]; omega)]
theorem und_rng {ss : List Step} {j k : Int} (h0 : 0 ≤ j) (hk : k ∈ getU (und ss) j) : 0 ≤ k ∧ k ≤ j := by
  unfold getU at hk
  rw [List.getD_eq_getElem?_getD] at hk
  cases e : ss[j.toNat]? with
  | none =>
    have : (und ss)[j.toNat]? = none := by
      rw [List.getElem?_eq_none_iff, und_len]
      exact List.getElem?_eq_none_iff.mp e
    rw [this] at hk
    cases hk
  | some st =>
    rw [und_take e] at hk
    have hk2 : k ∈ undOf (und (ss.take j.toNat)) st := hk
    unfold undOf at hk2
    have := mem_upTo.mp (List.mem_filter.mp hk2).1
    have hl := (List.getElem?_eq_some_iff.mp e).1
    rw [und_len, List.length_take] at this
    omega
def spUnder (K : PySem.W.Frag) : Sp := fun vs H Q _ => ∃ (l : Addr) (refs : List V) (ss : List Step), vs = [.ref l] ∧ H l = some (.lst refs) ∧ ImAll K H refs (ss.map Step.d) ∧ ss.length ≤ 60 ∧ (∀ s ∈ ss, s.r.num) ∧ (∀ (i : Nat) st, ss[i]? = some st → ∀ j ∈ st.r.prem, 0 ≤ j ∧ j < i) ∧ ∀ (p : Addr) (us : List V) H', H' p = some (.lst us) → ImAll K H' us ((und ss).map intsD) → Kp [] H H' → Q (.ref p) H'

theorem und_le (ss : List Step) (h : ss.length ≤ 60) : ∀ y ∈ und ss, y.length ≤ 61 := fun y hy => by
  obtain ⟨i, hi⟩ := List.getElem?_of_mem hy
  have hl := (List.getElem?_eq_some_iff.mp hi).1
  rw [und_len] at hl
  have e := und_take (ss := ss) (i := i) (List.getElem?_eq_getElem hl)
  rw [hi] at e
  cases e
  unfold undOf
  refine Nat.le_trans (List.length_filter_le _ _) ?_
  have e2 : (upTo ((und (ss.take i)).length + 1)).length = (und (ss.take i)).length + 1 := by simp [upTo]
  rw [e2, und_len, List.length_take]
  omega
theorem plain_name1 {r : Rule} (h : plainR r) : ¬ r.name = Str.ofString "suppose" := by
  cases r <;> first | exact h.elim | (simp only [Rule.name]; decide +kernel)
theorem plain_name2 {r : Rule} (h : plainR r) : ¬ r.name = Str.ofString "cases" := by
  cases r <;> first | exact h.elim | (simp only [Rule.name]; decide +kernel)
theorem behind_plain {acc : List (List Int)} {st : Step} (h : plainR st.r) : behind acc st = st.r.prem.flatMap (getU acc) := by
  obtain ⟨f, r⟩ := st
  cases r <;> first | exact h.elim | rfl
theorem prem_len {r : Rule} (h : r.num) : r.prem.length ≤ 60 := by
  cases r with
  | sum ps => simpa [Rule.prem] using h.1
  | look x is => exact h
  | unit is => exact h
  | _ => simp [Rule.prem]
theorem flat_tk {l : List Int} {f : Int → List Int} {i : Nat} {x : Int} (h : l[i]? = some x) : (l.take (i + 1)).flatMap f = (l.take i).flatMap f ++ f x := by
  rw [List.take_add_one, h, List.flatMap_append]
  simp
theorem fm_ne (us : List Int) (s : Int) : us.filterMap (fun k => if k = s then none else some (PyData.int k)) = (us.filter fun k => decide (k ≠ s)).map PyData.int := by
  induction us with
  | nil => rfl
  | cons u us ih =>
    rw [List.filterMap_cons, List.filter_cons]
    by_cases g : u = s
    · rw [if_pos g, if_neg (by simpa using g), ← ih]
    · rw [if_neg g, if_pos (by simpa using g), List.map_cons, ← ih]
theorem labB_open7 {K : PySem.W.Frag} {H : Hp} {x : V} {b : Str × Body} (h : Im K H x (labD b)) : ∃ p q, x = .ref p ∧ SqT K H p [.str b.1, .ref q] ∧ BodyAt K H q b.2 := labB_open h

section
variable {P : Program} {w : World} {K : PySem.W.Frag} {mg : Str → Option Value} {base : Heap}
theorem ok_law_refers {f : Addr} {fd : FuncData} (F : Fun K "_law_refers" "_law_refers" s_law_refers f fd) (B : Bi K mg)  : FnOk P w K mg base CX0 1 f fd ["_law_step_here"] (spPrem K) := by
  have nd := sc_law_refers.nd
  refine F.ok sc_law_refers ?len (fun cdv A outer s H vs Q E hr h => ?body)
  case len =>
    rintro vs H Q E ⟨p, s, rfl, _⟩
    rfl
  case body =>
    obtain ⟨p, s, rfl, hs, bd, k⟩ := h
    refine ⟨_, (pss_cons (ps_if (pt_cmpR op_eq (pe_ix (ixT K) (pv 0) pe_int (fun _ _ => rfl)) pe_str (nomark _))
      (pss_one (ps_ret (by exact pe_lc (own := [("_law_i", 1), ("_law_m", 2)]) (g := (gTup K 2 (gCons (gName 1) (gCons (gName 2) gNil)))) (tt := tYes) rfl nd (pi_tup (pe_ix (ixT K) (pv 0) pe_int (fun _ _ => rfl))) (blkOk_by (N := ["_law_step_here", "_law_i", "_law_m"]) (sc := defScope s_law_refers) (by decide +kernel)) (fun _ _ _ _ _ => (pg_tup (n := 2) rfl (pgs_cons (pg_name (i := 1) nd rfl (Or.inl rfl)) (pgs_cons (pg_name (i := 2) nd rfl (Or.inl rfl)) pgs_nil)))) (fun _ _ _ _ _ => pts_nil) (fun _ _ _ _ _ => (pv 1)))))
      pss_nil)
      (pss_cons (ps_if (pt_cmpR (inS K) (pe_ix (ixT K) (pv 0) pe_int (fun _ _ => rfl)) (pe_lst (pa_cons pe_str (pa_cons pe_str (pa_cons pe_str pa_nil)))) rfl)
      (pss_one (ps_ret (pe_lst (pa_cons (pe_ix (ixT K) (pv 0) pe_int (fun _ _ => rfl)) pa_nil))))
      pss_nil)
      (pss_cons (ps_if (PW.pt (pw_or (pt_cmpR op_eq (pe_ix (ixT K) (pv 0) pe_int (fun _ _ => rfl)) pe_str (nomark _)) (pw_or1 (pt_cmpR op_eq (pe_ix (ixT K) (pv 0) pe_int (fun _ _ => rfl)) pe_str (nomark _)))))
      (pss_cons (ps_if (pt_cmpR op_eq (pe_ix (ixT K) (pv 0) pe_int (fun _ _ => rfl)) pe_str (nomark _))
      (pss_one (ps_ret (pe_lst (pa_cons (pe_ix (ixT K) (pv 0) pe_int (fun _ _ => rfl)) pa_nil))))
      pss_nil)
      (pss_one (ps_ret (pe_callTy (cgList K) (by rfl) B.n_list (by decide +kernel) (pa_cons (pe_ix (ixT K) (pv 0) pe_int (fun _ _ => rfl)) pa_nil)))))
      pss_nil)
      (pss_cons (ps_if (pt_cmpR op_eq (pe_ix (ixT K) (pv 0) pe_int (fun _ _ => rfl)) pe_str (nomark _))
      (pss_one (ps_ret (pe_callTy (cgList K) (by rfl) B.n_list (by decide +kernel) (pa_cons (pe_ix (ixT K) (pv 0) pe_int (fun _ _ => rfl)) pa_nil))))
      pss_nil)
      (pss_cons (ps_if (pt_cmpR op_eq (pe_ix (ixT K) (pv 0) pe_int (fun _ _ => rfl)) pe_str (nomark _))
      (pss_one (ps_ret (pe_lst (pa_cons (pe_ix (ixT K) (pv 0) pe_int (fun _ _ => rfl)) (pa_cons (pe_ix (ixT K) (pv 0) pe_int (fun _ _ => rfl)) (pa_cons (pe_ix (ixT K) (pv 0) pe_int (fun _ _ => rfl)) (pa_cons (pe_ix (ixT K) (pv 0) pe_int (fun _ _ => rfl)) pa_nil)))))))
      pss_nil)
      (pss_one (ps_ret (pe_lst pa_nil)))))))), ?_⟩
    try dsimp only [L2.cxOf, L2.Cx.nox, L2.Cx.wish]
    rw [st_law_refers]
    obtain ⟨f, r⟩ := s
    obtain ⟨q, xs, sp, hf, ha⟩ := step_open hs
    cases r with
    | bound v =>
      dsimp only [Rule.name, Rule.args, Rule.prem, Rule.bd] at sp ha k bd
      obtain ⟨_, _, rfl, a1, h2⟩ := ha.c
      obtain rfl := h2.n
      cases a1
      walk_at "cg"
      exact k _ _ (by assumption) (by walk_at "cg kp")
    | given x =>
      dsimp only [Rule.name, Rule.args, Rule.prem, Rule.bd] at sp ha k bd
      obtain ⟨_, _, rfl, a1, h2⟩ := ha.c
      obtain rfl := h2.n
      cases a1
      walk_at "cg"
      exact k _ _ (by assumption) (by walk_at "cg kp")
    | suppose =>
      dsimp only [Rule.name, Rule.args, Rule.prem, Rule.bd] at sp ha k bd
      obtain rfl := ha.n
      walk_at "cg"
      exact k _ _ (by assumption) (by walk_at "cg kp")
    | sum ps =>
      dsimp only [Rule.name, Rule.args, Rule.prem, Rule.bd] at sp ha k bd
      obtain ⟨_, _, rfl, a1, h2⟩ := ha.c
      obtain rfl := h2.n
      obtain ⟨qp, rfl⟩ := a1.isRef
      obtain ⟨ys, s2, i2⟩ := Im.open a1
      walk_at "cg"
      refine lcT_i (xs := ys) (as := ps) (d := tD) s2 i2 (fun z => z.1) (by have : ps.length ≤ 60 := bd; omega) (fun i z x H' R R' hz k2 hx q => ?_) (fun D H' hD eD k2 => ?_)
      · obtain ⟨px, rfl, hs⟩ := term_at hx
        walk_at "cg"
        exact q _ .refl
      · exact k D H' eD k2
    | divide i d =>
      dsimp only [Rule.name, Rule.args, Rule.prem, Rule.bd] at sp ha k bd
      obtain ⟨_, _, rfl, a1, h2⟩ := ha.c
      obtain ⟨_, _, rfl, a2, h2⟩ := h2.c
      obtain rfl := h2.n
      cases a1; cases a2
      walk_at "cg"
      exact k _ _ (by assumption) (by walk_at "cg kp")
    | look x is =>
      dsimp only [Rule.name, Rule.args, Rule.prem, Rule.bd] at sp ha k bd
      obtain ⟨_, _, rfl, a1, h2⟩ := ha.c
      obtain ⟨_, _, rfl, a2, h2⟩ := h2.c
      obtain rfl := h2.n
      cases a1
      obtain ⟨qp, rfl⟩ := a2.isRef
      have s2 := a2.intsT
      walk_at "cg"
      exact k _ _ (by assumption) (by walk_at "cg kp")
    | apart x =>
      dsimp only [Rule.name, Rule.args, Rule.prem, Rule.bd] at sp ha k bd
      obtain ⟨_, _, rfl, a1, h2⟩ := ha.c
      obtain rfl := h2.n
      cases a1
      walk_at "cg"
      exact k _ _ (by assumption) (by walk_at "cg kp")
    | thn x i =>
      dsimp only [Rule.name, Rule.args, Rule.prem, Rule.bd] at sp ha k bd
      obtain ⟨_, _, rfl, a1, h2⟩ := ha.c
      obtain ⟨_, _, rfl, a2, h2⟩ := h2.c
      obtain rfl := h2.n
      cases a1; cases a2
      walk_at "cg"
      exact k _ _ (by assumption) (by walk_at "cg kp")
    | unit is =>
      dsimp only [Rule.name, Rule.args, Rule.prem, Rule.bd] at sp ha k bd
      obtain ⟨_, _, rfl, a1, h2⟩ := ha.c
      obtain rfl := h2.n
      obtain ⟨qp, rfl⟩ := a1.isRef
      have s2 := a1.intsT
      walk_at "cg"
      exact k _ _ (by assumption) (by walk_at "cg kp")
    | cases i j s t =>
      dsimp only [Rule.name, Rule.args, Rule.prem, Rule.bd] at sp ha k bd
      obtain ⟨_, _, rfl, a1, h2⟩ := ha.c
      obtain ⟨_, _, rfl, a2, h2⟩ := h2.c
      obtain ⟨_, _, rfl, a3, h2⟩ := h2.c
      obtain ⟨_, _, rfl, a4, h2⟩ := h2.c
      obtain rfl := h2.n
      cases a1; cases a2; cases a3; cases a4
      walk_at "cg"
      exact k _ _ (by assumption) (by walk_at "cg kp")
    | absurd i =>
      dsimp only [Rule.name, Rule.args, Rule.prem, Rule.bd] at sp ha k bd
      obtain ⟨_, _, rfl, a1, h2⟩ := ha.c
      obtain rfl := h2.n
      cases a1
      walk_at "cg"
      exact k _ _ (by assumption) (by walk_at "cg kp")
    | weaken i =>
      dsimp only [Rule.name, Rule.args, Rule.prem, Rule.bd] at sp ha k bd
      obtain ⟨_, _, rfl, a1, h2⟩ := ha.c
      obtain rfl := h2.n
      cases a1
      walk_at "cg"
      exact k _ _ (by assumption) (by walk_at "cg kp")
theorem ok_law_under {f : Addr} {fd : FuncData} (F : Fun K "_law_under" "_law_under" s_law_under f fd) (B : Bi K mg) (D_law_refers : Is P w K mg base CX0 1 "_law_refers" ["_law_step_here"] (spPrem K)) : FnOk P w K mg base CX0 2 f fd ["_law_steps"] (spUnder K) := by
  have nd := sc_law_under.nd
  refine F.ok sc_law_under ?len (fun cdv A outer s H vs Q E hr h => ?body)
  case len =>
    rintro vs H Q E ⟨l, refs, ss, rfl, _⟩
    rfl
  case body =>
    obtain ⟨l, refs, ss, rfl, el, A, s60, num, prm, k⟩ := h
    refine ⟨_, (pss_cons (ps_set (i := 1) nd rfl (Or.inl rfl) (pe_lst pa_nil))
      (pss_cons (ps_for PassesOwn.never rfl (pi_range1 rfl B.n_range (pa_cons (pe_callB (cgLen K) (by rfl) B.n_len PySem.boot_len (pa_cons (pv 0) pa_nil)) pa_nil)) (pg_name (i := 2) nd rfl (Or.inl rfl))
      (pss_cons (ps_set (i := 3) nd rfl (Or.inr rfl) (pe_ix (ixL K) (pv 0) (pv 2) (fun _ _ => rfl)))
      (pss_cons (ps_set (i := 4) nd rfl (Or.inr rfl) (pe_lst pa_nil))
      (Evl.pss_cut (ps_if (pt_cmpR op_eq (pe_ix (ixT K) (pv 3) pe_int (fun _ _ => rfl)) pe_str (nomark _))
      (pss_one (ps_set (i := 4) nd rfl (Or.inr rfl) (pe_lst (pa_cons (pv 2) pa_nil))))
      (pss_one (ps_if (pt_cmpR op_eq (pe_ix (ixT K) (pv 3) pe_int (fun _ _ => rfl)) pe_str (nomark _))
      (pss_one (ps_set (i := 4) nd rfl (Or.inr rfl) (pe_op (op_catL K) (by exact pe_lc (own := [("_law_k", 6)]) (g := (gName 6)) rfl nd (pi_tup (pe_ix (ixL K) (pv 1) (pe_ix (ixT K) (pv 3) pe_int (fun _ _ => rfl)) (fun _ _ => rfl))) (blkOk_by (N := ["_law_steps", "_law_found", "_law_n", "_law_step_here", "_law_behind", "_law_i", "_law_k"]) (sc := defScope s_law_under) (by decide +kernel)) (fun _ _ _ _ _ => (pg_name (i := 6) nd rfl (Or.inl rfl))) (fun _ _ _ _ _ => pts_one (pt_cmpR op_ne (pv 6) (pe_ix (ixT K) (pv 3) pe_int (fun _ _ => rfl)) (nomark _))) (fun _ _ _ _ _ => (pv 6))) (by exact pe_lc (own := [("_law_k", 6)]) (g := (gName 6)) rfl nd (pi_tup (pe_ix (ixL K) (pv 1) (pe_ix (ixT K) (pv 3) pe_int (fun _ _ => rfl)) (fun _ _ => rfl))) (blkOk_by (N := ["_law_steps", "_law_found", "_law_n", "_law_step_here", "_law_behind", "_law_i", "_law_k"]) (sc := defScope s_law_under) (by decide +kernel)) (fun _ _ _ _ _ => (pg_name (i := 6) nd rfl (Or.inl rfl))) (fun _ _ _ _ _ => pts_one (pt_cmpR op_ne (pv 6) (pe_ix (ixT K) (pv 3) pe_int (fun _ _ => rfl)) (nomark _))) (fun _ _ _ _ _ => (pv 6))))))
      (pss_one (ps_for PassesOwn.never rfl ((piLst K) (pe_is D_law_refers (hr.mono (by decide)) rfl pass0 (pa_cons (pv 3) pa_nil))) (pg_name (i := 5) nd rfl (Or.inl rfl))
      (pss_one (ps_set (i := 4) nd rfl (Or.inr rfl) (pe_op (op_catL K) (pv 4) (pe_callTy (cgList K) (by rfl) B.n_list (by decide +kernel) (pa_cons (pe_ix (ixL K) (pv 1) (pv 5) (fun _ _ => rfl)) pa_nil))))))))))
      (pss_one (ps_expr (pe_bm PySem.F.plainAttrs_list PySem.F.slot_list_append PySem.F.type_list_append mt_append (pv 1) (pa_cons (pe_callTy (cgTuple K) (by rfl) B.n_tuple (by decide +kernel) (pa_cons (by exact pe_lc (own := [("_law_k", 6)]) (g := (gName 6)) rfl nd (pi_range1 rfl B.n_range (pa_cons (pe_op op_add (pv 2) pe_int) pa_nil)) (blkOk_by (N := ["_law_steps", "_law_found", "_law_n", "_law_step_here", "_law_behind", "_law_i", "_law_k"]) (sc := defScope s_law_under) (by decide +kernel)) (fun _ _ _ _ _ => (pg_name (i := 6) nd rfl (Or.inl rfl))) (fun _ _ _ _ _ => pts_one (pt_cmpR (inS K) (pv 6) (pv 4) rfl)) (fun _ _ _ _ _ => (pv 6))) pa_nil)) pa_nil))))))))
      (pss_one (ps_ret (pv 1))))), ?_⟩
    try dsimp only [L2.cxOf, L2.Cx.nox, L2.Cx.wish]
    rw [st_law_under]
    have hrl := mapLenP A
    walk_at "cg"
    rename_i d H1 hd ed k1
    have nld : l ≠ d := ne_newL hd el
    refine r_forR (fun i σ' H' => ∃ (us : List V) (x3 x4 x5 x6 x7 : Option V), σ' = [some (.ref l), some (.ref d), x3, x4, x5, x6, x7] ∧ H' d = some (.lst us) ∧ ImAll K H' us ((und (ss.take i)).map intsD) ∧ Kp [] H H') ⟨[], _, _, _, _, _, rfl, ed, .nil, k1⟩ ?_ ?_
    · clear ed k1
      rintro i σ' H2 hi ⟨us, x3, x4, x5, x6, x7, rfl, e2, U2, k2⟩
      have hi : i < ss.length := by omega
      have z0 : (0 : Int) + (i : Int) = i := by omega
      rw [z0]
      obtain ⟨st, hst⟩ : ∃ st, ss[i]? = some st := ⟨_, List.getElem?_eq_getElem hi⟩
      obtain ⟨x, ex, hx⟩ := mapGetJ (k2.imAll A) hst
      rw [Int.zero_add] at ex
      obtain ⟨ps, rfl⟩ := Im.isRef (show Im K H2 x (.tuple _) from hx)
      have hul := mapLenP U2
      have li : (und (ss.take i)).length = i := by rw [und_len, List.length_take]; omega
      have rd : ∀ j : Int, 0 ≤ j → j < i → ∃ p, atI us j = some (.ref p) ∧ SqT K H2 p ((getU (und (ss.take i)) j).map V.int) := fun j h0 h1 => by
        obtain ⟨y, hy⟩ : ∃ y, (und (ss.take i))[j.toNat]? = some y := ⟨_, List.getElem?_eq_getElem (by omega)⟩
        obtain ⟨x9, e9, h9⟩ := mapGetJ U2 hy
        rw [Int.toNat_of_nonneg h0, Int.zero_add] at e9
        obtain ⟨p, rfl⟩ := Im.isRef (show Im K H2 x9 (.tuple _) from h9)
        refine ⟨p, e9, ?_⟩
        have : getU (und (ss.take i)) j = y := by
          unfold getU
          rw [List.getD_eq_getElem?_getD, hy]
          rfl
        rw [this]
        exact Im.intsT h9
      have s2 : (und (ss.take (i + 1))) = und (ss.take i) ++ [undOf (und (ss.take i)) st] := by
        rw [List.take_add_one, hst]
        exact und_app _ _
      have gl : ∀ j : Int, (getU (und (ss.take i)) j).length ≤ 61 := fun j => by
        unfold getU
        rw [List.getD_eq_getElem?_getD]
        cases e : (und (ss.take i))[j.toNat]? with
        | none => exact Nat.zero_le _
        | some y =>
          have hm := List.mem_of_getElem? e
          exact und_le (ss.take i) (by rw [List.length_take]; omega) y hm
      walk_at "cg"
      refine r_ixL (k2.get0 el) ex ?_
      walk_at "cg"
      rename_i pb0 H3 hpb0 eb0 k3
      have K3 := Kp.tr0 k3 k2
      have e3 := k3.get0 e2
      have U3 := k3.imAll U2
      have I3 := k3.im hx
      have rd3 : ∀ j : Int, 0 ≤ j → j < i → ∃ p, atI us j = some (.ref p) ∧ SqT K H3 p ((getU (und (ss.take i)) j).map V.int) := fun j h0 h1 => by
        obtain ⟨p, a1, a2⟩ := rd j h0 h1
        exact ⟨p, a1, k3.tup a2⟩
      clear rd hx k2 k3 e2 U2
      refine ⟨fun σ' H' => ∃ (pb : Addr) (x6 x7 : Option V), σ' = [some (.ref l), some (.ref d), some (.int (i : Int)), some (.ref ps), some (.ref pb), x6, x7] ∧ H' pb = some (.lst ((behind (und (ss.take i)) st).map V.int)) ∧ Kp [] H3 H', ?_, ?_⟩
      · have prm9 := prm i st hst
        have num9 := num st (List.mem_of_getElem? hst)
        obtain ⟨q, xs, sp, hf, ha⟩ := step_open I3
        by_cases pl : plainR st.r
        · have n1 := plain_name1 pl
          have n2 := plain_name2 pl
          rw [behind_plain pl]
          walk_at "cg"
          refine r_ixT sp atI_1 ?_
          walk_at "cg"
          refine r_ixT sp atI_1 ?_
          walk_at "cg"
          refine ⟨ps, st, rfl, I3, Rule.num_bd num9, fun lp H4 ep k4 => ?_⟩
          have pl60 := prem_len num9
          walk_at "cg"
          refine r_forLI st.r.prem (fun j σ' H' => ∃ (pb : Addr) (x6 x7 : Option V), σ' = [some (.ref l), some (.ref d), some (.int (i : Int)), some (.ref ps), some (.ref pb), x6, x7] ∧ H' pb = some (.lst (((st.r.prem.take j).flatMap (getU (und (ss.take i)))).map V.int)) ∧ ((st.r.prem.take j).flatMap (getU (und (ss.take i)))).length ≤ j * 61 ∧ Kp [] H4 H') ⟨pb0, _, _, rfl, k4.get0 eb0, Nat.zero_le _, .refl⟩ (fun j σ' H' ⟨_, _, _, _, _, _, kk⟩ => kk.get0 ep) ?_ ?_
          · rintro j v σ' H5 hv ⟨pb, x6, x7, rfl, e5, l5, k5⟩
            have hj : j < st.r.prem.length := (List.getElem?_eq_some_iff.mp hv).1
            have pv := prm9 v (List.mem_of_getElem? hv)
            obtain ⟨p9, a1, a2⟩ := rd3 v pv.1 pv.2
            have K5 := Kp.tr0 k5 k4
            have j61 : j * 61 ≤ 60 * 61 := Nat.mul_le_mul_right _ (by omega)
            have gv := gl v
            walk_at "cg"
            refine r_ixL (K5.get0 e3) a1 ?_
            have a25 := K5.tup a2
            walk_at "cg"
            rename_i l6 H6 hl6 e6 k6
            refine r_cat (k6.get0 e5) e6 (by simp only [List.length_map]; omega) fun pb7 H7 hpb7 e7 k7 => ?_
            walk_at "cg"
            refine ⟨pb7, _, _, rfl, ?_, ?_, Kp.tr0 k7 (Kp.tr0 k6 k5)⟩
            · rw [e7, flat_tk hv, List.map_append]
            · rw [flat_tk hv, List.length_append, Nat.succ_mul]
              omega
          · rintro σ' H5 ⟨pb, x6, x7, rfl, e5, l5, k5⟩
            rw [List.take_length] at e5
            walk_at "cg"
            exact ⟨pb, _, _, rfl, e5, Kp.tr0 k5 k4⟩
        · obtain ⟨f, r⟩ := st
          cases r with
          | suppose =>
            dsimp only [Rule.name, Rule.args] at sp ha
            obtain rfl := ha.n
            walk_at "cg"
            rename_i pb4 H4 hpb4 e4 k4
            refine ⟨pb4, _, _, rfl, ?_, k4⟩
            rw [e4]
            show _ = some (HO.lst ([((und (ss.take i)).length : Int)].map V.int))
            rw [li]
            rfl
          | cases a b s t =>
            dsimp only [Rule.name, Rule.args] at sp ha
            obtain ⟨_, _, rfl, a1, h2⟩ := ha.c
            obtain ⟨_, _, rfl, a2, h2⟩ := h2.c
            obtain ⟨_, _, rfl, a3, h2⟩ := h2.c
            obtain ⟨_, _, rfl, a4, h2⟩ := h2.c
            obtain rfl := h2.n
            cases a1; cases a2; cases a3; cases a4
            have pa := prm9 a (by simp [Rule.prem])
            have pb := prm9 b (by simp [Rule.prem])
            obtain ⟨pA, b1, b2⟩ := rd3 a pa.1 pa.2
            obtain ⟨pB, c1, c2⟩ := rd3 b pb.1 pb.2
            have ga := gl a
            have gb := gl b
            have eb : behind (und (ss.take i)) ⟨f, .cases a b s t⟩ = (getU (und (ss.take i)) a).filter (fun k => decide (k ≠ s)) ++ (getU (und (ss.take i)) b).filter (fun k => decide (k ≠ t)) := rfl
            rw [eb]
            generalize getU (und (ss.take i)) a = ua at b2 ga
            generalize getU (und (ss.take i)) b = ub at c2 gb
            clear rd3 eb s2
            walk_at "cg"
            refine r_ixL e3 b1 ?_
            walk_at "cg"
            refine lcT_f (K := K) (xs := ua.map V.int) (as := ua) (d := PyData.int) b2 (imInts ua) (fun k => if k = s then none else some (PyData.int k)) (by omega) (fun j z x H' R R' hz k4 hx q1 q2 => ?_) (fun D1 H4 acc hD1 eD1 hA k4 => ?_)
            · cases hx
              have sp4 := k4.tup sp
              walk_at "cg"
              refine if_S (fun g => ?_) (fun g => ?_)
              · walk_at "cg"
                exact q1 _ _ (.int z) (by rw [if_neg g]) (.int _) .refl
              · walk_at "cg"
                exact q2 _ (by rw [if_pos (Decidable.of_not_not g)]) .refl
            rw [fm_ne] at hA
            have ea := hA.ints
            subst ea
            have sp4 := k4.tup sp
            walk_at "cg"
            refine r_ixL (k4.get0 e3) c1 ?_
            walk_at "cg"
            refine lcT_f (K := K) (xs := ub.map V.int) (as := ub) (d := PyData.int) (k4.tup c2) (imInts ub) (fun k => if k = t then none else some (PyData.int k)) (by omega) (fun j z x H' R R' hz k5 hx q1 q2 => ?_) (fun D2 H5 acc2 hD2 eD2 hA2 k5 => ?_)
            · cases hx
              have sp5 := k5.tup sp4
              walk_at "cg"
              refine if_S (fun g => ?_) (fun g => ?_)
              · walk_at "cg"
                exact q1 _ _ (.int z) (by rw [if_neg g]) (.int _) .refl
              · walk_at "cg"
                exact q2 _ (by rw [if_pos (Decidable.of_not_not g)]) .refl
            rw [fm_ne] at hA2
            have ea := hA2.ints
            subst ea
            have f1 := List.length_filter_le (fun k => decide (k ≠ s)) ua
            have f2 := List.length_filter_le (fun k => decide (k ≠ t)) ub
            walk_at "cg"
            refine r_cat (k5.get0 eD1) eD2 (by simp only [List.length_map]; omega) fun D3 H6 hD3 eD3 k6 => ?_
            walk_at "cg"
            refine ⟨D3, _, _, rfl, ?_, Kp.tr0 k6 (Kp.tr0 k5 k4)⟩
            rw [eD3, List.map_append]
          | _ => exact absurd trivial pl
      rintro σ' H4 ⟨pb, x6, x7, rfl, eb, k4⟩
      have K4 := Kp.tr0 k4 K3
      have e4 := k4.get0 e3
      have U4 := k4.imAll U3
      have ebl : undOf (und (ss.take i)) st = (upTo (i + 1)).filter fun k => decide (k ∈ behind (und (ss.take i)) st) := by
        unfold undOf
        rw [li]
      clear k4 K3 e3 U3 I3 rd3 eb0
      rw [s2, ebl]
      generalize behind (und (ss.take i)) st = bh at eb ⊢
      walk_at "cg"
      refine lcR_f (K := K) (fun k => if (k : Int) ∈ bh then some (PyData.int k) else none) (by omega) (fun j H5 R R' hj k5 q1 q2 => ?_) (fun D H5 acc hD eD hA k5 => ?_)
      · have z1 : (0 : Int) + (j : Int) = j := by omega
        rw [z1]
        walk_at "cg"
        refine r_inL (k5.get0 eb) rfl (flat_ints _) (inV_ints _ _) ?_
        walk_at "cg"
        refine if_S (fun g => ?_) (fun g => ?_)
        · walk_at "cg"
          exact q1 _ _ (.int j) (by rw [if_pos (by simpa using g)]) (.int _) .refl
        · walk_at "cg"
          exact q2 _ (by rw [if_neg (by simpa using g)]) .refl
      have hN : ImAll K H5 acc (((upTo (i + 1)).filter fun k => decide (k ∈ bh)).map PyData.int) := by
        have e : (List.range (i + 1)).filterMap (fun (k : Nat) => if (k : Int) ∈ bh then some (PyData.int k) else none) = ((upTo (i + 1)).filter fun k => decide (k ∈ bh)).map PyData.int := by
          unfold upTo
          generalize List.range (i + 1) = rs
          induction rs with
          | nil => rfl
          | cons r rs ih =>
            rw [List.filterMap_cons, List.map_cons, List.filter_cons]
            by_cases g : (r : Int) ∈ bh
            · rw [if_pos g, if_pos (by simpa using g), List.map_cons, ← ih]
            · rw [if_neg g, if_neg (by simpa using g), ← ih]
        rw [← e]
        have en : ((i : Int) + 1 - 0).toNat = i + 1 := by omega
        first | exact hA | (rw [show ((i : Int) + 1).toNat = i + 1 from by omega] at hA; exact hA) | (rw [en] at hA; exact hA)
      walk_at "cg"
      rename_i p6 H6 hp6 s6 k6 H7 e7 k7
      refine ⟨_, _, _, _, _, _, rfl, e7, ?_, Kp.trN k7 (Kp.tr0 k6 (Kp.tr0 k5 K4)) hd⟩
      rw [List.map_append]
      exact (k7.imAll (k6.imAll (k5.imAll U4))).snoc (k7.im (show Im K H6 (.ref p6) (intsD _) from .tup s6 (k6.imAll hN)))
    · clear ed k1
      rintro σ' H2 ⟨us, x3, x4, x5, x6, x7, rfl, e2, U2, k2⟩
      have et : ss.take (((refs.length : Int) - 0).toNat) = ss := by
        rw [List.take_of_length_le]
        omega
      walk_at "cg"
      exact k d us H2 e2 (by rw [show (refs.length : Int).toNat = ss.length from by omega, List.take_length] at U2; exact U2) k2

end
/-! ### a list extended by a tuple -/
open PySem.Spec PySem.AutoSeq1 in
set_option maxRecDepth 100000 in
theorem ext_tup (l : Addr) (xs : Array Value) (n : Nat) (b : Addr) (d : Option Addr) (ys : Array Value) (m : Nat) (sl : Array (Option Value)) (few : ¬(!xs.isEmpty && Builtin.List.listTooLong (xs.size + ys.size)) = true) (sx : xs.size ≤ sizeLine) (sz : xs.size + ys.size ≤ sizeLine + 1) :
    Meets (Builtin.«list.extend» ⟨[.ref l, .ref b], []⟩) (fun _ R s => s.heap.get? l = some { cls := .type "list", dict := none, data := .seq xs n, slots := #[] } ∧ s.heap.get? b = some { cls := .type "tuple", dict := d, data := .seq ys m, slots := sl } ∧
      R (.ok (.ret Value.none)) { s with heap := s.heap.update l (Obj.mapSeq fun x => x ++ ys), toks := s.toks }) :=
  .of_wp fun prog w A R s h => by
    obtain ⟨hp, g, dr, tk, os⟩ := s
    obtain ⟨hl, hb, h⟩ := h
    have f1 := idx_int
    have f2 := sub_tuple_tuple
    have f3 := sub_list_list
    have f4 := sub_tuple_list
    have f5 := sub_list_tuple
    have room : (xs ++ ys).size ≤ sizeLine + 1 := by rw [Array.size_append]; exact sz
    wp_walk using (wpAny_updateSeq hl rfl (hz := sx) (_hz' := room)), wpAny_loadPart' hl, wpAny_loadPart' hb
    exact ⟨_, rfl, h⟩
def rExtT (K : PySem.W.Frag) : V → List V → Hp → VK → Prop := fun x vs H Q => ∃ l b xs zs, x = .ref l ∧ vs = [.ref b] ∧ H l = some (.lst xs) ∧ SqT K H b zs ∧ xs.length + zs.length ≤ sizeLine ∧ Q .non (upd H l (.lst (xs ++ zs)))
open PySem.Spec PyProof.Rows in
theorem mt_extT {X : Cx} : MtM X "list.extend" (rExtT X.K) := by
  intro pins s σ H x vs v us Q I rx rv h
  obtain ⟨l, b, xs, zs, rfl, rfl, hl, hb, hz, q⟩ := h
  cases rx
  obtain ⟨u, rfl, ru⟩ := rv.one
  cases ru
  obtain ⟨z, its, n, r, hn, e⟩ := I.lstM hl
  obtain ⟨ys, r2, ⟨o, ho, hc, m, hd⟩, hy⟩ := I.tuple hb
  obtain ⟨c0, d0, t0, s0⟩ := o
  dsimp only at hc hd
  subst hc hd
  have l2 := r2.length
  have size : its.toArray.size + ys.toArray.size ≤ sizeLine := by rw [List.size_toArray, List.size_toArray]; omega
  have few : ¬ (!its.toArray.isEmpty && Builtin.List.listTooLong (its.toArray.size + ys.toArray.size)) = true := by
    rw [notLongL size, Bool.and_false]
    exact Bool.false_ne_true
  refine call_meets F.slot_list_extend ⟨_, e, rfl⟩ F.entry_list_extend (F.args_list_extend_2 _ _) (ext_tup l its.toArray n b d0 ys.toArray m s0 few (by rw [List.size_toArray]; omega) (by omega)) ⟨e, ho, ?_⟩
  refine ⟨.non, _, I.lset (its' := its ++ ys) hl e (by simp) (r.append r2) ?_, rfl, q⟩
  rw [List.length_append]
  omega
theorem mt_extTK {X : Cx} (K : PySem.W.Frag) (h : X.K = K := by rfl) : MtR X "list.extend" (rExtT K) := h ▸ mt_extT
theorem r_extT {K : PySem.W.Frag} {H : Hp} {Q : VK} {l q : Addr} {xs zs : List V} (h : H l = some (.lst xs)) (hb : SqT K H q zs) (few : xs.length + zs.length ≤ 100000) (k : ∀ H2, H2 l = some (.lst (xs ++ zs)) → Kp [l] H H2 → Q .non H2) : rExtT K (.ref l) [.ref q] H Q :=
  ⟨l, q, xs, zs, rfl, rfl, h, hb, by rw [sizeLine_eq]; omega, k _ upd_same (Kp.put h trivial)⟩

/-! ### k25: what a step refers to, what it is under -/
def spUnderOf (K : PySem.W.Frag) : Sp := fun vs H Q _ => ∃ (p d : Addr) (us : List V) (ss : List Step) (st : Step), vs = [.ref p, .int (ss.length : Int), .ref d] ∧ Im K H (.ref p) st.d ∧ H d = some (.lst us) ∧ ImAll K H us ((und ss).map intsD) ∧ ss.length ≤ 59 ∧ (∀ j ∈ st.r.prem, 0 ≤ j ∧ j < ss.length) ∧ st.r.num ∧
  ∀ (q : Addr) H', SqT K H' q ((undOf (und ss) st).map V.int) → Kp [] H H' → Q (.ref q) H'
def spUnders (K : PySem.W.Frag) : Sp := fun vs H Q _ => ∃ (p : Addr) (ss : List Step), vs = [.ref p] ∧ Im K H (.ref p) (.tuple (ss.map Step.d)) ∧ ss.length ≤ 59 ∧ (∀ s ∈ ss, s.r.num) ∧ (∀ (i : Nat) st, ss[i]? = some st → ∀ j ∈ st.r.prem, 0 ≤ j ∧ j < i) ∧
  ∀ (d : Addr) (us : List V) H', H' d = some (.lst us) → ImAll K H' us ((und ss).map intsD) → Kp [] H H' → Q (.ref d) H'
def spUnk25 (K : PySem.W.Frag) : Sp := fun vs H Q _ => ∃ (t c : Addr), vs = [.ref t] ∧ Tp t c H ∧ ∀ (l : Addr) (refs : List V) (n : Nat) H', H l = none → H' l = some (.lst refs) → 1 ≤ n → n ≤ 3 → ImAll K H' refs (((List.range n).map fun i => (nmS i, (0 : Int), (2 : Int))).map unD) → Tp t c H' → Kp [t] H H' → Q (.ref l) H'
/-- numbers out of range are taken as 0 -/
def inR (n : Int) (i : Int) : Int := if 0 ≤ i ∧ i < n then i else 0
def Rule.kept (n : Int) : Rule → Rule
  | .sum ps => .sum (ps.map fun p => (inR n p.1, p.2))
  | .divide i d => .divide (inR n i) d
  | .look x is => .look x (is.map (inR n))
  | .thn x i => .thn x (inR n i)
  | .unit is => .unit (is.map (inR n))
  | .cases i j s t => .cases (inR n i) (inR n j) (inR n s) (inR n t)
  | .absurd i => .absurd (inR n i)
  | .weaken i => .weaken (inR n i)
  | r => r
theorem Rule.kept_prem (n : Int) (r : Rule) : (r.kept n).prem = r.prem.map (inR n) := by
  cases r <;> simp [Rule.kept, Rule.prem, Function.comp_def]
theorem Rule.kept_num {n : Int} {r : Rule} (h : r.num) : (r.kept n).num := by
  cases r with
  | sum ps =>
    refine ⟨by rw [List.length_map]; exact h.1, fun p hp => ?_⟩
    obtain ⟨y, hy, rfl⟩ := List.mem_map.mp hp
    exact h.2 y hy
  | look x is => show (is.map _).length ≤ 60; rw [List.length_map]; exact h
  | unit is => show (is.map _).length ≤ 60; rw [List.length_map]; exact h
  | divide i d => exact h
  | _ => trivial
theorem inR_ok {n i : Int} (h : 1 ≤ n) : 0 ≤ inR n i ∧ inR n i < n := by
  unfold inR
  split <;> omega
def spKept (K : PySem.W.Frag) : Sp := fun vs H Q _ => ∃ (p : Addr) (st : Step) (n : Int), vs = [.ref p, .int n] ∧ Im K H (.ref p) st.d ∧ st.r.num ∧ ∀ (q : Addr) H', Im K H' (.ref q) (Step.d ⟨st.f, st.r.kept n⟩) → Kp [] H H' → Q (.ref q) H'
def spLaw (K : PySem.W.Frag) : Sp := fun vs H Q _ => ∃ (a : Addr) (ns : List Int), vs = [.ref a] ∧ SqL K H a (ns.map V.int) ∧ ns.length ≤ 63 ∧ ∀ H', Q (.bl true) H'
theorem getU_im {K : PySem.W.Frag} {H : Hp} {us : List V} {ss : List Step} (U : ImAll K H us ((und ss).map intsD)) {j : Int} (h0 : 0 ≤ j) (h1 : j < ss.length) : ∃ p, atI us j = some (.ref p) ∧ SqT K H p ((getU (und ss) j).map V.int) := by
  have ul := und_len ss
  obtain ⟨y, hy⟩ : ∃ y, (und ss)[j.toNat]? = some y := ⟨_, List.getElem?_eq_getElem (by omega)⟩
  obtain ⟨x9, e9, h9⟩ := mapGetJ U hy
  rw [Int.toNat_of_nonneg h0, Int.zero_add] at e9
  obtain ⟨p, rfl⟩ := Im.isRef (show Im K H x9 (.tuple _) from h9)
  refine ⟨p, e9, ?_⟩
  have : getU (und ss) j = y := by
    unfold getU
    rw [List.getD_eq_getElem?_getD, hy]
    rfl
  rw [this]
  exact Im.intsT h9
theorem getU_len (ss : List Step) (h : ss.length ≤ 60) (j : Int) : (getU (und ss) j).length ≤ 61 := by
  unfold getU
  rw [List.getD_eq_getElem?_getD]
  cases e : (und ss)[j.toNat]? with
  | none => exact Nat.zero_le _
  | some y => exact und_le ss h y (List.mem_of_getElem? e)
theorem behind_rng {ss : List Step} {st : Step} (hp : ∀ j ∈ st.r.prem, 0 ≤ j ∧ j < ss.length) : ∀ k ∈ behind (und ss) st, 0 ≤ k ∧ k ≤ ss.length := fun k hk => by
  have g : ∀ j, (0 ≤ j ∧ j < (ss.length : Int)) → k ∈ getU (und ss) j → 0 ≤ k ∧ k ≤ ss.length := fun j hj hk => by
    have := und_rng hj.1 hk
    omega
  obtain ⟨f, r⟩ := st
  cases r with
  | suppose =>
    have hk : k ∈ [((und ss).length : Int)] := hk
    rw [List.mem_singleton, und_len] at hk
    omega
  | cases i j s t =>
    have hk : k ∈ (getU (und ss) i).filter (fun k => decide (k ≠ s)) ++ (getU (und ss) j).filter (fun k => decide (k ≠ t)) := hk
    rcases List.mem_append.mp hk with h | h
    · exact g i (hp i (by simp [Rule.prem])) (List.mem_filter.mp h).1
    · exact g j (hp j (by simp [Rule.prem])) (List.mem_filter.mp h).1
  | bound v => exact absurd (show k ∈ ([] : List Int).flatMap (getU (und ss)) from hk) (by simp)
  | given x => exact absurd (show k ∈ ([] : List Int).flatMap (getU (und ss)) from hk) (by simp)
  | apart x => exact absurd (show k ∈ ([] : List Int).flatMap (getU (und ss)) from hk) (by simp)
  | _ =>
    rw [behind_plain (by trivial)] at hk
    obtain ⟨j, hj, h⟩ := List.mem_flatMap.mp hk
    exact g j (hp j hj) h
section
variable {P : Program} {w : World} {K : PySem.W.Frag} {mg : Str → Option Value} {base : Heap}
theorem ok_refers_to {f : Addr} {fd : FuncData} (F : Fun K "refers_to" "refers_to" s_refers_to f fd) (B : Bi K mg) (D_premises_of : Is P w K mg base CX0 1 "premises_of" ["step"] (spPrem K)) : FnOk P w K mg base CX0 2 f fd ["step"] (spPrem K) := by
  have nd := sc_refers_to.nd
  refine F.ok sc_refers_to ?len (fun cdv A outer s H vs Q E hr h => ?body)
  case len =>
    rintro vs H Q E ⟨p, s, rfl, _⟩
    rfl
  case body =>
    obtain ⟨p, s, rfl, hs, bd, k⟩ := h
    refine ⟨_, (pss_one (ps_ret (pe_is D_premises_of (hr.mono (by decide)) rfl pass0 (pa_cons (pv 0) pa_nil)))), ?_⟩
    try dsimp only [L2.cxOf, L2.Cx.nox, L2.Cx.wish]
    rw [st_refers_to]
    walk_at "cg"
    exact ⟨p, s, rfl, hs, bd, k⟩
theorem ok_under_of {f : Addr} {fd : FuncData} (F : Fun K "under_of" "under_of" s_under_of f fd) (B : Bi K mg) (D_premises_of : Is P w K mg base CX0 1 "premises_of" ["step"] (spPrem K)) : FnOk P w K mg base CX0 2 f fd ["step", "number", "earlier"] (spUnderOf K) := by
  have nd := sc_under_of.nd
  refine F.ok sc_under_of ?len (fun cdv A outer s H vs Q E hr h => ?body)
  case len =>
    rintro vs H Q E ⟨p, d, us, ss, st, rfl, _⟩
    rfl
  case body =>
    obtain ⟨p, d, us, ss, st, rfl, I, ed, U, s59, prm, num, k⟩ := h
    refine ⟨_, (pss_cons (ps_set (i := 3) nd rfl (Or.inl rfl) (pe_ix (ixT K) (pv 0) pe_int (fun _ _ => rfl)))
      (pss_cons (ps_if (pt_cmpR op_eq (pv 3) pe_str (nomark _))
      (pss_one (ps_ret (pe_tup (pa_cons (pv 1) pa_nil))))
      pss_nil)
      (pss_cons (ps_set (i := 4) nd rfl (Or.inl rfl) (pe_lst pa_nil))
      (Evl.pss_cut (ps_if (pt_cmpR op_eq (pv 3) pe_str (nomark _))
      (pss_cons (ps_asg (pe_slice (slA K) (pv 0) (po_some pe_int) po_none) (pg_tup (n := 4) rfl (pgs_cons (pg_name (i := 5) nd rfl (Or.inl rfl)) (pgs_cons (pg_name (i := 6) nd rfl (Or.inl rfl)) (pgs_cons (pg_name (i := 7) nd rfl (Or.inr rfl)) (pgs_cons (pg_name (i := 8) nd rfl (Or.inr rfl)) pgs_nil))))))
      (pss_one (ps_set (i := 4) nd rfl (Or.inl rfl) (pe_op (op_catL K) (by exact pe_lc (own := [("k", 9)]) (g := (gName 9)) rfl nd (pi_tup (pe_ix (ixL K) (pv 2) (pv 5) (fun _ _ => rfl))) (blkOk_by (N := ["step", "number", "earlier", "rule", "found", "i", "j", "s", "t", "k"]) (sc := defScope s_under_of) (by decide +kernel)) (fun _ _ _ _ _ => (pg_name (i := 9) nd rfl (Or.inl rfl))) (fun _ _ _ _ _ => pts_one (pt_cmpR op_ne (pv 9) (pv 7) (nomark _))) (fun _ _ _ _ _ => (pv 9))) (by exact pe_lc (own := [("k", 9)]) (g := (gName 9)) rfl nd (pi_tup (pe_ix (ixL K) (pv 2) (pv 6) (fun _ _ => rfl))) (blkOk_by (N := ["step", "number", "earlier", "rule", "found", "i", "j", "s", "t", "k"]) (sc := defScope s_under_of) (by decide +kernel)) (fun _ _ _ _ _ => (pg_name (i := 9) nd rfl (Or.inl rfl))) (fun _ _ _ _ _ => pts_one (pt_cmpR op_ne (pv 9) (pv 8) (nomark _))) (fun _ _ _ _ _ => (pv 9)))))))
      (pss_one (ps_for PassesOwn.never rfl ((piLst K) (pe_is D_premises_of (hr.mono (by decide)) rfl pass0 (pa_cons (pv 0) pa_nil))) (pg_name (i := 5) nd rfl (Or.inl rfl))
      (pss_one (ps_expr (pe_bm PySem.F.plainAttrs_list PySem.F.slot_list_extend PySem.F.type_list_extend (mt_extTK K) (pv 4) (pa_cons (pe_ix (ixL K) (pv 2) (pv 5) (fun _ _ => rfl)) pa_nil)))))))
      (pss_one (ps_ret (pe_callTy (cgTuple K) (by rfl) B.n_tuple (by decide +kernel) (pa_cons (pe_callB (cr_sortedSet rfl) (by rfl) B.n_sorted (by decide +kernel) (pa_cons (pe_callTy (cg_setL rfl) (by rfl) B.n_set PyProof.Rows.boot_set (pa_cons (pv 4) pa_nil)) pa_nil)) pa_nil)))))))), ?_⟩
    try dsimp only [L2.cxOf, L2.Cx.nox, L2.Cx.wish]
    rw [st_under_of]
    have brng := behind_rng prm
    obtain ⟨q, xs, sp, hf, ha⟩ := step_open I
    walk_at "cg"
    refine r_ixT sp atI_1 ?_
    by_cases sup : st.r = .suppose
    · obtain ⟨f, r⟩ := st
      dsimp only at sup
      subst sup
      dsimp only [Rule.name] at sp ⊢
      walk_at "cg"
      rename_i q2 H2 hq2 s2 k2
      have e : undOf (und ss) ⟨f, .suppose⟩ = [(ss.length : Int)] := by
        refine asc_ext ((upTo_asc _).filter _) (List.pairwise_singleton _ _) fun k => ?_
        unfold undOf
        rw [List.mem_filter, mem_upTo, decide_eq_true_eq]
        show (_ ∧ k ∈ [((und ss).length : Int)]) ↔ _
        rw [und_len, List.mem_singleton]
        omega
      refine k q2 H2 ?_ k2
      rw [e]
      exact s2
    · have n1 : ¬ st.r.name = Str.ofString "suppose" := by
        intro e
        obtain ⟨f, r⟩ := st
        cases r <;> first | exact sup rfl | (simp only [Rule.name] at e; exact absurd e (by decide +kernel))
      walk_at "cg"
      rename_i d1 H1 hd1 ed1 k1
      have e1 := k1.get0 ed
      have U1 := k1.imAll U
      have sp1 := k1.tup sp
      have I1 := k1.im I
      have gl := getU_len ss (by omega)
      have Kd : Kp [d1] H1 H1 := Kp.base fun b hb => by rw [List.mem_singleton] at hb; rw [hb, ed1]; trivial
      refine ⟨fun σ' H' => ∃ (l : Addr) (ks : List Int) (x5 x6 x7 x8 x9 : Option V), σ' = [some (.ref p), some (.int (ss.length : Int)), some (.ref d), some (.str st.r.name), some (.ref l), x5, x6, x7, x8, x9] ∧ H' l = some (.lst (ks.map V.int)) ∧ (∀ k, k ∈ ks ↔ k ∈ behind (und ss) st) ∧ ks.length ≤ 4000 ∧ Kp [d1] H1 H', ?_, ?_⟩
      · by_cases cas : ∃ a b s t, st.r = .cases a b s t
        · obtain ⟨f, r⟩ := st
          obtain ⟨a, b, s, t, rfl⟩ := cas
          dsimp only [Rule.name, Rule.args] at sp sp1 ha
          obtain ⟨_, _, rfl, a1, h2⟩ := ha.c
          obtain ⟨_, _, rfl, a2, h2⟩ := h2.c
          obtain ⟨_, _, rfl, a3, h2⟩ := h2.c
          obtain ⟨_, _, rfl, a4, h2⟩ := h2.c
          obtain rfl := h2.n
          cases a1; cases a2; cases a3; cases a4
          have pa := prm a (by simp [Rule.prem])
          have pb := prm b (by simp [Rule.prem])
          obtain ⟨pA, b1, b2⟩ := getU_im U1 pa.1 pa.2
          obtain ⟨pB, c1, c2⟩ := getU_im U1 pb.1 pb.2
          have ga := gl a
          have gb := gl b
          have eb : behind (und ss) ⟨f, .cases a b s t⟩ = (getU (und ss) a).filter (fun k => decide (k ≠ s)) ++ (getU (und ss) b).filter (fun k => decide (k ≠ t)) := rfl
          rw [eb]
          clear eb gl brng prm num
          generalize getU (und ss) a = ua at b2 ga
          generalize getU (und ss) b = ub at c2 gb
          dsimp only [Rule.name]
          walk_at "cg"
          refine r_slA2 sp1 fun q2 H2 s2 k2 => ?_
          walk_at "cg"
          refine r_ixL (k2.get0 e1) b1 ?_
          walk_at "cg"
          refine lcT_f (K := K) (xs := ua.map V.int) (as := ua) (d := PyData.int) (k2.tup b2) (imInts ua) (fun k => if k = s then none else some (PyData.int k)) (by omega) (fun j z x H' R R' hz k4 hx q1 q2 => ?_) (fun D1 H4 acc hD1 eD1 hA k4 => ?_)
          · cases hx
            walk_at "cg"
            refine if_S (fun g => ?_) (fun g => ?_)
            · walk_at "cg"
              exact q1 _ _ (.int z) (by rw [if_neg g]) (.int _) .refl
            · walk_at "cg"
              exact q2 _ (by rw [if_pos (Decidable.of_not_not g)]) .refl
          rw [fm_ne] at hA
          have ea := hA.ints
          subst ea
          have K4 := Kp.tr0 k4 k2
          walk_at "cg"
          refine r_ixL (K4.get0 e1) c1 ?_
          walk_at "cg"
          refine lcT_f (K := K) (xs := ub.map V.int) (as := ub) (d := PyData.int) (K4.tup c2) (imInts ub) (fun k => if k = t then none else some (PyData.int k)) (by omega) (fun j z x H' R R' hz k5 hx q1 q2 => ?_) (fun D2 H5 acc2 hD2 eD2 hA2 k5 => ?_)
          · cases hx
            walk_at "cg"
            refine if_S (fun g => ?_) (fun g => ?_)
            · walk_at "cg"
              exact q1 _ _ (.int z) (by rw [if_neg g]) (.int _) .refl
            · walk_at "cg"
              exact q2 _ (by rw [if_pos (Decidable.of_not_not g)]) .refl
          rw [fm_ne] at hA2
          have ea := hA2.ints
          subst ea
          have f1 := List.length_filter_le (fun k => decide (k ≠ s)) ua
          have f2 := List.length_filter_le (fun k => decide (k ≠ t)) ub
          walk_at "cg"
          refine r_cat (k5.get0 eD1) eD2 (by simp only [List.length_map]; omega) fun D3 H6 hD3 eD3 k6 => ?_
          walk_at "cg"
          refine ⟨D3, _, _, _, _, _, _, rfl, by rw [eD3, ← List.map_append], fun k => Iff.rfl, by rw [List.length_append]; omega, Kp.tr0 k6 (Kp.tr0 k5 (Kp.tr0 K4 Kd))⟩
        · have n2 : ¬ st.r.name = Str.ofString "cases" := by
            intro e
            obtain ⟨f, r⟩ := st
            cases r <;> first | exact cas ⟨_, _, _, _, rfl⟩ | (simp only [Rule.name] at e; exact absurd e (by decide +kernel))
          have pl : plainR st.r := by
            obtain ⟨f, r⟩ := st
            cases r <;> first | trivial | exact sup rfl | exact cas ⟨_, _, _, _, rfl⟩
          rw [behind_plain pl]
          walk_at "cg"
          refine ⟨p, st, rfl, I1, Rule.num_bd num, fun lp H4 ep k4 => ?_⟩
          have pl60 := prem_len num
          have nlp : st.r.prem ≠ [] → lp ≠ d1 := fun hne e => by
            have := k4.get0 ed1
            rw [e, this] at ep
            cases hq : st.r.prem with
            | nil => exact hne hq
            | cons x xs => rw [hq] at ep; cases ep
          by_cases pe : st.r.prem = []
          · rw [pe]
            rw [pe] at ep
            walk_at "cg"
            refine r_forLI [] (fun i σ' H' => σ' = [some (.ref p), some (.int (ss.length : Int)), some (.ref d), some (.str st.r.name), some (.ref d1), none, none, none, none, none] ∧ H4 = H') ⟨rfl, rfl⟩ (fun j σ' H' h => by rw [← h.2]; exact ep) (fun j v σ' H' hv _ => by simp at hv) ?_
            rintro σ' H' ⟨rfl, rfl⟩
            walk_at "cg"
            exact ⟨d1, [], _, _, _, _, _, rfl, k4.get0 ed1, fun k => by simp, by simp, Kp.tr0 k4 Kd⟩
          · have nlp := nlp pe
            walk_at "cg"
            refine r_forLI st.r.prem (fun j σ' H' => ∃ (x5 : Option V), σ' = [some (.ref p), some (.int (ss.length : Int)), some (.ref d), some (.str st.r.name), some (.ref d1), x5, none, none, none, none] ∧ H' d1 = some (.lst (((st.r.prem.take j).flatMap (getU (und ss))).map V.int)) ∧ ((st.r.prem.take j).flatMap (getU (und ss))).length ≤ j * 61 ∧ Kp [d1] H4 H') ⟨_, rfl, k4.get0 ed1, Nat.zero_le _, Kp.base fun b hb => by rw [List.mem_singleton] at hb; rw [hb, k4.get0 ed1]; trivial⟩ (fun j σ' H' ⟨_, _, _, _, kk⟩ => kk.get1 nlp ep) ?_ ?_
            · rintro j v σ' H5 hv ⟨x5, rfl, e5, l5, k5⟩
              have hj : j < st.r.prem.length := (List.getElem?_eq_some_iff.mp hv).1
              have pv := prm v (List.mem_of_getElem? hv)
              obtain ⟨p9, a1, a2⟩ := getU_im U1 pv.1 pv.2
              have j61 : j * 61 ≤ 60 * 61 := Nat.mul_le_mul_right _ (by omega)
              have gv := gl v
              have nd1 : d ≠ d1 := ne_newL hd1 ed
              walk_at "cg"
              refine r_ixL (k5.get1 nd1 (k4.get0 e1)) a1 ?_
              walk_at "cg"
              refine r_extT e5 (k5.tup (k4.tup a2)) (by simp only [List.length_map]; omega) fun H6 e6 k6 => ?_
              walk_at "cg"
              refine ⟨_, rfl, ?_, ?_, Kp.tr1 k6 k5⟩
              · rw [e6, flat_tk hv, List.map_append]
              · rw [flat_tk hv, List.length_append, Nat.succ_mul]
                omega
            · rintro σ' H5 ⟨x5, rfl, e5, l5, k5⟩
              rw [List.take_length] at e5 l5
              have l61 : st.r.prem.length * 61 ≤ 60 * 61 := Nat.mul_le_mul_right _ pl60
              walk_at "cg"
              exact ⟨d1, _, _, _, _, _, _, rfl, e5, fun k => Iff.rfl, by omega, Kp.tr1 k5 (Kp.tr0 k4 Kd)⟩
      rintro σ' H2 ⟨l, ks, x5, x6, x7, x8, x9, rfl, el, mem, few, k2⟩
      walk_at "cg"
      refine r_setS2 el (by omega) fun S H3 cS hS eS hcS k3 => ?_
      have c61 := hcS (upTo (ss.length + 1)) fun j hj => mem_upTo.mpr (by have := brng j ((mem j).mp hj); omega)
      have ul : (upTo (ss.length + 1)).length = ss.length + 1 := by simp [upTo]
      walk_at "cg"
      refine r_sortS eS (by omega) fun l4 ns H4 hl4 e4 asc mem4 k4 => ?_
      have en : ns = undOf (und ss) st := by
        refine asc_ext asc ((upTo_asc _).filter _) fun k => ?_
        unfold undOf
        rw [mem4, decide_eq_true_eq, mem, List.mem_filter, mem_upTo, decide_eq_true_eq, und_len]
        exact ⟨fun h => ⟨by have := brng k h; omega, h⟩, fun h => h.2⟩
      subst en
      walk_at "cg"
      rename_i p5 H5 hp5 s5 k5
      exact k p5 H5 s5 (Kp.tr0 k5 (Kp.tr0 k4 (Kp.tr0 k3 (Kp.trN k2 k1 hd1))))
theorem ok_unders {f : Addr} {fd : FuncData} (F : Fun K "unders" "unders" s_unders f fd) (B : Bi K mg) (D_under_of : Is P w K mg base CX0 2 "under_of" ["step", "number", "earlier"] (spUnderOf K)) : FnOk P w K mg base CX0 3 f fd ["steps"] (spUnders K) := by
  have nd := sc_unders.nd
  refine F.ok sc_unders ?len (fun cdv A outer s H vs Q E hr h => ?body)
  case len =>
    rintro vs H Q E ⟨p, ss, rfl, _⟩
    rfl
  case body =>
    obtain ⟨p, ss, rfl, I, s59, num, prm, k⟩ := h
    refine ⟨_, (pss_cons (ps_set (i := 1) nd rfl (Or.inl rfl) (pe_lst pa_nil))
      (pss_cons (ps_for PassesOwn.never rfl (piEnumT K rfl B.n_enumerate (pa_cons (pv 0) pa_nil)) (pg_tup (n := 2) rfl (pgs_cons (pg_name (i := 2) nd rfl (Or.inl rfl)) (pgs_cons (pg_name (i := 3) nd rfl (Or.inl rfl)) pgs_nil)))
      (pss_one (ps_expr (pe_bm PySem.F.plainAttrs_list PySem.F.slot_list_append PySem.F.type_list_append mt_append (pv 1) (pa_cons (pe_is D_under_of (hr.mono (by decide)) rfl pass0 (pa_cons (pv 3) (pa_cons (pv 2) (pa_cons (pv 1) pa_nil)))) pa_nil)))))
      (pss_one (ps_ret (pv 1))))), ?_⟩
    try dsimp only [L2.cxOf, L2.Cx.nox, L2.Cx.wish]
    rw [st_unders]
    obtain ⟨xs, h1, h2⟩ := Im.open I
    have hxl := mapLenP h2
    walk_at "cg"
    rename_i d H1 hd ed k1
    refine r_enumT (k1.tup h1) ?_
    refine r_forET xs (fun i σ' H' => ∃ (us : List V) (x3 x4 : Option V), σ' = [some (.ref p), some (.ref d), x3, x4] ∧ H' d = some (.lst us) ∧ ImAll K H' us ((und (ss.take i)).map intsD) ∧ Kp [] H H') ⟨[], _, _, rfl, ed, .nil, k1⟩ (fun i σ' H' ⟨_, _, _, _, _, _, kk⟩ => kk.tup h1) ?_ ?_
    · rintro i x T σ' H2 H3 hx ⟨us, x3, x4, rfl, e2, U2, k2⟩ sT k3
      obtain ⟨st, hst, Ix⟩ := mapGetP (k2.imAll h2) hx
      have hi : i < ss.length := (List.getElem?_eq_some_iff.mp hst).1
      obtain ⟨ps, rfl⟩ := Im.isRef (show Im K H2 x (.tuple _) from Ix)
      have li : (ss.take i).length = i := by rw [List.length_take]; omega
      have hul := mapLenP U2
      rw [und_len, li] at hul
      have ss2 : und (ss.take (i + 1)) = und (ss.take i) ++ [undOf (und (ss.take i)) st] := by
        rw [List.take_add_one, hst]
        exact und_app _ _
      have I3 := k3.im Ix
      have e3 := k3.get0 e2
      have U3 := k3.imAll U2
      have K3 := Kp.tr0 k3 k2
      clear Ix e2 U2 k2 k3
      walk_at "cg"
      refine ⟨ps, d, us, ss.take i, st, ?_, I3, e3, U3, by omega, fun j hj => by rw [li]; exact prm i st hst j hj, num st (List.mem_of_getElem? hst), fun q H4 s4 k4 => ?_⟩
      · rw [li]
      walk_at "cg"
      rename_i H5 e5 k5
      refine ⟨_, _, _, rfl, e5, ?_, Kp.trN k5 (Kp.tr0 k4 K3) hd⟩
      rw [ss2, List.map_append]
      exact (k5.imAll (k4.imAll U3)).snoc (k5.im (Im.ints s4))
    · rintro σ' H2 ⟨us, x3, x4, rfl, e2, U2, k2⟩
      rw [hxl, List.take_length] at U2
      walk_at "cg"
      exact k d us H2 e2 U2 k2
theorem ok_law_unknowns {f : Addr} {fd : FuncData} (F : Fun K "_law_unknowns" "_law_unknowns" s_law_unknowns f fd) (B : Bi K mg) (D_law_draw : Is P w K mg base CX0 1 "_law_draw" ["_law_tape_here", "_law_many"] spDraw) : FnOk P w K mg base CX0 2 f fd ["_law_tape_here"] (spUnk25 K) := by
  have nd := sc_law_unknowns.nd
  refine F.ok sc_law_unknowns ?len (fun cdv A outer s H vs Q E hr h => ?body)
  case len =>
    rintro vs H Q E ⟨t, c, rfl, _⟩
    rfl
  case body =>
    obtain ⟨t, c, rfl, T, k⟩ := h
    refine ⟨_, (pss_cons (ps_set (i := 1) nd rfl (Or.inl rfl) (pe_lst pa_nil))
      (pss_cons (ps_for PassesOwn.never rfl (pi_range1 rfl B.n_range (pa_cons (pe_op op_add pe_int (pe_is D_law_draw (hr.mono (by decide)) rfl pass0 (pa_cons (pv 0) (pa_cons pe_int pa_nil)))) pa_nil)) (pg_name (i := 2) nd rfl (Or.inl rfl))
      (pss_one (ps_expr (pe_bm PySem.F.plainAttrs_list PySem.F.slot_list_append PySem.F.type_list_append mt_append (pv 1) (pa_cons (pe_tup (pa_cons (pe_ix (ixL K) (pe_lst (pa_cons pe_str (pa_cons pe_str (pa_cons pe_str pa_nil)))) (pv 2) (fun _ _ => rfl)) (pa_cons pe_int (pa_cons pe_int pa_nil)))) pa_nil)))))
      (pss_one (ps_ret (pv 1))))), ?_⟩
    try dsimp only [L2.cxOf, L2.Cx.nox, L2.Cx.wish]
    rw [st_law_unknowns]
    walk_at "cg"
    rename_i l H1 hl el k1 d2 H2 d20 d21 T2 k2
    have nlt : l ≠ t := Tp.nef hl T
    have nlc : l ≠ c := Tp.nefc hl T
    have e2 := k2.get1 nlt el
    have K2 := Kp.tr1 k2 (Kp.tr0 k1 (Tp.base T))
    clear k1 k2 el
    refine r_forR (fun i σ' H' => ∃ (refs : List V) (x3 : Option V), σ' = [some (.ref t), some (.ref l), x3] ∧ H' l = some (.lst refs) ∧ ImAll K H' refs (((List.range i).map fun i => (nmS i, (0 : Int), (2 : Int))).map unD) ∧ Tp t c H' ∧ Kp [t] H H') ⟨[], _, rfl, e2, .nil, T2, K2⟩ ?_ ?_
    · clear e2 T2 K2
      rintro i σ' H3 hi ⟨refs, x3, rfl, e3, A3, T3, K3⟩
      have hi : i < 3 := by omega
      have hrl := mapLenP A3
      rw [List.length_map] at hrl
      rw [List.length_range] at hrl
      walk_at "cg"
      rename_i l4 H4 hl4 e4 k4
      have ix : ∀ (Q : VK), Q (.str (nmS i)) H4 → rIxL K (.ref l4) (.int (0 + (i : Int))) H4 Q := fun Q q => by
        have e : i = 0 ∨ i = 1 ∨ i = 2 := by omega
        rcases e with rfl | rfl | rfl <;> exact r_ixL e4 rfl q
      refine ix _ ?_
      walk_at "cg"
      rename_i p5 H5 hp5 s5 k5 H6 e6 k6
      have K5 := Kp.tr0 k5 k4
      refine ⟨_, _, rfl, e6, ?_, (T3.kp0 K5).kp1 k6 nlt.symm nlc.symm, Kp.trN k6 (Kp.tr0 K5 K3) hl⟩
      rw [List.range_succ, List.map_append, List.map_append]
      exact (k6.imAll (K5.imAll A3)).snoc (k6.im (.tup s5 (.cons (.str _) (.cons (.int _) (.cons (.int _) .nil)))))
    · clear e2 T2 K2
      rintro σ' H3 ⟨refs, x3, rfl, e3, A3, T3, K3⟩
      walk_at "cg"
      exact k l refs _ H3 hl e3 (by omega) (by omega) A3 T3 K3
theorem ok_law_kept {f : Addr} {fd : FuncData} (F : Fun K "_law_kept" "_law_kept" s_law_kept f fd) (B : Bi K mg) (D_law_refers : Is P w K mg base CX0 1 "_law_refers" ["_law_step_here"] (spPrem K)) : FnOk P w K mg base CX0 2 f fd ["_law_step_here", "_law_n"] (spKept K) := by
  have nd := sc_law_kept.nd
  refine F.ok sc_law_kept ?len (fun cdv A outer s H vs Q E hr h => ?body)
  case len =>
    rintro vs H Q E ⟨p, st, n, rfl, _⟩
    rfl
  case body =>
    obtain ⟨p, st, n, rfl, I, num, k⟩ := h
    refine ⟨_, (pss_cons (ps_set (i := 2) nd rfl (Or.inr rfl) (by exact pe_lc (own := [("_law_i", 3)]) (g := (gName 3)) (tt := tYes) rfl nd ((piLst K) (pe_is D_law_refers (hr.mono (by decide)) rfl pass0 (pa_cons (pv 0) pa_nil))) (blkOk_by (N := ["_law_step_here", "_law_n", "_law_places", "_law_i", "_law_k"]) (sc := defScope s_law_kept) (by decide +kernel)) (fun _ _ _ _ _ => (pg_name (i := 3) nd rfl (Or.inl rfl))) (fun _ _ _ _ _ => pts_nil) (fun _ _ _ _ _ => (pe_ifExp (PW.pt (pw_and (pt_cmpR op_ge (pv 3) pe_int (nomark _)) (pw_and1 (pt_cmpR op_lt (pv 3) (pv 1) (nomark _))))) (pv 3) pe_int))))
      (pss_cons (ps_if (pt_cmpR op_eq (pe_ix (ixT K) (pv 0) pe_int (fun _ _ => rfl)) pe_str (nomark _))
      (pss_one (ps_ret (pe_tup (pa_cons (pe_ix (ixT K) (pv 0) pe_int (fun _ _ => rfl)) (pa_cons pe_str (pa_cons (pe_callTy (cgTuple K) (by rfl) B.n_tuple (by decide +kernel) (pa_cons (by exact pe_lc (own := [("_law_k", 4)]) (g := (gName 4)) (tt := tYes) rfl nd (pi_range1 rfl B.n_range (pa_cons (pe_callB (cgLen K) (by rfl) B.n_len PySem.boot_len (pa_cons (pv 2) pa_nil)) pa_nil)) (blkOk_by (N := ["_law_step_here", "_law_n", "_law_places", "_law_i", "_law_k"]) (sc := defScope s_law_kept) (by decide +kernel)) (fun _ _ _ _ _ => (pg_name (i := 4) nd rfl (Or.inl rfl))) (fun _ _ _ _ _ => pts_nil) (fun _ _ _ _ _ => (pe_tup (pa_cons (pe_ix (ixL K) (pv 2) (pv 4) (fun _ _ => rfl)) (pa_cons (pe_ix (ixT K) (pe_ix (ixT K) (pe_ix (ixT K) (pv 0) pe_int (fun _ _ => rfl)) (pv 4) (fun _ _ => rfl)) pe_int (fun _ _ => rfl)) pa_nil))))) pa_nil)) pa_nil))))))
      pss_nil)
      (pss_cons (ps_if (pt_cmpR op_eq (pe_ix (ixT K) (pv 0) pe_int (fun _ _ => rfl)) pe_str (nomark _))
      (pss_one (ps_ret (pe_tup (pa_cons (pe_ix (ixT K) (pv 0) pe_int (fun _ _ => rfl)) (pa_cons pe_str (pa_cons (pe_ix (ixL K) (pv 2) pe_int (fun _ _ => rfl)) (pa_cons (pe_ix (ixT K) (pv 0) pe_int (fun _ _ => rfl)) pa_nil)))))))
      pss_nil)
      (pss_cons (ps_if (pt_cmpR op_eq (pe_ix (ixT K) (pv 0) pe_int (fun _ _ => rfl)) pe_str (nomark _))
      (pss_one (ps_ret (pe_tup (pa_cons (pe_ix (ixT K) (pv 0) pe_int (fun _ _ => rfl)) (pa_cons pe_str (pa_cons (pe_ix (ixT K) (pv 0) pe_int (fun _ _ => rfl)) (pa_cons (pe_callTy (cgTuple K) (by rfl) B.n_tuple (by decide +kernel) (pa_cons (pv 2) pa_nil)) pa_nil)))))))
      pss_nil)
      (pss_cons (ps_if (pt_cmpR op_eq (pe_ix (ixT K) (pv 0) pe_int (fun _ _ => rfl)) pe_str (nomark _))
      (pss_one (ps_ret (pe_tup (pa_cons (pe_ix (ixT K) (pv 0) pe_int (fun _ _ => rfl)) (pa_cons pe_str (pa_cons (pe_ix (ixT K) (pv 0) pe_int (fun _ _ => rfl)) (pa_cons (pe_ix (ixL K) (pv 2) pe_int (fun _ _ => rfl)) pa_nil)))))))
      pss_nil)
      (pss_cons (ps_if (pt_cmpR op_eq (pe_ix (ixT K) (pv 0) pe_int (fun _ _ => rfl)) pe_str (nomark _))
      (pss_one (ps_ret (pe_tup (pa_cons (pe_ix (ixT K) (pv 0) pe_int (fun _ _ => rfl)) (pa_cons pe_str (pa_cons (pe_callTy (cgTuple K) (by rfl) B.n_tuple (by decide +kernel) (pa_cons (pv 2) pa_nil)) pa_nil))))))
      pss_nil)
      (pss_cons (ps_if (pt_cmpR op_eq (pe_ix (ixT K) (pv 0) pe_int (fun _ _ => rfl)) pe_str (nomark _))
      (pss_one (ps_ret (pe_tup (pa_cons (pe_ix (ixT K) (pv 0) pe_int (fun _ _ => rfl)) (pa_cons pe_str (pa_cons (pe_ix (ixL K) (pv 2) pe_int (fun _ _ => rfl)) (pa_cons (pe_ix (ixL K) (pv 2) pe_int (fun _ _ => rfl)) (pa_cons (pe_ix (ixL K) (pv 2) pe_int (fun _ _ => rfl)) (pa_cons (pe_ix (ixL K) (pv 2) pe_int (fun _ _ => rfl)) pa_nil)))))))))
      pss_nil)
      (pss_cons (ps_if (PW.pt (pw_or (pt_cmpR op_eq (pe_ix (ixT K) (pv 0) pe_int (fun _ _ => rfl)) pe_str (nomark _)) (pw_or1 (pt_cmpR op_eq (pe_ix (ixT K) (pv 0) pe_int (fun _ _ => rfl)) pe_str (nomark _)))))
      (pss_one (ps_ret (pe_tup (pa_cons (pe_ix (ixT K) (pv 0) pe_int (fun _ _ => rfl)) (pa_cons (pe_ix (ixT K) (pv 0) pe_int (fun _ _ => rfl)) (pa_cons (pe_ix (ixL K) (pv 2) pe_int (fun _ _ => rfl)) pa_nil))))))
      pss_nil)
      (pss_one (ps_ret (pv 0))))))))))), ?_⟩
    try dsimp only [L2.cxOf, L2.Cx.nox, L2.Cx.wish]
    rw [st_law_kept]
    obtain ⟨q, xs, sp, hf, ha⟩ := step_open I
    have bdr := Rule.num_bd num
    walk_at "cg"
    refine ⟨p, st, rfl, I, bdr, fun lp H1 ep k1 => ?_⟩
    have pl60 := prem_len num
    walk_at "cg"
    refine lcL_i (K := K) (xs := st.r.prem.map V.int) (as := st.r.prem) (d := PyData.int) ep (imInts _) (inR n) (by omega) (fun j z x H' R R' hz k4 hx q1 => ?_) (fun D H2 hD eD k2 => ?_)
    · cases hx
      walk_at "cg"
      refine if_S (fun g => ?_) (fun g => ?_)
      · walk_at "cg"
        refine if_S (fun g2 => ?_) (fun g2 => ?_)
        · walk_at "cg"
          have := q1 H' .refl
          rw [show inR n z = z by unfold inR; rw [if_pos ⟨g, g2⟩]] at this
          exact this
        · walk_at "cg"
          have := q1 H' .refl
          rw [show inR n z = 0 by unfold inR; rw [if_neg (fun h => g2 h.2)]] at this
          exact this
      · walk_at "cg"
        have := q1 H' .refl
        rw [show inR n z = 0 by unfold inR; rw [if_neg (fun h => g h.1)]] at this
        exact this
    have K2 := Kp.tr0 k2 k1
    have sp2 := K2.tup sp
    have hf2 := K2.im hf
    have ha2 := K2.imAll ha
    have I2 := K2.im I
    clear k1 k2 sp hf ha ep I
    obtain ⟨f, r⟩ := st
    cases r with
    | bound v =>
      dsimp only [Rule.name, Rule.args, Rule.prem, Rule.kept] at sp2 ha2 k eD pl60 I2
      obtain ⟨_, _, rfl, a1, h2⟩ := ha2.c
      obtain rfl := h2.n
      cases a1
      walk_at "cg"
      exact k p H2 I2 K2
    | given x =>
      dsimp only [Rule.name, Rule.args, Rule.prem, Rule.kept] at sp2 ha2 k eD pl60 I2
      obtain ⟨_, _, rfl, a1, h2⟩ := ha2.c
      obtain rfl := h2.n
      cases a1
      walk_at "cg"
      exact k p H2 I2 K2
    | suppose =>
      dsimp only [Rule.name, Rule.args, Rule.prem, Rule.kept] at sp2 ha2 k eD pl60 I2
      obtain rfl := ha2.n
      walk_at "cg"
      exact k p H2 I2 K2
    | apart x =>
      dsimp only [Rule.name, Rule.args, Rule.prem, Rule.kept] at sp2 ha2 k eD pl60 I2
      obtain ⟨_, _, rfl, a1, h2⟩ := ha2.c
      obtain rfl := h2.n
      cases a1
      walk_at "cg"
      exact k p H2 I2 K2
    | sum ps =>
      dsimp only [Rule.name, Rule.args, Rule.prem, Rule.kept] at sp2 ha2 k eD pl60 I2
      obtain ⟨_, _, rfl, a1, h2⟩ := ha2.c
      obtain rfl := h2.n
      obtain ⟨qp, rfl⟩ := a1.isRef
      obtain ⟨ys, s2, i2⟩ := Im.open a1
      rw [List.length_map] at pl60
      have hyl := mapLenP i2
      have ll : (List.map V.int (List.map (inR n) (List.map (fun x : Int × Int => x.1) ps))).length = ps.length := by simp
      walk_at "cg"
      refine lcR_m (K := K) (fun i => tD (inR n (ps.getD i (0, 0)).1, (ps.getD i (0, 0)).2)) (by omega) (fun i H' R R' hi k3 q1 => ?_) (fun D3 H3 acc hD3 eD3 hA k3 => ?_)
      · have hi : i < ps.length := by omega
        have z0 : (0 : Int) + (i : Int) = i := by omega
        rw [z0]
        obtain ⟨z, hz⟩ : ∃ z, ps[i]? = some z := ⟨_, List.getElem?_eq_getElem hi⟩
        have ez : ps.getD i (0, 0) = z := by rw [List.getD_eq_getElem?_getD, hz]; rfl
        rw [ez] at q1
        have e1 : atI (List.map V.int (List.map (inR n) (List.map (fun x : Int × Int => x.1) ps))) (i : Int) = some (.int (inR n z.1)) := by
          rw [atI_nat (by omega) (by rw [ll]; omega), Int.toNat_natCast, List.getElem?_map, List.getElem?_map, List.getElem?_map, hz]
          rfl
        obtain ⟨x9, a9, I9⟩ := mapGetJ i2 hz
        rw [Int.zero_add] at a9
        obtain ⟨p9, rfl, s9⟩ := term_at I9
        have sp3 := k3.tup sp2
        walk_at "cg"
        refine r_ixL (k3.get0 eD) e1 ?_
        walk_at "cg"
        refine r_ixT (k3.tup s2) a9 ?_
        have s93 := k3.tup s9
        walk_at "cg"
        rename_i p4 H4 hp4 s4 k4
        exact q1 _ _ (.tup s4 (.cons (.int _) (.cons (.int _) .nil))) k4
      have ea : (List.range ((ps.length : Int)).toNat).map (fun i => tD (inR n (ps.getD i (0, 0)).1, (ps.getD i (0, 0)).2)) = (ps.map fun p => (inR n p.1, p.2)).map tD := by
        rw [Int.toNat_natCast]
        refine List.ext_getElem (by simp) fun i h1 h2 => ?_
        simp only [List.getElem_map, List.getElem_range]
        simp only [List.length_map, List.length_range] at h1
        rw [List.getD_eq_getElem?_getD, List.getElem?_eq_getElem h1]
        rfl
      have hA2 : ImAll K H3 acc ((ps.map fun p => (inR n p.1, p.2)).map tD) := by
        rw [← ea]
        rw [ll] at hA
        exact hA
      walk_at "cg"
      rename_i q4 H4 hq4 s4 k4 q5 H5 hq5 s5 k5
      exact k q5 H5 (step_mk (s := ⟨f, .sum (ps.map fun p => (inR n p.1, p.2))⟩) s5 ((Kp.tr0 k5 (Kp.tr0 k4 k3)).im hf2) (.cons (k5.im (.tup s4 (k4.imAll hA2))) .nil)) (Kp.tr0 k5 (Kp.tr0 k4 (Kp.tr0 k3 K2)))
    | divide i d =>
      dsimp only [Rule.name, Rule.args, Rule.prem, Rule.kept] at sp2 ha2 k eD pl60 I2
      obtain ⟨_, _, rfl, a1, h2⟩ := ha2.c
      obtain ⟨_, _, rfl, a2, h2⟩ := h2.c
      obtain rfl := h2.n
      cases a1; cases a2
      walk_at "cg"
      rename_i q3 H3 hq3 s3 k3
      exact k q3 H3 (step_mk (s := ⟨f, .divide (inR n i) d⟩) s3 (k3.im hf2) (.cons (.int _) (.cons (.int _) .nil))) (Kp.tr0 k3 K2)
    | look x is =>
      dsimp only [Rule.name, Rule.args, Rule.prem, Rule.kept] at sp2 ha2 k eD pl60 I2
      obtain ⟨_, _, rfl, a1, h2⟩ := ha2.c
      obtain ⟨_, _, rfl, a2, h2⟩ := h2.c
      obtain rfl := h2.n
      cases a1
      obtain ⟨qp, rfl⟩ := a2.isRef
      walk_at "cg"
      rename_i q3 H3 hq3 s3 k3 q4 H4 hq4 s4 k4
      exact k q4 H4 (step_mk (s := ⟨f, .look x (is.map (inR n))⟩) s4 ((Kp.tr0 k4 k3).im hf2) (.cons (.str _) (.cons (k4.im (Im.ints s3)) .nil))) (Kp.tr0 k4 (Kp.tr0 k3 K2))
    | thn x i =>
      dsimp only [Rule.name, Rule.args, Rule.prem, Rule.kept] at sp2 ha2 k eD pl60 I2
      obtain ⟨_, _, rfl, a1, h2⟩ := ha2.c
      obtain ⟨_, _, rfl, a2, h2⟩ := h2.c
      obtain rfl := h2.n
      cases a1; cases a2
      walk_at "cg"
      rename_i q3 H3 hq3 s3 k3
      exact k q3 H3 (step_mk (s := ⟨f, .thn x (inR n i)⟩) s3 (k3.im hf2) (.cons (.str _) (.cons (.int _) .nil))) (Kp.tr0 k3 K2)
    | unit is =>
      dsimp only [Rule.name, Rule.args, Rule.prem, Rule.kept] at sp2 ha2 k eD pl60 I2
      obtain ⟨_, _, rfl, a1, h2⟩ := ha2.c
      obtain rfl := h2.n
      obtain ⟨qp, rfl⟩ := a1.isRef
      walk_at "cg"
      rename_i q3 H3 hq3 s3 k3 q4 H4 hq4 s4 k4
      exact k q4 H4 (step_mk (s := ⟨f, .unit (is.map (inR n))⟩) s4 ((Kp.tr0 k4 k3).im hf2) (.cons (k4.im (Im.ints s3)) .nil)) (Kp.tr0 k4 (Kp.tr0 k3 K2))
    | cases i j s t =>
      dsimp only [Rule.name, Rule.args, Rule.prem, Rule.kept] at sp2 ha2 k eD pl60 I2
      obtain ⟨_, _, rfl, a1, h2⟩ := ha2.c
      obtain ⟨_, _, rfl, a2, h2⟩ := h2.c
      obtain ⟨_, _, rfl, a3, h2⟩ := h2.c
      obtain ⟨_, _, rfl, a4, h2⟩ := h2.c
      obtain rfl := h2.n
      cases a1; cases a2; cases a3; cases a4
      walk_at "cg"
      rename_i q3 H3 hq3 s3 k3
      exact k q3 H3 (step_mk (s := ⟨f, .cases (inR n i) (inR n j) (inR n s) (inR n t)⟩) s3 (k3.im hf2) (.cons (.int _) (.cons (.int _) (.cons (.int _) (.cons (.int _) .nil))))) (Kp.tr0 k3 K2)
    | absurd i =>
      dsimp only [Rule.name, Rule.args, Rule.prem, Rule.kept] at sp2 ha2 k eD pl60 I2
      obtain ⟨_, _, rfl, a1, h2⟩ := ha2.c
      obtain rfl := h2.n
      cases a1
      walk_at "cg"
      rename_i q3 H3 hq3 s3 k3
      exact k q3 H3 (step_mk (s := ⟨f, .absurd (inR n i)⟩) s3 (k3.im hf2) (.cons (.int _) .nil)) (Kp.tr0 k3 K2)
    | weaken i =>
      dsimp only [Rule.name, Rule.args, Rule.prem, Rule.kept] at sp2 ha2 k eD pl60 I2
      obtain ⟨_, _, rfl, a1, h2⟩ := ha2.c
      obtain rfl := h2.n
      cases a1
      walk_at "cg"
      rename_i q3 H3 hq3 s3 k3
      exact k q3 H3 (step_mk (s := ⟨f, .weaken (inR n i)⟩) s3 (k3.im hf2) (.cons (.int _) .nil)) (Kp.tr0 k3 K2)
end

def us3 (n : Nat) : List Un := (List.range n).map fun i => (nmS i, (0 : Int), (2 : Int))
theorem mdl25_ok {n : Nat} {fs : List (Str × Body)} (n0 : 1 ≤ n) (n3 : n ≤ 3) (few : fs.length ≤ 3) (hP : ∀ (i : Nat) b, fs[i]? = some b → b.1 = labC (i : Int) ∧ b.2.fit n) : (⟨us3 n, fs, goal0⟩ : Mdl).ok := by
  have hl : (us3 n).length = n := by unfold us3; rw [List.length_map, List.length_range]
  refine ⟨by show 1 ≤ (us3 n).length; omega, by show (us3 n).length ≤ 60; omega, fun u hu => ?_, ?_, fun b hb => ?_, ?_, fun b hb => ?_, by show fs.length ≤ 200; omega, (show Goal.fit ((us3 n).length : Nat) goal0 from ⟨⟨Nat.zero_le _, List.Pairwise.nil, fun z hz => by cases hz⟩, (show (-1000000000 : Int) ≤ 0 by decide), (show (0 : Int) ≤ 1000000000 by decide)⟩)⟩
  · obtain ⟨i, hi, rfl⟩ := List.mem_map.mp hu
    rw [List.mem_range] at hi
    have q := nmS_ok i (by omega)
    exact ⟨q.1, Nat.le_trans q.2 (by decide), (show (-1000 : Int) ≤ 0 by decide), (show (0 : Int) ≤ 2 by decide), (show (2 : Int) ≤ 1000 by decide)⟩
  · show ((us3 n).map (·.1)).Nodup
    unfold us3
    rw [List.map_map]
    exact nodup_map_range fun i hi j hj => nmS_inj i (by omega) j (by omega)
  · have hb : b ∈ fs := hb
    obtain ⟨j, hj⟩ := List.getElem?_of_mem hb
    have hjl := (List.getElem?_eq_some_iff.mp hj).1
    obtain ⟨e, _⟩ := hP j b hj
    have lo := labC_ok (k := (j : Int)) (by omega) (by omega)
    rw [e]
    exact ⟨lo.1, by omega⟩
  · show (fs.map (·.1)).Nodup
    refine List.pairwise_iff_getElem.mpr fun i j hi hj hij e => ?_
    rw [List.length_map] at hi hj
    rw [List.getElem_map, List.getElem_map] at e
    have a := (hP i _ (List.getElem?_eq_getElem hi)).1
    have b := (hP j _ (List.getElem?_eq_getElem hj)).1
    rw [a, b] at e
    have := labC_inj (by omega) (by omega) (by omega) (by omega) e
    omega
  · have hb : b ∈ fs := hb
    obtain ⟨j, hj⟩ := List.getElem?_of_mem hb
    have := (hP j b hj).2
    show b.2.fit ((us3 n).length : Nat)
    rw [hl]
    exact this
theorem ints_shp (xs : List Int) : Shp 1 (.list (xs.map PyData.int)) := .list fun d hd => by
  obtain ⟨x, _, rfl⟩ := List.mem_map.mp hd
  exact .int _
theorem intss_shp (xs : List (List Int)) : Shp 2 (.list (xs.map intsD)) := .list fun d hd => by
  obtain ⟨x, _, rfl⟩ := List.mem_map.mp hd
  exact intsD_shp x
section
variable {P : Program} {w : World} {K : PySem.W.Frag} {mg : Str → Option Value} {base : Heap}
theorem ok_law {f : Addr} {fd : FuncData} (F : Fun K "law" "law" s_law f fd) (B : Bi K mg) (D_law_tape : Is P w K mg base CX0 1 "_law_tape" ["_law_script"] (spTape K)) (D_law_unknowns : Is P w K mg base CX0 2 "_law_unknowns" ["_law_tape_here"] (spUnk25 K)) (D_unders : Is P w K mg base CX0 3 "unders" ["steps"] (spUnders K)) (D_law_draw : Is P w K mg base CX0 1 "_law_draw" ["_law_tape_here", "_law_many"] spDraw) (D_refers_to : Is P w K mg base CX0 2 "refers_to" ["step"] (spPrem K)) (D_law_body : Is P w K mg base CX0 3 "_law_body" ["_law_tape_here", "_law_many"] (spLawBody K)) (D_law_kept : Is P w K mg base CX0 2 "_law_kept" ["_law_step_here", "_law_n"] (spKept K)) (D_law_under : Is P w K mg base CX0 2 "_law_under" ["_law_steps"] (spUnder K)) (D_law_step : Is P w K mg base CX0 5 "_law_step" ["_law_tape_here", "_law_world", "_law_steps"] (spStepS K)) (D_law_refers : Is P w K mg base CX0 1 "_law_refers" ["_law_step_here"] (spPrem K)) : FnOk P w K mg base CX0 6 f fd ["_law_script"] (spLaw K) := by
  have nd := sc_law.nd
  refine F.ok sc_law ?len (fun cdv A outer s H vs Q E hr h => ?body)
  case len =>
    rintro vs H Q E ⟨a, ns, rfl, _⟩
    rfl
  case body =>
    obtain ⟨a, ns, rfl, hS, hl, q⟩ := h
    refine ⟨_, (pss_cons (ps_set (i := 1) nd rfl (Or.inr rfl) (pe_is D_law_tape (hr.mono (by decide)) rfl pass0 (pa_cons (pv 0) pa_nil)))
      (pss_cons (ps_set (i := 2) nd rfl (Or.inr rfl) (pe_is D_law_unknowns (hr.mono (by decide)) rfl pass0 (pa_cons (pv 1) pa_nil)))
      (pss_cons (ps_setLc (i := 3) (own := [("_law_k", 5)]) (g := (gName 5)) (tt := tYes) rfl nd rfl rfl (sw_true rfl rfl rfl (by decide +kernel)) (pi_range1 rfl B.n_range (pa_cons (pe_is D_law_draw (hr.mono (by decide)) rfl pass0 (pa_cons (pv 1) (pa_cons pe_int pa_nil))) pa_nil)) (blkOk_by (N := ["_law_script", "_law_tape_here", "_law_unknowns_here", "_law_bodies", "_law_steps", "_law_k", "_law_step_here", "_law_found", "_law_told"]) (sc := defScope s_law) (by decide +kernel)) (fun _ _ _ _ _ => (pg_name (i := 5) nd rfl (Or.inl rfl))) (fun _ _ _ _ _ => pts_nil) (fun _ _ _ _ _ => (pe_tup (pa_cons (pe_op cg_addS pe_str (pe_callTy cg_strI (by rfl) B.n_str (by decide +kernel) (pa_cons (pv 5) pa_nil))) (pa_cons (pe_is D_law_body (hr.mono (by decide)) rfl pass0 (pa_cons (pv 1) (pa_cons (pe_callB (cgLen K) (by rfl) B.n_len PySem.boot_len (pa_cons (pv 2) pa_nil)) pa_nil))) pa_nil)))))
      (pss_cons (ps_set (i := 4) nd rfl (Or.inl rfl) (pe_lst (pa_cons (pe_tup (pa_cons (pe_tup (pa_cons pe_str (pa_cons (pe_tup (pa_cons (pe_tup (pa_cons pe_int (pa_cons pe_str (pa_cons pe_int pa_nil)))) pa_nil)) pa_nil))) (pa_cons pe_str pa_nil))) pa_nil)))
      (pss_cons (ps_for PassesOwn.never rfl (pi_range1 rfl B.n_range (pa_cons (pe_is D_law_draw (hr.mono (by decide)) rfl pass0 (pa_cons (pv 1) (pa_cons pe_int pa_nil))) pa_nil)) (pg_name (i := 5) nd rfl (Or.inl rfl))
      (pss_one (ps_expr (pe_bm PySem.F.plainAttrs_list PySem.F.slot_list_append PySem.F.type_list_append mt_append (pv 4) (pa_cons (pe_is D_law_kept (hr.mono (by decide)) rfl pass0 (pa_cons (pe_is D_law_step (hr.mono (by decide)) rfl pass0 (pa_cons (pv 1) (pa_cons (pe_lst (pa_cons (pv 2) (pa_cons (pv 3) (pa_cons pe_int pa_nil)))) (pa_cons (pv 4) pa_nil)))) (pa_cons (pe_callB (cgLen K) (by rfl) B.n_len PySem.boot_len (pa_cons (pv 4) pa_nil)) pa_nil))) pa_nil)))))
      (pss_cons (ps_for PassesOwn.never rfl ((piLst K) (pv 4)) (pg_name (i := 6) nd rfl (Or.inl rfl))
      (pss_cons (ps_set (i := 7) nd rfl (Or.inl rfl) (pe_is D_refers_to (hr.mono (by decide)) rfl pass0 (pa_cons (pv 6) pa_nil)))
      (pss_one (ps_if (PW.pt (pw_or (pt_not (pt_val (pe_callB (cgIsi K) (by rfl) B.n_isinstance (by decide +kernel) (pa_cons (pv 7) (pa_cons (pe_bltn (v := .ty "list") rfl B.n_list (by decide +kernel) rfl) pa_nil))))) (pw_or1 (pt_cmpR (neD K hr) (pv 7) (pe_is D_law_refers (hr.mono (by decide)) rfl pass0 (pa_cons (pv 6) pa_nil)) (nomark _)))))
      (pss_one (ps_ret pe_bl))
      pss_nil))))
      (pss_cons (ps_set (i := 8) nd rfl (Or.inl rfl) (pe_is D_unders (hr.mono (by decide)) rfl pass0 (pa_cons (pe_callTy (cgTuple K) (by rfl) B.n_tuple (by decide +kernel) (pa_cons (pv 4) pa_nil)) pa_nil)))
      (pss_one (ps_ret (pe_and (pe_callB (cgIsi K) (by rfl) B.n_isinstance (by decide +kernel) (pa_cons (pv 8) (pa_cons (pe_bltn (v := .ty "list") rfl B.n_list (by decide +kernel) rfl) pa_nil))) (pe_one (pe_cmpR (eqD K hr) (pv 8) (pe_is D_law_under (hr.mono (by decide)) rfl pass0 (pa_cons (pv 4) pa_nil)) (nomark _))))))))))))), ?_⟩
    try dsimp only [L2.cxOf, L2.Cx.nox, L2.Cx.wish]
    rw [st_law]
    walk_at "cg"
    refine ⟨a, ns, rfl, hS, fun t c H1 ht hc T1 k1 => ?_⟩
    clear k1
    walk_at "cg"
    refine ⟨t, c, rfl, T1, fun lu ru n H2 hlu eu n0 n3 AU T2 k2 => ?_⟩
    have nut : lu ≠ t := Tp.nef hlu T1
    have AU : ImAll K H2 ru ((us3 n).map unD) := AU
    have ul : (us3 n).length = n := by unfold us3; rw [List.length_map, List.length_range]
    have hrl := mapLenP AU
    clear k2 T1 hlu
    walk_at "cg"
    rename_i dn H3 dn0 dn1 T3 k3
    have e3 := k3.get1 nut eu
    have A3 := k3.imAll AU
    clear k3 eu AU T2
    refine lcR_d (K := K) labD (fun i (a : Str × Body) => a.1 = labC (i : Int) ∧ a.2.fit n) T3 (by omega) (fun j H' R R' hj T' k' q' => ?_) (fun lf H4 rf fs hlf ef hfl hP AF T4 k4 => ?_)
    · have hj10 : (0 : Int) ≤ 0 + (j : Int) ∧ (0 : Int) + (j : Int) < 10 := by omega
      have lo := labC_ok hj10.1 hj10.2
      walk_at "cg"
      refine r_strI hj10.1 (by omega) ?_
      walk_at "cg"
      refine r_addS (by omega) ?_
      have e3' := k'.get1 nut e3
      walk_at "cg"
      refine ⟨t, c, _, rfl, T', by omega, by omega, fun pb b H6 I6 fb T6 k6 => ?_⟩
      walk_at "cg"
      refine q' _ _ (labC (j : Int), b) ⟨rfl, by rw [← ul, ← hrl]; exact fb⟩ ?_ (by walk_at "cg h") (by walk_at "cg kp")
      refine .tup (ds := [.str (labC (j : Int)), b.d]) (xs := [.str (labC (0 + (j : Int))), .ref pb]) (by assumption) ?_
      rw [Int.zero_add]
      exact .cons (.str _) (.cons (by walk_at "cg h") .nil)
    have nft : lf ≠ t := Tp.nef hlf T3
    have e4 := k4.get1 nut e3
    have A4 := k4.imAll A3
    have okM := mdl25_ok (fs := fs) n0 n3 (by omega) hP
    have nuf : lu ≠ lf := ne_newL hlf e3
    clear k4 e3 A3 T3 hlf hP
    walk_at "cg"
    rename_i p5 H5 hp5 s5 k5 p6 H6 hp6 s6 k6 p7 H7 hp7 s7 k7 p8 H8 hp8 s8 k8 ls H9 hls e9 k9 d10 H10 d100 d101 T10 k10
    have st0 : Im K H9 (.ref p8) (Step.d ⟨.any [⟨0, .eq, 1⟩], .suppose⟩) := k9.im (step_mk (s := ⟨.any [⟨0, .eq, 1⟩], .suppose⟩) s8 (k8.im (any_mk s7 (k7.im (.tup s6 (.cons (k6.im (.tup s5 (.cons (.int _) (.cons (.str _) (.cons (.int _) .nil))))) .nil))))) .nil)
    have K9 := Kp.tr0 k9 (Kp.tr0 k8 (Kp.tr0 k7 (Kp.tr0 k6 k5)))
    have T8 := T4.kp0 (Kp.tr0 k8 (Kp.tr0 k7 (Kp.tr0 k6 k5)))
    have nlt : ls ≠ t := Tp.nef hls T8
    have nlc : ls ≠ c := Tp.nefc hls T8
    have nul : lu ≠ ls := ne_newL hls ((Kp.tr0 k8 (Kp.tr0 k7 (Kp.tr0 k6 k5))).get0 e4)
    have nfl : lf ≠ ls := ne_newL hls ((Kp.tr0 k8 (Kp.tr0 k7 (Kp.tr0 k6 k5))).get0 ef)
    have eu9 := K9.get0 e4
    have AU9 := K9.imAll A4
    have ef9 := K9.get0 ef
    have AF9 := K9.imAll AF
    clear k5 k6 k7 k8 k9 K9 s5 s6 s7 s8 hp5 hp6 hp7 hp8 hls T8 e4 A4 ef AF T4
    have sin0 : StIn n (bndB 1) (40 + 1) [⟨.any [⟨0, .eq, 1⟩], .suppose⟩] := by
      refine stin_up (i := 0) ⟨fun s hs => ?_, (bndB_le (by decide)).1, (bndB_le (by decide)).2.1, by decide, by decide, n0, by omega, by decide⟩ (by decide)
      rw [List.mem_singleton] at hs
      subst hs
      refine sz_any (fun l hl => ?_) (by decide) (by decide) (by decide)
      rw [List.mem_singleton] at hl
      subst hl
      exact ⟨by decide, by show (0 : Int) < n; omega, by decide⟩
    have eu10 := k10.get1 nut eu9
    have AU10 := k10.imAll AU9
    have ef10 := k10.get1 nft ef9
    have AF10 := k10.imAll AF9
    have e10 := k10.get1 nlt e9
    have st10 := k10.im st0
    clear k10 eu9 AU9 ef9 AF9 e9 st0
    refine r_forR (fun i σ' H' => ∃ (ss : List Step) (refs : List V) (x5 x6 : Option V), σ' = [some (.ref a), some (.ref t), some (.ref lu), some (.ref lf), some (.ref ls), x5, none, none, none] ∧ (i ≤ 9 → StIn n (bndB (i + 1)) (40 + (i + 1)) ss) ∧ ss.length = i + 1 ∧ (∀ s ∈ ss, s.r.num) ∧ (∀ (j : Nat) st, ss[j]? = some st → ∀ v ∈ st.r.prem, 0 ≤ v ∧ v < j) ∧ H' ls = some (.lst refs) ∧ ImAll K H' refs (ss.map Step.d) ∧ H' lu = some (.lst ru) ∧ ImAll K H' ru ((us3 n).map unD) ∧ H' lf = some (.lst rf) ∧ ImAll K H' rf (fs.map labD) ∧ Tp t c H')
      ⟨[⟨.any [⟨0, .eq, 1⟩], .suppose⟩], _, _, none, rfl, (fun _ => sin0), rfl, (fun s hs => by rw [List.mem_singleton] at hs; rw [hs]; trivial), (fun j st hj v hv => by
        have : st = ⟨.any [⟨0, .eq, 1⟩], .suppose⟩ := by have := List.mem_of_getElem? hj; simpa using this
        subst this
        cases hv), e10, .cons st10 .nil, eu10, AU10, ef10, AF10, T10⟩ ?_ ?_
    · clear sin0 e10 st10 eu10 AU10 ef10 AF10 T10
      rintro i σ' H11 hi ⟨ss, refs, x5, x6, rfl, sin, sl, snum, sprm, e11, A11, eu11, AU11, ef11, AF11, T11⟩
      have hi : i ≤ 8 := by omega
      have hrl2 := mapLenP A11
      walk_at "cg"
      rename_i lw H12 hlw e12 k12
      have nwt : lw ≠ t := Tp.nef hlw T11
      have W12 : WorldB K H12 ⟨lw, lu, lf⟩ ⟨us3 n, fs, goal0⟩ := ⟨⟨_, e12, trivial⟩, ⟨_, k12.get0 eu11, k12.imAll AU11⟩, ⟨_, k12.get0 ef11, k12.imAll AF11⟩, ⟨ne_newR hlw eu11, ne_newR hlw ef11⟩⟩
      have off : offW ⟨lw, lu, lf⟩ t := fun x hx => by
        simp only [WA.all, List.mem_cons, List.not_mem_nil, or_false] at hx
        rcases hx with rfl | rfl | rfl
        · exact nwt
        · exact nut
        · exact nft
      have E12 : EntAt K H12 ls (ss.map some) := ⟨refs, k12.get0 e11, by rw [List.map_map]; exact k12.imAll A11⟩
      have sin' : StIn (⟨us3 n, fs, goal0⟩ : Mdl).us.length (bndB (i + 1)) (40 + (i + 1)) ss := by
        show StIn (us3 n).length _ _ _
        rw [ul]
        exact sin (by omega)
      refine ⟨t, c, ls, ⟨lw, lu, lf⟩, ⟨us3 n, fs, goal0⟩, ss, bndB (i + 1), 40 + (i + 1), rfl, T11.kp0 k12, W12, okM, off, E12, nlt, sin', fun p13 st H13 I13 so T13 k13 => ?_⟩
      have K13 := Kp.tr1 k13 (Kp.tr0 k12 (Tp.base T11))
      have e13 := K13.get1 nlt e11
      have A13 := K13.imAll A11
      have eu13 := K13.get1 nut eu11
      have AU13 := K13.imAll AU11
      have ef13 := K13.get1 nft ef11
      have AF13 := K13.imAll AF11
      clear k12 k13 K13 W12 E12 e11 A11 eu11 AU11 ef11 AF11 T11 e12 hlw off sin'
      have so : StepOk n (6 * bndB (i + 1)) (40 + (i + 1) + 1) st := by
        have so : StepOk (us3 n).length (6 * bndB (i + 1)) (40 + (i + 1) + 1) st := so
        rw [ul] at so
        exact so
      walk_at "cg"
      refine ⟨p13, st, _, rfl, I13, so.2, fun p14 H14 I14 k14 => ?_⟩
      have T14 := T13.kp0 k14
      have e14 := k14.get0 e13
      have A14 := k14.imAll A13
      have eu14 := k14.get0 eu13
      have AU14 := k14.imAll AU13
      have ef14 := k14.get0 ef13
      have AF14 := k14.imAll AF13
      clear k14 T13 e13 A13 eu13 AU13 ef13 AF13
      walk_at "cg"
      rename_i H15 e15 k15
      refine ⟨ss ++ [⟨st.f, st.r.kept refs.length⟩], _, _, none, rfl, fun h => ?_, by simp [sl], fun s hs => ?_, fun j s hj v hv => ?_, e15, ?_, k15.get1 nul eu14, k15.imAll AU14, k15.get1 nfl ef14, k15.imAll AF14, T14.kp1 k15 nlt.symm nlc.symm⟩
      · exact stin_app (sin (by omega)) (by omega) (by omega) ⟨so.1, Rule.kept_num so.2⟩
      · rcases List.mem_append.mp hs with h | h
        · exact snum s h
        · rw [List.mem_singleton] at h
          subst h
          exact Rule.kept_num so.2
      · rcases Nat.lt_or_ge j ss.length with h | h
        · rw [List.getElem?_append_left h] at hj
          exact sprm j s hj v hv
        · rw [List.getElem?_append_right h] at hj
          have hj0 := (List.getElem?_eq_some_iff.mp hj).1
          have e0 : j - ss.length = 0 := by simp at hj0; omega
          rw [e0] at hj
          simp at hj
          subst hj
          rw [Rule.kept_prem] at hv
          obtain ⟨y, _, rfl⟩ := List.mem_map.mp hv
          have := inR_ok (n := (refs.length : Int)) (i := y) (by omega)
          omega
      · rw [List.map_append]
        exact (k15.imAll A14).snoc (k15.im I14)
    · clear sin0 e10 st10 eu10 AU10 ef10 AF10 T10
      rintro σ' H11 ⟨ss, refs, x5, x6, rfl, sin, sl, snum, sprm, e11, A11, eu11, AU11, ef11, AF11, T11⟩
      have hrl2 := mapLenP A11
      have s59 : ss.length ≤ 59 := by omega
      clear eu11 AU11 ef11 AF11 T11 sin
      walk_at "cg"
      refine r_forLD [] e11 (fun z => nomatch z) A11 (fun i σ' H' => ∃ x5 x6 x7 : Option V, σ' = [some (.ref a), some (.ref t), some (.ref lu), some (.ref lf), some (.ref ls), x5, x6, x7, none] ∧ Kp [] H11 H') ⟨_, _, _, rfl, .refl⟩ (fun i σ' H' ⟨_, _, _, _, kk⟩ => kk) ?_ ?_
      · rintro i st x σ' H12 hst hx k12 ⟨y5, y6, y7, rfl, _⟩
        obtain ⟨ps, rfl⟩ := Im.isRef (show Im K H12 x (.tuple _) from hx)
        have nm := snum st (List.mem_of_getElem? hst)
        walk_at "cg"
        refine ⟨ps, st, rfl, hx, Rule.num_bd nm, fun l13 H13 e13 k13 => ?_⟩
        walk_at "cg"
        refine ⟨ps, st, rfl, k13.im hx, Rule.num_bd nm, fun l14 H14 e14 k14 => ?_⟩
        have sh := ints_shp st.r.prem
        walk_at "cg"
        refine ⟨_, _, .lst (SqL.of (k14.get0 e13)) (ImAll.dp (imInts _)), .lst (SqL.of e14) (ImAll.dp (imInts _)), sh.ok, sh.ok, ?_⟩
        rw [sh.self]
        walk_at "cg"
        exact ⟨_, _, _, rfl, Kp.tr0 k14 (Kp.tr0 k13 k12)⟩
      · rintro σ' H12 k12 ⟨y5, y6, y7, rfl, _⟩
        have e12 := k12.get0 e11
        have A12 := k12.imAll A11
        walk_at "cg"
        rename_i p13 H13 hp13 s13 k13
        refine ⟨p13, ss, rfl, .tup s13 (k13.imAll A12), s59, snum, sprm, fun d14 us14 H14 e14 U14 k14 => ?_⟩
        have K14 := Kp.tr0 k14 k13
        walk_at "cg"
        refine ⟨ls, refs, ss, rfl, K14.get0 e12, K14.imAll A12, by omega, snum, sprm, fun d15 us15 H15 e15 U15 k15 => ?_⟩
        have sh := intss_shp (und ss)
        walk_at "cg"
        refine ⟨_, _, .lst (SqL.of (k15.get0 e14)) (ImAll.dp (k15.imAll U14)), .lst (SqL.of e15) (ImAll.dp U15), sh.ok, sh.ok, ?_⟩
        rw [sh.self]
        exact q _
end

theorem all_mk {l : PySem.W.OpenLaw} {w : World} {K : PySem.W.Frag} {h : Heap} {mg : Str → Option Value} {fa : Addr} (X : K.In h) (G : h.Ns mainGlobals mg) (hfa : mg "law" = some (.ref fa))
    {od_premises_of an_premises_of : Option Addr} {sl_premises_of : Array (Option Value)} {f_premises_of : Addr} {oc_premises_of kV_premises_of dc_premises_of pm_premises_of cd_premises_of ct_premises_of : Value}
    {od_refers_to an_refers_to : Option Addr} {sl_refers_to : Array (Option Value)} {f_refers_to : Addr} {oc_refers_to kV_refers_to dc_refers_to pm_refers_to cd_refers_to ct_refers_to : Value}
    {od_under_of an_under_of : Option Addr} {sl_under_of : Array (Option Value)} {f_under_of : Addr} {oc_under_of kV_under_of dc_under_of pm_under_of cd_under_of ct_under_of : Value}
    {od_unders an_unders : Option Addr} {sl_unders : Array (Option Value)} {f_unders : Addr} {oc_unders kV_unders dc_unders pm_unders cd_unders ct_unders : Value}
    {od_law_draw an_law_draw : Option Addr} {sl_law_draw : Array (Option Value)} {f_law_draw : Addr} {oc_law_draw kV_law_draw dc_law_draw pm_law_draw cd_law_draw ct_law_draw : Value}
    {od_law_tape an_law_tape : Option Addr} {sl_law_tape : Array (Option Value)} {f_law_tape : Addr} {oc_law_tape kV_law_tape dc_law_tape pm_law_tape cd_law_tape ct_law_tape : Value}
    {od_law_terms an_law_terms : Option Addr} {sl_law_terms : Array (Option Value)} {f_law_terms : Addr} {oc_law_terms kV_law_terms dc_law_terms pm_law_terms cd_law_terms ct_law_terms : Value}
    {od_law_literal an_law_literal : Option Addr} {sl_law_literal : Array (Option Value)} {f_law_literal : Addr} {oc_law_literal kV_law_literal dc_law_literal pm_law_literal cd_law_literal ct_law_literal : Value}
    {od_law_some an_law_some : Option Addr} {sl_law_some : Array (Option Value)} {f_law_some : Addr} {oc_law_some kV_law_some dc_law_some pm_law_some cd_law_some ct_law_some : Value}
    {od_law_body an_law_body : Option Addr} {sl_law_body : Array (Option Value)} {f_law_body : Addr} {oc_law_body kV_law_body dc_law_body pm_law_body cd_law_body ct_law_body : Value}
    {od_law_fact an_law_fact : Option Addr} {sl_law_fact : Array (Option Value)} {f_law_fact : Addr} {oc_law_fact kV_law_fact dc_law_fact pm_law_fact cd_law_fact ct_law_fact : Value}
    {od_law_as_row an_law_as_row : Option Addr} {sl_law_as_row : Array (Option Value)} {f_law_as_row : Addr} {oc_law_as_row kV_law_as_row dc_law_as_row pm_law_as_row cd_law_as_row ct_law_as_row : Value}
    {od_law_negation an_law_negation : Option Addr} {sl_law_negation : Array (Option Value)} {f_law_negation : Addr} {oc_law_negation kV_law_negation dc_law_negation pm_law_negation cd_law_negation ct_law_negation : Value}
    {od_law_written an_law_written : Option Addr} {sl_law_written : Array (Option Value)} {f_law_written : Addr} {oc_law_written kV_law_written dc_law_written pm_law_written cd_law_written ct_law_written : Value}
    {od_law_pick an_law_pick : Option Addr} {sl_law_pick : Array (Option Value)} {f_law_pick : Addr} {oc_law_pick kV_law_pick dc_law_pick pm_law_pick cd_law_pick ct_law_pick : Value}
    {od_law_fact_of an_law_fact_of : Option Addr} {sl_law_fact_of : Array (Option Value)} {f_law_fact_of : Addr} {oc_law_fact_of kV_law_fact_of dc_law_fact_of pm_law_fact_of cd_law_fact_of ct_law_fact_of : Value}
    {od_law_moved an_law_moved : Option Addr} {sl_law_moved : Array (Option Value)} {f_law_moved : Addr} {oc_law_moved kV_law_moved dc_law_moved pm_law_moved cd_law_moved ct_law_moved : Value}
    {od_law_added an_law_added : Option Addr} {sl_law_added : Array (Option Value)} {f_law_added : Addr} {oc_law_added kV_law_added dc_law_added pm_law_added cd_law_added ct_law_added : Value}
    {od_law_by_label an_law_by_label : Option Addr} {sl_law_by_label : Array (Option Value)} {f_law_by_label : Addr} {oc_law_by_label kV_law_by_label dc_law_by_label pm_law_by_label cd_law_by_label ct_law_by_label : Value}
    {od_law_opposed an_law_opposed : Option Addr} {sl_law_opposed : Array (Option Value)} {f_law_opposed : Addr} {oc_law_opposed kV_law_opposed dc_law_opposed pm_law_opposed cd_law_opposed ct_law_opposed : Value}
    {od_law_by_steps an_law_by_steps : Option Addr} {sl_law_by_steps : Array (Option Value)} {f_law_by_steps : Addr} {oc_law_by_steps kV_law_by_steps dc_law_by_steps pm_law_by_steps cd_law_by_steps ct_law_by_steps : Value}
    {od_law_step an_law_step : Option Addr} {sl_law_step : Array (Option Value)} {f_law_step : Addr} {oc_law_step kV_law_step dc_law_step pm_law_step cd_law_step ct_law_step : Value}
    {od_law_refers an_law_refers : Option Addr} {sl_law_refers : Array (Option Value)} {f_law_refers : Addr} {oc_law_refers kV_law_refers dc_law_refers pm_law_refers cd_law_refers ct_law_refers : Value}
    {od_law_under an_law_under : Option Addr} {sl_law_under : Array (Option Value)} {f_law_under : Addr} {oc_law_under kV_law_under dc_law_under pm_law_under cd_law_under ct_law_under : Value}
    {od_law_unknowns an_law_unknowns : Option Addr} {sl_law_unknowns : Array (Option Value)} {f_law_unknowns : Addr} {oc_law_unknowns kV_law_unknowns dc_law_unknowns pm_law_unknowns cd_law_unknowns ct_law_unknowns : Value}
    {od_law_kept an_law_kept : Option Addr} {sl_law_kept : Array (Option Value)} {f_law_kept : Addr} {oc_law_kept kV_law_kept dc_law_kept pm_law_kept cd_law_kept ct_law_kept : Value}
    {od_law an_law : Option Addr} {sl_law : Array (Option Value)} {f_law : Addr} {oc_law kV_law dc_law pm_law cd_law ct_law : Value}
    (a_premises_of : PySem.W.nsIn K mainGlobals "premises_of" = some (some (.ref f_premises_of))) (l_premises_of : K.lookup f_premises_of = some ⟨oc_premises_of, od_premises_of, .func (PySem.W.fnOf "premises_of" "premises_of" (defArgs s_premises_of) (defBody s_premises_of) (defScope s_premises_of) .none kV_premises_of dc_premises_of pm_premises_of an_premises_of cd_premises_of ct_premises_of), sl_premises_of⟩) (c_premises_of : PySem.W.codeIn K cd_premises_of "premises_of" = true) (k_premises_of : PySem.W.keepIn K (.ref f_premises_of) = true)
    (a_refers_to : PySem.W.nsIn K mainGlobals "refers_to" = some (some (.ref f_refers_to))) (l_refers_to : K.lookup f_refers_to = some ⟨oc_refers_to, od_refers_to, .func (PySem.W.fnOf "refers_to" "refers_to" (defArgs s_refers_to) (defBody s_refers_to) (defScope s_refers_to) .none kV_refers_to dc_refers_to pm_refers_to an_refers_to cd_refers_to ct_refers_to), sl_refers_to⟩) (c_refers_to : PySem.W.codeIn K cd_refers_to "refers_to" = true) (k_refers_to : PySem.W.keepIn K (.ref f_refers_to) = true)
    (a_under_of : PySem.W.nsIn K mainGlobals "under_of" = some (some (.ref f_under_of))) (l_under_of : K.lookup f_under_of = some ⟨oc_under_of, od_under_of, .func (PySem.W.fnOf "under_of" "under_of" (defArgs s_under_of) (defBody s_under_of) (defScope s_under_of) .none kV_under_of dc_under_of pm_under_of an_under_of cd_under_of ct_under_of), sl_under_of⟩) (c_under_of : PySem.W.codeIn K cd_under_of "under_of" = true) (k_under_of : PySem.W.keepIn K (.ref f_under_of) = true)
    (a_unders : PySem.W.nsIn K mainGlobals "unders" = some (some (.ref f_unders))) (l_unders : K.lookup f_unders = some ⟨oc_unders, od_unders, .func (PySem.W.fnOf "unders" "unders" (defArgs s_unders) (defBody s_unders) (defScope s_unders) .none kV_unders dc_unders pm_unders an_unders cd_unders ct_unders), sl_unders⟩) (c_unders : PySem.W.codeIn K cd_unders "unders" = true) (k_unders : PySem.W.keepIn K (.ref f_unders) = true)
    (a_law_draw : PySem.W.nsIn K mainGlobals "_law_draw" = some (some (.ref f_law_draw))) (l_law_draw : K.lookup f_law_draw = some ⟨oc_law_draw, od_law_draw, .func (PySem.W.fnOf "_law_draw" "_law_draw" (defArgs s_law_draw) (defBody s_law_draw) (defScope s_law_draw) .none kV_law_draw dc_law_draw pm_law_draw an_law_draw cd_law_draw ct_law_draw), sl_law_draw⟩) (c_law_draw : PySem.W.codeIn K cd_law_draw "_law_draw" = true) (k_law_draw : PySem.W.keepIn K (.ref f_law_draw) = true)
    (a_law_tape : PySem.W.nsIn K mainGlobals "_law_tape" = some (some (.ref f_law_tape))) (l_law_tape : K.lookup f_law_tape = some ⟨oc_law_tape, od_law_tape, .func (PySem.W.fnOf "_law_tape" "_law_tape" (defArgs s_law_tape) (defBody s_law_tape) (defScope s_law_tape) .none kV_law_tape dc_law_tape pm_law_tape an_law_tape cd_law_tape ct_law_tape), sl_law_tape⟩) (c_law_tape : PySem.W.codeIn K cd_law_tape "_law_tape" = true) (k_law_tape : PySem.W.keepIn K (.ref f_law_tape) = true)
    (a_law_terms : PySem.W.nsIn K mainGlobals "_law_terms" = some (some (.ref f_law_terms))) (l_law_terms : K.lookup f_law_terms = some ⟨oc_law_terms, od_law_terms, .func (PySem.W.fnOf "_law_terms" "_law_terms" (defArgs s_law_terms) (defBody s_law_terms) (defScope s_law_terms) .none kV_law_terms dc_law_terms pm_law_terms an_law_terms cd_law_terms ct_law_terms), sl_law_terms⟩) (c_law_terms : PySem.W.codeIn K cd_law_terms "_law_terms" = true) (k_law_terms : PySem.W.keepIn K (.ref f_law_terms) = true)
    (a_law_literal : PySem.W.nsIn K mainGlobals "_law_literal" = some (some (.ref f_law_literal))) (l_law_literal : K.lookup f_law_literal = some ⟨oc_law_literal, od_law_literal, .func (PySem.W.fnOf "_law_literal" "_law_literal" (defArgs s_law_literal) (defBody s_law_literal) (defScope s_law_literal) .none kV_law_literal dc_law_literal pm_law_literal an_law_literal cd_law_literal ct_law_literal), sl_law_literal⟩) (c_law_literal : PySem.W.codeIn K cd_law_literal "_law_literal" = true) (k_law_literal : PySem.W.keepIn K (.ref f_law_literal) = true)
    (a_law_some : PySem.W.nsIn K mainGlobals "_law_some" = some (some (.ref f_law_some))) (l_law_some : K.lookup f_law_some = some ⟨oc_law_some, od_law_some, .func (PySem.W.fnOf "_law_some" "_law_some" (defArgs s_law_some) (defBody s_law_some) (defScope s_law_some) .none kV_law_some dc_law_some pm_law_some an_law_some cd_law_some ct_law_some), sl_law_some⟩) (c_law_some : PySem.W.codeIn K cd_law_some "_law_some" = true) (k_law_some : PySem.W.keepIn K (.ref f_law_some) = true)
    (a_law_body : PySem.W.nsIn K mainGlobals "_law_body" = some (some (.ref f_law_body))) (l_law_body : K.lookup f_law_body = some ⟨oc_law_body, od_law_body, .func (PySem.W.fnOf "_law_body" "_law_body" (defArgs s_law_body) (defBody s_law_body) (defScope s_law_body) .none kV_law_body dc_law_body pm_law_body an_law_body cd_law_body ct_law_body), sl_law_body⟩) (c_law_body : PySem.W.codeIn K cd_law_body "_law_body" = true) (k_law_body : PySem.W.keepIn K (.ref f_law_body) = true)
    (a_law_fact : PySem.W.nsIn K mainGlobals "_law_fact" = some (some (.ref f_law_fact))) (l_law_fact : K.lookup f_law_fact = some ⟨oc_law_fact, od_law_fact, .func (PySem.W.fnOf "_law_fact" "_law_fact" (defArgs s_law_fact) (defBody s_law_fact) (defScope s_law_fact) .none kV_law_fact dc_law_fact pm_law_fact an_law_fact cd_law_fact ct_law_fact), sl_law_fact⟩) (c_law_fact : PySem.W.codeIn K cd_law_fact "_law_fact" = true) (k_law_fact : PySem.W.keepIn K (.ref f_law_fact) = true)
    (a_law_as_row : PySem.W.nsIn K mainGlobals "_law_as_row" = some (some (.ref f_law_as_row))) (l_law_as_row : K.lookup f_law_as_row = some ⟨oc_law_as_row, od_law_as_row, .func (PySem.W.fnOf "_law_as_row" "_law_as_row" (defArgs s_law_as_row) (defBody s_law_as_row) (defScope s_law_as_row) .none kV_law_as_row dc_law_as_row pm_law_as_row an_law_as_row cd_law_as_row ct_law_as_row), sl_law_as_row⟩) (c_law_as_row : PySem.W.codeIn K cd_law_as_row "_law_as_row" = true) (k_law_as_row : PySem.W.keepIn K (.ref f_law_as_row) = true)
    (a_law_negation : PySem.W.nsIn K mainGlobals "_law_negation" = some (some (.ref f_law_negation))) (l_law_negation : K.lookup f_law_negation = some ⟨oc_law_negation, od_law_negation, .func (PySem.W.fnOf "_law_negation" "_law_negation" (defArgs s_law_negation) (defBody s_law_negation) (defScope s_law_negation) .none kV_law_negation dc_law_negation pm_law_negation an_law_negation cd_law_negation ct_law_negation), sl_law_negation⟩) (c_law_negation : PySem.W.codeIn K cd_law_negation "_law_negation" = true) (k_law_negation : PySem.W.keepIn K (.ref f_law_negation) = true)
    (a_law_written : PySem.W.nsIn K mainGlobals "_law_written" = some (some (.ref f_law_written))) (l_law_written : K.lookup f_law_written = some ⟨oc_law_written, od_law_written, .func (PySem.W.fnOf "_law_written" "_law_written" (defArgs s_law_written) (defBody s_law_written) (defScope s_law_written) .none kV_law_written dc_law_written pm_law_written an_law_written cd_law_written ct_law_written), sl_law_written⟩) (c_law_written : PySem.W.codeIn K cd_law_written "_law_written" = true) (k_law_written : PySem.W.keepIn K (.ref f_law_written) = true)
    (a_law_pick : PySem.W.nsIn K mainGlobals "_law_pick" = some (some (.ref f_law_pick))) (l_law_pick : K.lookup f_law_pick = some ⟨oc_law_pick, od_law_pick, .func (PySem.W.fnOf "_law_pick" "_law_pick" (defArgs s_law_pick) (defBody s_law_pick) (defScope s_law_pick) .none kV_law_pick dc_law_pick pm_law_pick an_law_pick cd_law_pick ct_law_pick), sl_law_pick⟩) (c_law_pick : PySem.W.codeIn K cd_law_pick "_law_pick" = true) (k_law_pick : PySem.W.keepIn K (.ref f_law_pick) = true)
    (a_law_fact_of : PySem.W.nsIn K mainGlobals "_law_fact_of" = some (some (.ref f_law_fact_of))) (l_law_fact_of : K.lookup f_law_fact_of = some ⟨oc_law_fact_of, od_law_fact_of, .func (PySem.W.fnOf "_law_fact_of" "_law_fact_of" (defArgs s_law_fact_of) (defBody s_law_fact_of) (defScope s_law_fact_of) .none kV_law_fact_of dc_law_fact_of pm_law_fact_of an_law_fact_of cd_law_fact_of ct_law_fact_of), sl_law_fact_of⟩) (c_law_fact_of : PySem.W.codeIn K cd_law_fact_of "_law_fact_of" = true) (k_law_fact_of : PySem.W.keepIn K (.ref f_law_fact_of) = true)
    (a_law_moved : PySem.W.nsIn K mainGlobals "_law_moved" = some (some (.ref f_law_moved))) (l_law_moved : K.lookup f_law_moved = some ⟨oc_law_moved, od_law_moved, .func (PySem.W.fnOf "_law_moved" "_law_moved" (defArgs s_law_moved) (defBody s_law_moved) (defScope s_law_moved) .none kV_law_moved dc_law_moved pm_law_moved an_law_moved cd_law_moved ct_law_moved), sl_law_moved⟩) (c_law_moved : PySem.W.codeIn K cd_law_moved "_law_moved" = true) (k_law_moved : PySem.W.keepIn K (.ref f_law_moved) = true)
    (a_law_added : PySem.W.nsIn K mainGlobals "_law_added" = some (some (.ref f_law_added))) (l_law_added : K.lookup f_law_added = some ⟨oc_law_added, od_law_added, .func (PySem.W.fnOf "_law_added" "_law_added" (defArgs s_law_added) (defBody s_law_added) (defScope s_law_added) .none kV_law_added dc_law_added pm_law_added an_law_added cd_law_added ct_law_added), sl_law_added⟩) (c_law_added : PySem.W.codeIn K cd_law_added "_law_added" = true) (k_law_added : PySem.W.keepIn K (.ref f_law_added) = true)
    (a_law_by_label : PySem.W.nsIn K mainGlobals "_law_by_label" = some (some (.ref f_law_by_label))) (l_law_by_label : K.lookup f_law_by_label = some ⟨oc_law_by_label, od_law_by_label, .func (PySem.W.fnOf "_law_by_label" "_law_by_label" (defArgs s_law_by_label) (defBody s_law_by_label) (defScope s_law_by_label) .none kV_law_by_label dc_law_by_label pm_law_by_label an_law_by_label cd_law_by_label ct_law_by_label), sl_law_by_label⟩) (c_law_by_label : PySem.W.codeIn K cd_law_by_label "_law_by_label" = true) (k_law_by_label : PySem.W.keepIn K (.ref f_law_by_label) = true)
    (a_law_opposed : PySem.W.nsIn K mainGlobals "_law_opposed" = some (some (.ref f_law_opposed))) (l_law_opposed : K.lookup f_law_opposed = some ⟨oc_law_opposed, od_law_opposed, .func (PySem.W.fnOf "_law_opposed" "_law_opposed" (defArgs s_law_opposed) (defBody s_law_opposed) (defScope s_law_opposed) .none kV_law_opposed dc_law_opposed pm_law_opposed an_law_opposed cd_law_opposed ct_law_opposed), sl_law_opposed⟩) (c_law_opposed : PySem.W.codeIn K cd_law_opposed "_law_opposed" = true) (k_law_opposed : PySem.W.keepIn K (.ref f_law_opposed) = true)
    (a_law_by_steps : PySem.W.nsIn K mainGlobals "_law_by_steps" = some (some (.ref f_law_by_steps))) (l_law_by_steps : K.lookup f_law_by_steps = some ⟨oc_law_by_steps, od_law_by_steps, .func (PySem.W.fnOf "_law_by_steps" "_law_by_steps" (defArgs s_law_by_steps) (defBody s_law_by_steps) (defScope s_law_by_steps) .none kV_law_by_steps dc_law_by_steps pm_law_by_steps an_law_by_steps cd_law_by_steps ct_law_by_steps), sl_law_by_steps⟩) (c_law_by_steps : PySem.W.codeIn K cd_law_by_steps "_law_by_steps" = true) (k_law_by_steps : PySem.W.keepIn K (.ref f_law_by_steps) = true)
    (a_law_step : PySem.W.nsIn K mainGlobals "_law_step" = some (some (.ref f_law_step))) (l_law_step : K.lookup f_law_step = some ⟨oc_law_step, od_law_step, .func (PySem.W.fnOf "_law_step" "_law_step" (defArgs s_law_step) (defBody s_law_step) (defScope s_law_step) .none kV_law_step dc_law_step pm_law_step an_law_step cd_law_step ct_law_step), sl_law_step⟩) (c_law_step : PySem.W.codeIn K cd_law_step "_law_step" = true) (k_law_step : PySem.W.keepIn K (.ref f_law_step) = true)
    (a_law_refers : PySem.W.nsIn K mainGlobals "_law_refers" = some (some (.ref f_law_refers))) (l_law_refers : K.lookup f_law_refers = some ⟨oc_law_refers, od_law_refers, .func (PySem.W.fnOf "_law_refers" "_law_refers" (defArgs s_law_refers) (defBody s_law_refers) (defScope s_law_refers) .none kV_law_refers dc_law_refers pm_law_refers an_law_refers cd_law_refers ct_law_refers), sl_law_refers⟩) (c_law_refers : PySem.W.codeIn K cd_law_refers "_law_refers" = true) (k_law_refers : PySem.W.keepIn K (.ref f_law_refers) = true)
    (a_law_under : PySem.W.nsIn K mainGlobals "_law_under" = some (some (.ref f_law_under))) (l_law_under : K.lookup f_law_under = some ⟨oc_law_under, od_law_under, .func (PySem.W.fnOf "_law_under" "_law_under" (defArgs s_law_under) (defBody s_law_under) (defScope s_law_under) .none kV_law_under dc_law_under pm_law_under an_law_under cd_law_under ct_law_under), sl_law_under⟩) (c_law_under : PySem.W.codeIn K cd_law_under "_law_under" = true) (k_law_under : PySem.W.keepIn K (.ref f_law_under) = true)
    (a_law_unknowns : PySem.W.nsIn K mainGlobals "_law_unknowns" = some (some (.ref f_law_unknowns))) (l_law_unknowns : K.lookup f_law_unknowns = some ⟨oc_law_unknowns, od_law_unknowns, .func (PySem.W.fnOf "_law_unknowns" "_law_unknowns" (defArgs s_law_unknowns) (defBody s_law_unknowns) (defScope s_law_unknowns) .none kV_law_unknowns dc_law_unknowns pm_law_unknowns an_law_unknowns cd_law_unknowns ct_law_unknowns), sl_law_unknowns⟩) (c_law_unknowns : PySem.W.codeIn K cd_law_unknowns "_law_unknowns" = true) (k_law_unknowns : PySem.W.keepIn K (.ref f_law_unknowns) = true)
    (a_law_kept : PySem.W.nsIn K mainGlobals "_law_kept" = some (some (.ref f_law_kept))) (l_law_kept : K.lookup f_law_kept = some ⟨oc_law_kept, od_law_kept, .func (PySem.W.fnOf "_law_kept" "_law_kept" (defArgs s_law_kept) (defBody s_law_kept) (defScope s_law_kept) .none kV_law_kept dc_law_kept pm_law_kept an_law_kept cd_law_kept ct_law_kept), sl_law_kept⟩) (c_law_kept : PySem.W.codeIn K cd_law_kept "_law_kept" = true) (k_law_kept : PySem.W.keepIn K (.ref f_law_kept) = true)
    (a_law : PySem.W.nsIn K mainGlobals "law" = some (some (.ref f_law))) (l_law : K.lookup f_law = some ⟨oc_law, od_law, .func (PySem.W.fnOf "law" "law" (defArgs s_law) (defBody s_law) (defScope s_law) .none kV_law dc_law pm_law an_law cd_law ct_law), sl_law⟩) (c_law : PySem.W.codeIn K cd_law "law" = true) (k_law : PySem.W.keepIn K (.ref f_law) = true)
    (z_len : PySem.W.nsIn K mainGlobals "len" = some none)
    (z_int : PySem.W.nsIn K mainGlobals "int" = some none)
    (z_list : PySem.W.nsIn K mainGlobals "list" = some none)
    (z_tuple : PySem.W.nsIn K mainGlobals "tuple" = some none)
    (z_range : PySem.W.nsIn K mainGlobals "range" = some none)
    (z_isinstance : PySem.W.nsIn K mainGlobals "isinstance" = some none)
    (z_bool : PySem.W.nsIn K mainGlobals "bool" = some none)
    (z_str : PySem.W.nsIn K mainGlobals "str" = some none)
    (z_set : PySem.W.nsIn K mainGlobals "set" = some none)
    (z_sorted : PySem.W.nsIn K mainGlobals "sorted" = some none)
    (z_abs : PySem.W.nsIn K mainGlobals "abs" = some none)
    (z_enumerate : PySem.W.nsIn K mainGlobals "enumerate" = some none)
    : ∃ fd : FuncData, (∀ (s : Shared) (v : Value), BindsTo s fd ⟨[v], []⟩ [("_law_script", v)]) ∧ ∀ base : Heap, K.In base → base.Ns mainGlobals mg → FnOk l.prog w K mg base CX0 6 fa fd ["_law_script"] ((spLaw K)) := by
  have e := hfa.symm.trans (PySem.W.mg_of X G a_law)
  cases e
  have B : Bi K mg := { n_len := PySem.W.mg_none_of X G z_len, n_int := PySem.W.mg_none_of X G z_int, n_list := PySem.W.mg_none_of X G z_list, n_tuple := PySem.W.mg_none_of X G z_tuple, n_range := PySem.W.mg_none_of X G z_range, n_isinstance := PySem.W.mg_none_of X G z_isinstance, n_bool := PySem.W.mg_none_of X G z_bool, n_str := PySem.W.mg_none_of X G z_str, n_set := PySem.W.mg_none_of X G z_set, n_sorted := PySem.W.mg_none_of X G z_sorted, n_abs := PySem.W.mg_none_of X G z_abs, n_enumerate := PySem.W.mg_none_of X G z_enumerate }
  have F_premises_of := fun_mk (st := s_premises_of) l_premises_of c_premises_of k_premises_of
  have b_premises_of := F_premises_of.binds (ps := ["step"]) fun _ _ _ _ _ _ us hl => match us, hl with | [_], _ => rfl
  have F_refers_to := fun_mk (st := s_refers_to) l_refers_to c_refers_to k_refers_to
  have b_refers_to := F_refers_to.binds (ps := ["step"]) fun _ _ _ _ _ _ us hl => match us, hl with | [_], _ => rfl
  have F_under_of := fun_mk (st := s_under_of) l_under_of c_under_of k_under_of
  have b_under_of := F_under_of.binds (ps := ["step", "number", "earlier"]) fun _ _ _ _ _ _ us hl => match us, hl with | [_, _, _], _ => rfl
  have F_unders := fun_mk (st := s_unders) l_unders c_unders k_unders
  have b_unders := F_unders.binds (ps := ["steps"]) fun _ _ _ _ _ _ us hl => match us, hl with | [_], _ => rfl
  have F_law_draw := fun_mk (st := s_law_draw) l_law_draw c_law_draw k_law_draw
  have b_law_draw := F_law_draw.binds (ps := ["_law_tape_here", "_law_many"]) fun _ _ _ _ _ _ us hl => match us, hl with | [_, _], _ => rfl
  have F_law_tape := fun_mk (st := s_law_tape) l_law_tape c_law_tape k_law_tape
  have b_law_tape := F_law_tape.binds (ps := ["_law_script"]) fun _ _ _ _ _ _ us hl => match us, hl with | [_], _ => rfl
  have F_law_terms := fun_mk (st := s_law_terms) l_law_terms c_law_terms k_law_terms
  have b_law_terms := F_law_terms.binds (ps := ["_law_tape_here", "_law_many"]) fun _ _ _ _ _ _ us hl => match us, hl with | [_, _], _ => rfl
  have F_law_literal := fun_mk (st := s_law_literal) l_law_literal c_law_literal k_law_literal
  have b_law_literal := F_law_literal.binds (ps := ["_law_tape_here", "_law_many"]) fun _ _ _ _ _ _ us hl => match us, hl with | [_, _], _ => rfl
  have F_law_some := fun_mk (st := s_law_some) l_law_some c_law_some k_law_some
  have b_law_some := F_law_some.binds (ps := ["_law_tape_here", "_law_many", "_law_least"]) fun _ _ _ _ _ _ us hl => match us, hl with | [_, _, _], _ => rfl
  have F_law_body := fun_mk (st := s_law_body) l_law_body c_law_body k_law_body
  have b_law_body := F_law_body.binds (ps := ["_law_tape_here", "_law_many"]) fun _ _ _ _ _ _ us hl => match us, hl with | [_, _], _ => rfl
  have F_law_fact := fun_mk (st := s_law_fact) l_law_fact c_law_fact k_law_fact
  have b_law_fact := F_law_fact.binds (ps := ["_law_tape_here", "_law_many"]) fun _ _ _ _ _ _ us hl => match us, hl with | [_, _], _ => rfl
  have F_law_as_row := fun_mk (st := s_law_as_row) l_law_as_row c_law_as_row k_law_as_row
  have b_law_as_row := F_law_as_row.binds (ps := ["_law_fact_here"]) fun _ _ _ _ _ _ us hl => match us, hl with | [_], _ => rfl
  have F_law_negation := fun_mk (st := s_law_negation) l_law_negation c_law_negation k_law_negation
  have b_law_negation := F_law_negation.binds (ps := ["_law_fact_here"]) fun _ _ _ _ _ _ us hl => match us, hl with | [_], _ => rfl
  have F_law_written := fun_mk (st := s_law_written) l_law_written c_law_written k_law_written
  have b_law_written := F_law_written.binds (ps := ["_law_body_here"]) fun _ _ _ _ _ _ us hl => match us, hl with | [_], _ => rfl
  have F_law_pick := fun_mk (st := s_law_pick) l_law_pick c_law_pick k_law_pick
  have b_law_pick := F_law_pick.binds (ps := ["_law_tape_here", "_law_steps"]) fun _ _ _ _ _ _ us hl => match us, hl with | [_, _], _ => rfl
  have F_law_fact_of := fun_mk (st := s_law_fact_of) l_law_fact_of c_law_fact_of k_law_fact_of
  have b_law_fact_of := F_law_fact_of.binds (ps := ["_law_steps", "_law_i"]) fun _ _ _ _ _ _ us hl => match us, hl with | [_, _], _ => rfl
  have F_law_moved := fun_mk (st := s_law_moved) l_law_moved c_law_moved k_law_moved
  have b_law_moved := F_law_moved.binds (ps := ["_law_tape_here", "_law_row"]) fun _ _ _ _ _ _ us hl => match us, hl with | [_, _], _ => rfl
  have F_law_added := fun_mk (st := s_law_added) l_law_added c_law_added k_law_added
  have b_law_added := F_law_added.binds (ps := ["_law_steps", "_law_pairs", "_law_many"]) fun _ _ _ _ _ _ us hl => match us, hl with | [_, _, _], _ => rfl
  have F_law_by_label := fun_mk (st := s_law_by_label) l_law_by_label c_law_by_label k_law_by_label
  have b_law_by_label := F_law_by_label.binds (ps := ["_law_tape_here", "_law_world", "_law_steps", "_law_rule"]) fun _ _ _ _ _ _ us hl => match us, hl with | [_, _, _, _], _ => rfl
  have F_law_opposed := fun_mk (st := s_law_opposed) l_law_opposed c_law_opposed k_law_opposed
  have b_law_opposed := F_law_opposed.binds (ps := ["_law_tape_here", "_law_steps"]) fun _ _ _ _ _ _ us hl => match us, hl with | [_, _], _ => rfl
  have F_law_by_steps := fun_mk (st := s_law_by_steps) l_law_by_steps c_law_by_steps k_law_by_steps
  have b_law_by_steps := F_law_by_steps.binds (ps := ["_law_tape_here", "_law_world", "_law_steps", "_law_rule"]) fun _ _ _ _ _ _ us hl => match us, hl with | [_, _, _, _], _ => rfl
  have F_law_step := fun_mk (st := s_law_step) l_law_step c_law_step k_law_step
  have b_law_step := F_law_step.binds (ps := ["_law_tape_here", "_law_world", "_law_steps"]) fun _ _ _ _ _ _ us hl => match us, hl with | [_, _, _], _ => rfl
  have F_law_refers := fun_mk (st := s_law_refers) l_law_refers c_law_refers k_law_refers
  have b_law_refers := F_law_refers.binds (ps := ["_law_step_here"]) fun _ _ _ _ _ _ us hl => match us, hl with | [_], _ => rfl
  have F_law_under := fun_mk (st := s_law_under) l_law_under c_law_under k_law_under
  have b_law_under := F_law_under.binds (ps := ["_law_steps"]) fun _ _ _ _ _ _ us hl => match us, hl with | [_], _ => rfl
  have F_law_unknowns := fun_mk (st := s_law_unknowns) l_law_unknowns c_law_unknowns k_law_unknowns
  have b_law_unknowns := F_law_unknowns.binds (ps := ["_law_tape_here"]) fun _ _ _ _ _ _ us hl => match us, hl with | [_], _ => rfl
  have F_law_kept := fun_mk (st := s_law_kept) l_law_kept c_law_kept k_law_kept
  have b_law_kept := F_law_kept.binds (ps := ["_law_step_here", "_law_n"]) fun _ _ _ _ _ _ us hl => match us, hl with | [_, _], _ => rfl
  refine ⟨PySem.W.fnOf "law" "law" (defArgs s_law) (defBody s_law) (defScope s_law) .none kV_law dc_law pm_law an_law cd_law ct_law, fun s v => .of_eq rfl, fun base _ _ => ?_⟩
  have D_premises_of : Is l.prog w K mg base CX0 1 "premises_of" ["step"] (spPrem K) := ⟨_, _, ok_premises_of F_premises_of B , PySem.W.mg_of X G a_premises_of, k_premises_of, b_premises_of⟩
  have D_refers_to : Is l.prog w K mg base CX0 2 "refers_to" ["step"] (spPrem K) := ⟨_, _, ok_refers_to F_refers_to B D_premises_of, PySem.W.mg_of X G a_refers_to, k_refers_to, b_refers_to⟩
  have D_under_of : Is l.prog w K mg base CX0 2 "under_of" ["step", "number", "earlier"] (spUnderOf K) := ⟨_, _, ok_under_of F_under_of B D_premises_of, PySem.W.mg_of X G a_under_of, k_under_of, b_under_of⟩
  have D_unders : Is l.prog w K mg base CX0 3 "unders" ["steps"] (spUnders K) := ⟨_, _, ok_unders F_unders B D_under_of, PySem.W.mg_of X G a_unders, k_unders, b_unders⟩
  have D_law_draw : Is l.prog w K mg base CX0 1 "_law_draw" ["_law_tape_here", "_law_many"] spDraw := ⟨_, _, ok_law_draw F_law_draw B , PySem.W.mg_of X G a_law_draw, k_law_draw, b_law_draw⟩
  have D_law_tape : Is l.prog w K mg base CX0 1 "_law_tape" ["_law_script"] (spTape K) := ⟨_, _, ok_law_tape F_law_tape B , PySem.W.mg_of X G a_law_tape, k_law_tape, b_law_tape⟩
  have D_law_terms : Is l.prog w K mg base CX0 2 "_law_terms" ["_law_tape_here", "_law_many"] (spLawTerms K) := ⟨_, _, ok_law_terms F_law_terms B D_law_draw, PySem.W.mg_of X G a_law_terms, k_law_terms, b_law_terms⟩
  have D_law_literal : Is l.prog w K mg base CX0 2 "_law_literal" ["_law_tape_here", "_law_many"] (spLawLiteral K) := ⟨_, _, ok_law_literal F_law_literal B D_law_draw, PySem.W.mg_of X G a_law_literal, k_law_literal, b_law_literal⟩
  have D_law_some : Is l.prog w K mg base CX0 2 "_law_some" ["_law_tape_here", "_law_many", "_law_least"] (spLawSome K) := ⟨_, _, ok_law_some F_law_some B D_law_draw, PySem.W.mg_of X G a_law_some, k_law_some, b_law_some⟩
  have D_law_body : Is l.prog w K mg base CX0 3 "_law_body" ["_law_tape_here", "_law_many"] (spLawBody K) := ⟨_, _, ok_law_body F_law_body B D_law_draw D_law_literal D_law_terms D_law_some, PySem.W.mg_of X G a_law_body, k_law_body, b_law_body⟩
  have D_law_fact : Is l.prog w K mg base CX0 3 "_law_fact" ["_law_tape_here", "_law_many"] (spLawFact K) := ⟨_, _, ok_law_fact F_law_fact B D_law_draw D_law_terms D_law_literal, PySem.W.mg_of X G a_law_fact, k_law_fact, b_law_fact⟩
  have D_law_as_row : Is l.prog w K mg base CX0 1 "_law_as_row" ["_law_fact_here"] (spAsRow K) := ⟨_, _, ok_law_as_row F_law_as_row B , PySem.W.mg_of X G a_law_as_row, k_law_as_row, b_law_as_row⟩
  have D_law_negation : Is l.prog w K mg base CX0 1 "_law_negation" ["_law_fact_here"] (spNegF K) := ⟨_, _, ok_law_negation F_law_negation B , PySem.W.mg_of X G a_law_negation, k_law_negation, b_law_negation⟩
  have D_law_written : Is l.prog w K mg base CX0 1 "_law_written" ["_law_body_here"] (spWritten K) := ⟨_, _, ok_law_written F_law_written B , PySem.W.mg_of X G a_law_written, k_law_written, b_law_written⟩
  have D_law_pick : Is l.prog w K mg base CX0 2 "_law_pick" ["_law_tape_here", "_law_steps"] (spPickS K) := ⟨_, _, ok_law_pick F_law_pick B D_law_draw, PySem.W.mg_of X G a_law_pick, k_law_pick, b_law_pick⟩
  have D_law_fact_of : Is l.prog w K mg base CX0 1 "_law_fact_of" ["_law_steps", "_law_i"] (spFactOfS K) := ⟨_, _, ok_law_fact_of F_law_fact_of B , PySem.W.mg_of X G a_law_fact_of, k_law_fact_of, b_law_fact_of⟩
  have D_law_moved : Is l.prog w K mg base CX0 2 "_law_moved" ["_law_tape_here", "_law_row"] (spMovedS K) := ⟨_, _, ok_law_moved F_law_moved B D_law_draw, PySem.W.mg_of X G a_law_moved, k_law_moved, b_law_moved⟩
  have D_law_added : Is l.prog w K mg base CX0 2 "_law_added" ["_law_steps", "_law_pairs", "_law_many"] (spAddedS K) := ⟨_, _, ok_law_added F_law_added B D_law_as_row D_law_fact_of, PySem.W.mg_of X G a_law_added, k_law_added, b_law_added⟩
  have D_law_by_label : Is l.prog w K mg base CX0 4 "_law_by_label" ["_law_tape_here", "_law_world", "_law_steps", "_law_rule"] (spByS K 1 4) := ⟨_, _, ok_law_by_label F_law_by_label B D_law_fact D_law_draw D_law_pick D_law_written, PySem.W.mg_of X G a_law_by_label, k_law_by_label, b_law_by_label⟩
  have D_law_opposed : Is l.prog w K mg base CX0 2 "_law_opposed" ["_law_tape_here", "_law_steps"] (spOpposedS K) := ⟨_, _, ok_law_opposed F_law_opposed B D_law_draw D_law_negation, PySem.W.mg_of X G a_law_opposed, k_law_opposed, b_law_opposed⟩
  have D_law_by_steps : Is l.prog w K mg base CX0 4 "_law_by_steps" ["_law_tape_here", "_law_world", "_law_steps", "_law_rule"] (spByS K 5 10) := ⟨_, _, ok_law_by_steps F_law_by_steps B D_law_pick D_law_fact_of D_law_as_row D_law_opposed D_law_moved D_law_draw D_law_fact D_law_added D_law_literal, PySem.W.mg_of X G a_law_by_steps, k_law_by_steps, b_law_by_steps⟩
  have D_law_step : Is l.prog w K mg base CX0 5 "_law_step" ["_law_tape_here", "_law_world", "_law_steps"] (spStepS K) := ⟨_, _, ok_law_step F_law_step B D_law_draw D_law_by_label D_law_by_steps D_law_fact D_law_negation D_law_moved D_law_literal D_law_fact_of, PySem.W.mg_of X G a_law_step, k_law_step, b_law_step⟩
  have D_law_refers : Is l.prog w K mg base CX0 1 "_law_refers" ["_law_step_here"] (spPrem K) := ⟨_, _, ok_law_refers F_law_refers B , PySem.W.mg_of X G a_law_refers, k_law_refers, b_law_refers⟩
  have D_law_under : Is l.prog w K mg base CX0 2 "_law_under" ["_law_steps"] (spUnder K) := ⟨_, _, ok_law_under F_law_under B D_law_refers, PySem.W.mg_of X G a_law_under, k_law_under, b_law_under⟩
  have D_law_unknowns : Is l.prog w K mg base CX0 2 "_law_unknowns" ["_law_tape_here"] (spUnk25 K) := ⟨_, _, ok_law_unknowns F_law_unknowns B D_law_draw, PySem.W.mg_of X G a_law_unknowns, k_law_unknowns, b_law_unknowns⟩
  have D_law_kept : Is l.prog w K mg base CX0 2 "_law_kept" ["_law_step_here", "_law_n"] (spKept K) := ⟨_, _, ok_law_kept F_law_kept B D_law_refers, PySem.W.mg_of X G a_law_kept, k_law_kept, b_law_kept⟩
  exact ok_law (fun_mk (st := s_law) l_law c_law k_law) B D_law_tape D_law_unknowns D_unders D_law_draw D_refers_to D_law_body D_law_kept D_law_under D_law_step D_law_refers
theorem walk {l : PySem.W.OpenLaw} {q : Program} {loose : List Str} {XP : (Str → Option Value) → Heap → Prop} {YP : World → Heap → Prop} {d : DefRec} {K : Params → PySem.W.Frag} (hn : l.most = some 63) (hdf : d.params.defaults = [])
    (hY : ∀ (w : World) (h : Heap), YP w h → (K w.params).In h)
    (F : ∀ (w : World) (mg : Str → Option Value) (fa : Addr) (h : Heap), (K w.params).In h → h.Ns mainGlobals mg → mg d.name = some (.ref fa) →
      ∃ fd : FuncData, (∀ (s : Shared) (u : Value), BindsTo s fd ⟨[u], []⟩ [("_law_script", u)]) ∧ ∀ base : Heap, (K w.params).In base → base.Ns mainGlobals mg → FnOk l.prog w (K w.params) mg base CX0 6 fa fd ["_law_script"] (spLaw (K w.params))) :
    PySem.W.WalkO q loose XP YP l.row.toRowW d [] (fun f vs => PySem.call f vs) :=
  L2.walk_of (n := 63) (k := 6) (x := "_law_script") (CX := fun _ => CX0) (sp := fun w => spLaw (K w.params)) hn (by decide) hdf ⟨rfl, by decide, by decide⟩ hY F (fun _ _ a ns hl _ hS => ⟨a, ns, rfl, hS, hl, fun _ => rfl⟩) fun _ _ _ _ _ z => z
end CG

open PySem PySem.W PyProof.Rows in
set_option maxRecDepth 100000 in
set_option maxHeartbeats 0 in
theorem PySem.Challenge.cw_commonground_k25_references_and_supposit_holds : PySem.Challenge.rw_commonground_k25_references_and_supposit.Holds := by
  w_on; o_law; k_head; (case hw => w_witness2)
  k_fill
  refine CG.walk (l := PySem.Challenge.rw_commonground_k25_references_and_supposit) rfl rfl (fun w h Y => PySem.W.kIn_of Y) ?F
  case F =>
    intro w mg fa h KX G hmg
    refine' CG.all_mk KX G hmg ?a_premises_of ?l_premises_of ?c_premises_of ?k_premises_of ?a_refers_to ?l_refers_to ?c_refers_to ?k_refers_to ?a_under_of ?l_under_of ?c_under_of ?k_under_of ?a_unders ?l_unders ?c_unders ?k_unders ?a_law_draw ?l_law_draw ?c_law_draw ?k_law_draw ?a_law_tape ?l_law_tape ?c_law_tape ?k_law_tape ?a_law_terms ?l_law_terms ?c_law_terms ?k_law_terms ?a_law_literal ?l_law_literal ?c_law_literal ?k_law_literal ?a_law_some ?l_law_some ?c_law_some ?k_law_some ?a_law_body ?l_law_body ?c_law_body ?k_law_body ?a_law_fact ?l_law_fact ?c_law_fact ?k_law_fact ?a_law_as_row ?l_law_as_row ?c_law_as_row ?k_law_as_row ?a_law_negation ?l_law_negation ?c_law_negation ?k_law_negation ?a_law_written ?l_law_written ?c_law_written ?k_law_written ?a_law_pick ?l_law_pick ?c_law_pick ?k_law_pick ?a_law_fact_of ?l_law_fact_of ?c_law_fact_of ?k_law_fact_of ?a_law_moved ?l_law_moved ?c_law_moved ?k_law_moved ?a_law_added ?l_law_added ?c_law_added ?k_law_added ?a_law_by_label ?l_law_by_label ?c_law_by_label ?k_law_by_label ?a_law_opposed ?l_law_opposed ?c_law_opposed ?k_law_opposed ?a_law_by_steps ?l_law_by_steps ?c_law_by_steps ?k_law_by_steps ?a_law_step ?l_law_step ?c_law_step ?k_law_step ?a_law_refers ?l_law_refers ?c_law_refers ?k_law_refers ?a_law_under ?l_law_under ?c_law_under ?k_law_under ?a_law_unknowns ?l_law_unknowns ?c_law_unknowns ?k_law_unknowns ?a_law_kept ?l_law_kept ?c_law_kept ?k_law_kept ?a_law ?l_law ?c_law ?k_law ?z_len ?z_int ?z_list ?z_tuple ?z_range ?z_isinstance ?z_bool ?z_str ?z_set ?z_sorted ?z_abs ?z_enumerate
    (case a_premises_of => k_is)
    (case l_premises_of => k_is)
    (case c_premises_of => k_is)
    (case k_premises_of => k_is)
    (case a_refers_to => k_is)
    (case l_refers_to => k_is)
    (case c_refers_to => k_is)
    (case k_refers_to => k_is)
    (case a_under_of => k_is)
    (case l_under_of => k_is)
    (case c_under_of => k_is)
    (case k_under_of => k_is)
    (case a_unders => k_is)
    (case l_unders => k_is)
    (case c_unders => k_is)
    (case k_unders => k_is)
    (case a_law_draw => k_is)
    (case l_law_draw => k_is)
    (case c_law_draw => k_is)
    (case k_law_draw => k_is)
    (case a_law_tape => k_is)
    (case l_law_tape => k_is)
    (case c_law_tape => k_is)
    (case k_law_tape => k_is)
    (case a_law_terms => k_is)
    (case l_law_terms => k_is)
    (case c_law_terms => k_is)
    (case k_law_terms => k_is)
    (case a_law_literal => k_is)
    (case l_law_literal => k_is)
    (case c_law_literal => k_is)
    (case k_law_literal => k_is)
    (case a_law_some => k_is)
    (case l_law_some => k_is)
    (case c_law_some => k_is)
    (case k_law_some => k_is)
    (case a_law_body => k_is)
    (case l_law_body => k_is)
    (case c_law_body => k_is)
    (case k_law_body => k_is)
    (case a_law_fact => k_is)
    (case l_law_fact => k_is)
    (case c_law_fact => k_is)
    (case k_law_fact => k_is)
    (case a_law_as_row => k_is)
    (case l_law_as_row => k_is)
    (case c_law_as_row => k_is)
    (case k_law_as_row => k_is)
    (case a_law_negation => k_is)
    (case l_law_negation => k_is)
    (case c_law_negation => k_is)
    (case k_law_negation => k_is)
    (case a_law_written => k_is)
    (case l_law_written => k_is)
    (case c_law_written => k_is)
    (case k_law_written => k_is)
    (case a_law_pick => k_is)
    (case l_law_pick => k_is)
    (case c_law_pick => k_is)
    (case k_law_pick => k_is)
    (case a_law_fact_of => k_is)
    (case l_law_fact_of => k_is)
    (case c_law_fact_of => k_is)
    (case k_law_fact_of => k_is)
    (case a_law_moved => k_is)
    (case l_law_moved => k_is)
    (case c_law_moved => k_is)
    (case k_law_moved => k_is)
    (case a_law_added => k_is)
    (case l_law_added => k_is)
    (case c_law_added => k_is)
    (case k_law_added => k_is)
    (case a_law_by_label => k_is)
    (case l_law_by_label => k_is)
    (case c_law_by_label => k_is)
    (case k_law_by_label => k_is)
    (case a_law_opposed => k_is)
    (case l_law_opposed => k_is)
    (case c_law_opposed => k_is)
    (case k_law_opposed => k_is)
    (case a_law_by_steps => k_is)
    (case l_law_by_steps => k_is)
    (case c_law_by_steps => k_is)
    (case k_law_by_steps => k_is)
    (case a_law_step => k_is)
    (case l_law_step => k_is)
    (case c_law_step => k_is)
    (case k_law_step => k_is)
    (case a_law_refers => k_is)
    (case l_law_refers => k_is)
    (case c_law_refers => k_is)
    (case k_law_refers => k_is)
    (case a_law_under => k_is)
    (case l_law_under => k_is)
    (case c_law_under => k_is)
    (case k_law_under => k_is)
    (case a_law_unknowns => k_is)
    (case l_law_unknowns => k_is)
    (case c_law_unknowns => k_is)
    (case k_law_unknowns => k_is)
    (case a_law_kept => k_is)
    (case l_law_kept => k_is)
    (case c_law_kept => k_is)
    (case k_law_kept => k_is)
    (case a_law => k_is)
    (case l_law => k_is)
    (case c_law => k_is)
    (case k_law => k_is)
    (case z_len => k_is)
    (case z_int => k_is)
    (case z_list => k_is)
    (case z_tuple => k_is)
    (case z_range => k_is)
    (case z_isinstance => k_is)
    (case z_bool => k_is)
    (case z_str => k_is)
    (case z_set => k_is)
    (case z_sorted => k_is)
    (case z_abs => k_is)
    (case z_enumerate => k_is)
#print axioms PySem.Challenge.cw_commonground_k25_references_and_supposit_holds
