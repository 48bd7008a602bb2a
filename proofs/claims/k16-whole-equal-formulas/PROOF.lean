import PyProof.Rows.All
import PyProof.P3Statements
import Wide.All
import OpenK.AllK
import Wide.FinOn
import KE.KStateDown
import HandS.ForMost
import HandS.Evl
import HandS.IsInst
import HandS.TupAny
import HandS.Deep
import HandS.Star
import HandS.More
import HandS.Defaults
import HandS.Exc
import HandS.Walk
import HandS.Zip
import HandS.Head0
import HandS.Head1
import HandS.Head2
import HandS.HeadEnd
import HandS.HeadHook1
import HandS.HeadHook2
import HandS.HeadHook3
import HandS.HeadHook4
import PySem.Challenge.RW_lassoproof_k16_whole_equal_formulas
import KE.KDictZip
import KE.GoesZip
import PyProof.StrOps2
set_option Elab.async false
set_option linter.all false
set_option maxRecDepth 100000
set_option maxHeartbeats 2000000
namespace W16
open PySem PySem.PyData
/-! ### the data -/
inductive Tm where
  | num (n : Int)
  | nam (w : Str)
  | plus (t u : Tm)
  | minus (t u : Tm)
  | times (t u : Tm)
  | neg (t : Tm)
  | quo (t : Tm) (k : Int)
  | rem (t : Tm) (k : Int)
  | least (t u : Tm)
  | most (t u : Tm)
  deriving DecidableEq
inductive CO where
  | eq | below | upto
  deriving DecidableEq
inductive UO where
  | not | next | ev | alw
  deriving DecidableEq
inductive BO where
  | and | or | imp | same | til | rel | unl | strong
  deriving DecidableEq
structure Cm where
  o : CO
  t : Tm
  u : Tm
  deriving DecidableEq
inductive Fm where
  | tt
  | ff
  | cmp (c : Cm)
  | un (w : UO) (f : Fm)
  | bin (w : BO) (f g : Fm)
  deriving DecidableEq
def CO.s : CO → Str
  | .eq => "equal"
  | .below => "below"
  | .upto => "upto"
def UO.s : UO → Str
  | .not => "not"
  | .next => "next"
  | .ev => "eventually"
  | .alw => "always"
def BO.s : BO → Str
  | .and => "and"
  | .or => "or"
  | .imp => "implies"
  | .same => "same"
  | .til => "until"
  | .rel => "release"
  | .unl => "unless"
  | .strong => "strong"
def tD : Tm → PyData
  | .num n => .tuple [.str "number", .int n]
  | .nam w => .tuple [.str "name", .str w]
  | .plus t u => .tuple [.str "plus", tD t, tD u]
  | .minus t u => .tuple [.str "minus", tD t, tD u]
  | .times t u => .tuple [.str "times", tD t, tD u]
  | .neg t => .tuple [.str "negative", tD t]
  | .quo t k => .tuple [.str "quotient", tD t, .int k]
  | .rem t k => .tuple [.str "remainder", tD t, .int k]
  | .least t u => .tuple [.str "least", tD t, tD u]
  | .most t u => .tuple [.str "most", tD t, tD u]
def cD (c : Cm) : PyData := .tuple [.str c.o.s, tD c.t, tD c.u]
def fD : Fm → PyData
  | .tt => .tuple [.str "true"]
  | .ff => .tuple [.str "false"]
  | .cmp c => cD c
  | .un w f => .tuple [.str w.s, fD f]
  | .bin w f g => .tuple [.str w.s, fD f, fD g]
/-! ### depths -/
def Tm.dep : Tm → Nat
  | .num _ => 1
  | .nam _ => 1
  | .plus t u => max t.dep u.dep + 1
  | .minus t u => max t.dep u.dep + 1
  | .times t u => max t.dep u.dep + 1
  | .neg t => t.dep + 1
  | .quo t _ => t.dep + 1
  | .rem t _ => t.dep + 1
  | .least t u => max t.dep u.dep + 1
  | .most t u => max t.dep u.dep + 1
def Cm.dep (c : Cm) : Nat := max c.t.dep c.u.dep + 1
def Fm.dep : Fm → Nat
  | .tt => 1
  | .ff => 1
  | .cmp c => c.dep
  | .un _ f => f.dep + 1
  | .bin _ f g => max f.dep g.dep + 1
theorem tD_dep : ∀ t : Tm, (tD t).depth = t.dep
  | .num n => by simp [tD, PyData.depth, PyData.depthAll, Tm.dep]
  | .nam n => by simp [tD, PyData.depth, PyData.depthAll, Tm.dep]
  | .plus t u => by simp [tD, PyData.depth, PyData.depthAll, Tm.dep, tD_dep t, tD_dep u]
  | .minus t u => by simp [tD, PyData.depth, PyData.depthAll, Tm.dep, tD_dep t, tD_dep u]
  | .times t u => by simp [tD, PyData.depth, PyData.depthAll, Tm.dep, tD_dep t, tD_dep u]
  | .neg t => by simp [tD, PyData.depth, PyData.depthAll, Tm.dep, tD_dep t]
  | .quo t k => by simp [tD, PyData.depth, PyData.depthAll, Tm.dep, tD_dep t]
  | .rem t k => by simp [tD, PyData.depth, PyData.depthAll, Tm.dep, tD_dep t]
  | .least t u => by simp [tD, PyData.depth, PyData.depthAll, Tm.dep, tD_dep t, tD_dep u]
  | .most t u => by simp [tD, PyData.depth, PyData.depthAll, Tm.dep, tD_dep t, tD_dep u]
theorem cD_dep (c : Cm) : (cD c).depth = c.dep := by simp [cD, PyData.depth, PyData.depthAll, Cm.dep, tD_dep]
theorem fD_dep : ∀ f : Fm, (fD f).depth = f.dep
  | .tt => by simp [fD, PyData.depth, PyData.depthAll, Fm.dep]
  | .ff => by simp [fD, PyData.depth, PyData.depthAll, Fm.dep]
  | .cmp c => by simp [fD, Fm.dep, cD_dep]
  | .un w f => by simp [fD, PyData.depth, PyData.depthAll, Fm.dep, fD_dep f]
  | .bin w f g => by simp [fD, PyData.depth, PyData.depthAll, Fm.dep, fD_dep f, fD_dep g]
/-! ### the texts within are plain -/
def Tm.ok : Tm → Bool
  | .num _ => true
  | .nam w => strOk w
  | .plus t u => t.ok && u.ok
  | .minus t u => t.ok && u.ok
  | .times t u => t.ok && u.ok
  | .neg t => t.ok
  | .quo t _ => t.ok
  | .rem t _ => t.ok
  | .least t u => t.ok && u.ok
  | .most t u => t.ok && u.ok
def Cm.ok (c : Cm) : Bool := c.t.ok && c.u.ok
def Fm.ok : Fm → Bool
  | .tt => true
  | .ff => true
  | .cmp c => c.ok
  | .un _ f => f.ok
  | .bin _ f g => f.ok && g.ok
theorem ok_number : strOk ("number" : Str) = true := by decide +kernel
theorem ok_name : strOk ("name" : Str) = true := by decide +kernel
theorem ok_plus : strOk ("plus" : Str) = true := by decide +kernel
theorem ok_minus : strOk ("minus" : Str) = true := by decide +kernel
theorem ok_times : strOk ("times" : Str) = true := by decide +kernel
theorem ok_negative : strOk ("negative" : Str) = true := by decide +kernel
theorem ok_quotient : strOk ("quotient" : Str) = true := by decide +kernel
theorem ok_remainder : strOk ("remainder" : Str) = true := by decide +kernel
theorem ok_least : strOk ("least" : Str) = true := by decide +kernel
theorem ok_most : strOk ("most" : Str) = true := by decide +kernel
theorem ok_true : strOk ("true" : Str) = true := by decide +kernel
theorem ok_false : strOk ("false" : Str) = true := by decide +kernel
theorem ok_co (o : CO) : strOk o.s = true := by cases o <;> decide +kernel
theorem ok_uo (o : UO) : strOk o.s = true := by cases o <;> decide +kernel
theorem ok_bo (o : BO) : strOk o.s = true := by cases o <;> decide +kernel
theorem tD_lay : ∀ t : Tm, (tD t).canLay0 = t.ok
  | .num n => by simp [tD, PyData.canLay0, PyData.canLayAll0, Tm.ok, ok_number]
  | .nam n => by simp [tD, PyData.canLay0, PyData.canLayAll0, Tm.ok, ok_name]
  | .plus t u => by simp [tD, PyData.canLay0, PyData.canLayAll0, Tm.ok, ok_plus, tD_lay t, tD_lay u]
  | .minus t u => by simp [tD, PyData.canLay0, PyData.canLayAll0, Tm.ok, ok_minus, tD_lay t, tD_lay u]
  | .times t u => by simp [tD, PyData.canLay0, PyData.canLayAll0, Tm.ok, ok_times, tD_lay t, tD_lay u]
  | .neg t => by simp [tD, PyData.canLay0, PyData.canLayAll0, Tm.ok, ok_negative, tD_lay t]
  | .quo t k => by simp [tD, PyData.canLay0, PyData.canLayAll0, Tm.ok, ok_quotient, tD_lay t]
  | .rem t k => by simp [tD, PyData.canLay0, PyData.canLayAll0, Tm.ok, ok_remainder, tD_lay t]
  | .least t u => by simp [tD, PyData.canLay0, PyData.canLayAll0, Tm.ok, ok_least, tD_lay t, tD_lay u]
  | .most t u => by simp [tD, PyData.canLay0, PyData.canLayAll0, Tm.ok, ok_most, tD_lay t, tD_lay u]
theorem cD_lay (c : Cm) : (cD c).canLay0 = c.ok := by simp [cD, PyData.canLay0, PyData.canLayAll0, Cm.ok, ok_co, tD_lay]
theorem fD_lay : ∀ f : Fm, (fD f).canLay0 = f.ok
  | .tt => by simp [fD, PyData.canLay0, PyData.canLayAll0, Fm.ok, ok_true]
  | .ff => by simp [fD, PyData.canLay0, PyData.canLayAll0, Fm.ok, ok_false]
  | .cmp c => by simp [fD, Fm.ok, cD_lay]
  | .un w f => by simp [fD, PyData.canLay0, PyData.canLayAll0, Fm.ok, ok_uo, fD_lay f]
  | .bin w f g => by simp [fD, PyData.canLay0, PyData.canLayAll0, Fm.ok, ok_bo, fD_lay f, fD_lay g]
/-! ### equal data, equal trees -/
theorem str_beq (x y : Str) : (x == y) = decide (x = y) := by
  by_cases h : x = y
  · subst h; simp
  · rw [decide_eq_false h]; exact beq_eq_false_iff_ne.mpr h
theorem CO.s_inj {a b : CO} (h : a.s = b.s) : a = b := by
  cases a <;> cases b <;> first | rfl | (exact absurd h (by decide +kernel))
theorem UO.s_inj {a b : UO} (h : a.s = b.s) : a = b := by
  cases a <;> cases b <;> first | rfl | (exact absurd h (by decide +kernel))
theorem BO.s_inj {a b : BO} (h : a.s = b.s) : a = b := by
  cases a <;> cases b <;> first | rfl | (exact absurd h (by decide +kernel))
inductive TG where
  | num | nam | plus | minus | times | neg | quo | rem | least | most
  deriving DecidableEq
def TG.s : TG → Str
  | .num => "number"
  | .nam => "name"
  | .plus => "plus"
  | .minus => "minus"
  | .times => "times"
  | .neg => "negative"
  | .quo => "quotient"
  | .rem => "remainder"
  | .least => "least"
  | .most => "most"
theorem TG.s_inj {a b : TG} (h : a.s = b.s) : a = b := by
  cases a <;> cases b <;> first | rfl | (exact absurd h (by decide +kernel))
def Tm.tag : Tm → TG
  | .num _ => .num
  | .nam _ => .nam
  | .plus _ _ => .plus
  | .minus _ _ => .minus
  | .times _ _ => .times
  | .neg _ => .neg
  | .quo _ _ => .quo
  | .rem _ _ => .rem
  | .least _ _ => .least
  | .most _ _ => .most
def Tm.args : Tm → List PyData
  | .num n => [.int n]
  | .nam w => [.str w]
  | .plus t u => [tD t, tD u]
  | .minus t u => [tD t, tD u]
  | .times t u => [tD t, tD u]
  | .neg t => [tD t]
  | .quo t k => [tD t, .int k]
  | .rem t k => [tD t, .int k]
  | .least t u => [tD t, tD u]
  | .most t u => [tD t, tD u]
theorem tD_eq (t : Tm) : tD t = .tuple (.str t.tag.s :: t.args) := by cases t <;> rfl
/-! no bools, no dicts: == is = -/
mutual
def flatD : PyData → Bool
  | .none => true
  | .bool _ => false
  | .int _ => true
  | .str _ => true
  | .list xs => flatDs xs
  | .tuple xs => flatDs xs
  | .dict _ => false
def flatDs : List PyData → Bool
  | [] => true
  | x :: xs => flatD x && flatDs xs
end
mutual
theorem eqv_eq : ∀ d e : PyData, flatD d = true → flatD e = true → PyData.eqv d e = true → d = e
  | .none, e, _, _, h => by cases e <;> first | rfl | (simp [PyData.eqv] at h)
  | .bool b, e, h1, _, h => by simp [flatD] at h1
  | .int i, e, _, h2, h => by cases e <;> first | (simp [flatD] at h2; done) | (simp [PyData.eqv] at h; done) | (simp [PyData.eqv] at h; rw [h])
  | .str i, e, _, h2, h => by cases e <;> first | (simp [flatD] at h2; done) | (simp [PyData.eqv] at h; done) | (simp [PyData.eqv] at h; rw [h])
  | .list xs, e, h1, h2, h => by
    cases e with
    | list ys => rw [eqv_eqs xs ys (by simpa [flatD] using h1) (by simpa [flatD] using h2) (by simpa [PyData.eqv] using h)]
    | _ => simp [PyData.eqv] at h
  | .tuple xs, e, h1, h2, h => by
    cases e with
    | tuple ys => rw [eqv_eqs xs ys (by simpa [flatD] using h1) (by simpa [flatD] using h2) (by simpa [PyData.eqv] using h)]
    | _ => simp [PyData.eqv] at h
  | .dict _, e, h1, _, h => by simp [flatD] at h1
theorem eqv_eqs : ∀ ds es : List PyData, flatDs ds = true → flatDs es = true → PyData.eqvAll ds es = true → ds = es
  | [], [], _, _, _ => rfl
  | [], _ :: _, _, _, h => by simp [PyData.eqvAll] at h
  | _ :: _, [], _, _, h => by simp [PyData.eqvAll] at h
  | d :: ds, e :: es, h1, h2, h => by
    simp only [flatDs, Bool.and_eq_true] at h1 h2
    simp only [PyData.eqvAll, Bool.and_eq_true] at h
    rw [eqv_eq d e h1.1 h2.1 h.1, eqv_eqs ds es h1.2 h2.2 h.2]
end
mutual
theorem eqv_self : ∀ d : PyData, flatD d = true → PyData.eqv d d = true
  | .none, _ => by simp [PyData.eqv]
  | .bool b, h1 => by simp [flatD] at h1
  | .int i, _ => by simp [PyData.eqv]
  | .str i, _ => by simp [PyData.eqv]
  | .list xs, h1 => by simp only [PyData.eqv]; exact eqv_selfs xs (by simpa [flatD] using h1)
  | .tuple xs, h1 => by simp only [PyData.eqv]; exact eqv_selfs xs (by simpa [flatD] using h1)
  | .dict _, h1 => by simp [flatD] at h1
theorem eqv_selfs : ∀ ds : List PyData, flatDs ds = true → PyData.eqvAll ds ds = true
  | [], _ => by simp [PyData.eqvAll]
  | d :: ds, h1 => by
    simp only [flatDs, Bool.and_eq_true] at h1
    simp only [PyData.eqvAll, Bool.and_eq_true]
    exact ⟨eqv_self d h1.1, eqv_selfs ds h1.2⟩
end
theorem tD_flat : ∀ t : Tm, flatD (tD t) = true
  | .num n => by simp [tD, flatD, flatDs]
  | .nam n => by simp [tD, flatD, flatDs]
  | .plus t u => by simp [tD, flatD, flatDs, tD_flat t, tD_flat u]
  | .minus t u => by simp [tD, flatD, flatDs, tD_flat t, tD_flat u]
  | .times t u => by simp [tD, flatD, flatDs, tD_flat t, tD_flat u]
  | .neg t => by simp [tD, flatD, flatDs, tD_flat t]
  | .quo t k => by simp [tD, flatD, flatDs, tD_flat t]
  | .rem t k => by simp [tD, flatD, flatDs, tD_flat t]
  | .least t u => by simp [tD, flatD, flatDs, tD_flat t, tD_flat u]
  | .most t u => by simp [tD, flatD, flatDs, tD_flat t, tD_flat u]
theorem cD_flat (c : Cm) : flatD (cD c) = true := by simp [cD, flatD, flatDs, tD_flat]
theorem fD_flat : ∀ f : Fm, flatD (fD f) = true
  | .tt => by simp [fD, flatD, flatDs]
  | .ff => by simp [fD, flatD, flatDs]
  | .cmp c => by simp [fD, cD_flat]
  | .un w f => by simp [fD, flatD, flatDs, fD_flat f]
  | .bin w f g => by simp [fD, flatD, flatDs, fD_flat f, fD_flat g]
theorem tup_inj {x y : Str} {xs ys : List PyData} (h : PyData.tuple (.str x :: xs) = PyData.tuple (.str y :: ys)) : x = y ∧ xs = ys := by
  injection h with h
  injection h with h1 h2
  injection h1 with h1
  exact ⟨h1, h2⟩
theorem two_inj {a b c d : PyData} (h : [a, b] = [c, d]) : a = c ∧ b = d := by
  injection h with h1 h2
  injection h2 with h2 _
  exact ⟨h1, h2⟩
theorem one_inj {a c : PyData} (h : [a] = [c]) : a = c := by
  injection h with h1 _
theorem tD_inj : ∀ a b : Tm, tD a = tD b → a = b := by
  intro a
  induction a with
  | num n =>
    intro b h
    rw [tD_eq (.num n), tD_eq b] at h
    obtain ⟨h1, h2⟩ := tup_inj h
    have h1 := TG.s_inj h1
    cases b <;> first | (cases h1; done) | skip
    have e := one_inj h2
    injection e with e
    rw [e]
  | nam n =>
    intro b h
    rw [tD_eq (.nam n), tD_eq b] at h
    obtain ⟨h1, h2⟩ := tup_inj h
    have h1 := TG.s_inj h1
    cases b <;> first | (cases h1; done) | skip
    have e := one_inj h2
    injection e with e
    rw [e]
  | neg t iht =>
    intro b h
    rw [tD_eq (.neg t), tD_eq b] at h
    obtain ⟨h1, h2⟩ := tup_inj h
    have h1 := TG.s_inj h1
    cases b <;> first | (cases h1; done) | skip
    rw [iht _ (one_inj h2)]
  | quo t k iht =>
    intro b h
    rw [tD_eq (.quo t k), tD_eq b] at h
    obtain ⟨h1, h2⟩ := tup_inj h
    have h1 := TG.s_inj h1
    cases b <;> first | (cases h1; done) | skip
    obtain ⟨e1, e2⟩ := two_inj h2
    injection e2 with e2
    rw [iht _ e1, e2]
  | rem t k iht =>
    intro b h
    rw [tD_eq (.rem t k), tD_eq b] at h
    obtain ⟨h1, h2⟩ := tup_inj h
    have h1 := TG.s_inj h1
    cases b <;> first | (cases h1; done) | skip
    obtain ⟨e1, e2⟩ := two_inj h2
    injection e2 with e2
    rw [iht _ e1, e2]
  | plus t u iht ihu =>
    intro b h
    rw [tD_eq (.plus t u), tD_eq b] at h
    obtain ⟨h1, h2⟩ := tup_inj h
    have h1 := TG.s_inj h1
    cases b <;> first | (cases h1; done) | skip
    obtain ⟨e1, e2⟩ := two_inj h2
    rw [iht _ e1, ihu _ e2]
  | minus t u iht ihu =>
    intro b h
    rw [tD_eq (.minus t u), tD_eq b] at h
    obtain ⟨h1, h2⟩ := tup_inj h
    have h1 := TG.s_inj h1
    cases b <;> first | (cases h1; done) | skip
    obtain ⟨e1, e2⟩ := two_inj h2
    rw [iht _ e1, ihu _ e2]
  | times t u iht ihu =>
    intro b h
    rw [tD_eq (.times t u), tD_eq b] at h
    obtain ⟨h1, h2⟩ := tup_inj h
    have h1 := TG.s_inj h1
    cases b <;> first | (cases h1; done) | skip
    obtain ⟨e1, e2⟩ := two_inj h2
    rw [iht _ e1, ihu _ e2]
  | least t u iht ihu =>
    intro b h
    rw [tD_eq (.least t u), tD_eq b] at h
    obtain ⟨h1, h2⟩ := tup_inj h
    have h1 := TG.s_inj h1
    cases b <;> first | (cases h1; done) | skip
    obtain ⟨e1, e2⟩ := two_inj h2
    rw [iht _ e1, ihu _ e2]
  | most t u iht ihu =>
    intro b h
    rw [tD_eq (.most t u), tD_eq b] at h
    obtain ⟨h1, h2⟩ := tup_inj h
    have h1 := TG.s_inj h1
    cases b <;> first | (cases h1; done) | skip
    obtain ⟨e1, e2⟩ := two_inj h2
    rw [iht _ e1, ihu _ e2]
theorem cD_inj {a b : Cm} (h : cD a = cD b) : a = b := by
  obtain ⟨o, t, u⟩ := a
  obtain ⟨o', t', u'⟩ := b
  obtain ⟨h1, h2⟩ := tup_inj h
  obtain ⟨e1, e2⟩ := two_inj h2
  have h3 : o = o' := CO.s_inj h1
  have e3 : t = t' := tD_inj _ _ e1
  have e4 : u = u' := tD_inj _ _ e2
  rw [h3, e3, e4]
/-- the word of a formula -/
inductive FG where
  | tt | ff | c (o : CO) | u (o : UO) | b (o : BO)
  deriving DecidableEq
def FG.s : FG → Str
  | .tt => "true"
  | .ff => "false"
  | .c o => o.s
  | .u o => o.s
  | .b o => o.s
theorem FG.s_inj {a b : FG} (h : a.s = b.s) : a = b := by
  cases a with
  | tt => cases b with
    | tt => rfl
    | ff => exact absurd h (by decide +kernel)
    | c o => cases o <;> exact absurd h (by decide +kernel)
    | u o => cases o <;> exact absurd h (by decide +kernel)
    | b o => cases o <;> exact absurd h (by decide +kernel)
  | ff => cases b with
    | tt => exact absurd h (by decide +kernel)
    | ff => rfl
    | c o => cases o <;> exact absurd h (by decide +kernel)
    | u o => cases o <;> exact absurd h (by decide +kernel)
    | b o => cases o <;> exact absurd h (by decide +kernel)
  | c p => cases b with
    | tt => cases p <;> exact absurd h (by decide +kernel)
    | ff => cases p <;> exact absurd h (by decide +kernel)
    | c o => exact congrArg FG.c (CO.s_inj h)
    | u o => cases p <;> cases o <;> exact absurd h (by decide +kernel)
    | b o => cases p <;> cases o <;> exact absurd h (by decide +kernel)
  | u p => cases b with
    | tt => cases p <;> exact absurd h (by decide +kernel)
    | ff => cases p <;> exact absurd h (by decide +kernel)
    | c o => cases p <;> cases o <;> exact absurd h (by decide +kernel)
    | u o => exact congrArg FG.u (UO.s_inj h)
    | b o => cases p <;> cases o <;> exact absurd h (by decide +kernel)
  | b p => cases b with
    | tt => cases p <;> exact absurd h (by decide +kernel)
    | ff => cases p <;> exact absurd h (by decide +kernel)
    | c o => cases p <;> cases o <;> exact absurd h (by decide +kernel)
    | u o => cases p <;> cases o <;> exact absurd h (by decide +kernel)
    | b o => exact congrArg FG.b (BO.s_inj h)
def Fm.tag : Fm → FG
  | .tt => .tt
  | .ff => .ff
  | .cmp c => .c c.o
  | .un w _ => .u w
  | .bin w _ _ => .b w
def Fm.args : Fm → List PyData
  | .tt => []
  | .ff => []
  | .cmp c => [tD c.t, tD c.u]
  | .un _ f => [fD f]
  | .bin _ f g => [fD f, fD g]
theorem fD_eq (f : Fm) : fD f = .tuple (.str f.tag.s :: f.args) := by cases f <;> rfl
theorem fD_inj : ∀ a b : Fm, fD a = fD b → a = b := by
  intro a
  induction a with
  | tt =>
    intro b h
    rw [fD_eq .tt, fD_eq b] at h
    have h1 := FG.s_inj (tup_inj h).1
    cases b <;> first | (cases h1; done) | rfl
  | ff =>
    intro b h
    rw [fD_eq .ff, fD_eq b] at h
    have h1 := FG.s_inj (tup_inj h).1
    cases b <;> first | (cases h1; done) | rfl
  | cmp c =>
    intro b h
    have h0 := h
    rw [fD_eq (.cmp c), fD_eq b] at h
    have h1 := FG.s_inj (tup_inj h).1
    cases b <;> first | (cases h1; done) | skip
    rw [cD_inj h0]
  | un w f ih =>
    intro b h
    rw [fD_eq (.un w f), fD_eq b] at h
    obtain ⟨h1, h2⟩ := tup_inj h
    have h1 := FG.s_inj h1
    cases b <;> first | (cases h1; done) | skip
    injection h1 with h1
    rw [h1, ih _ (one_inj h2)]
  | bin w f g ihf ihg =>
    intro b h
    rw [fD_eq (.bin w f g), fD_eq b] at h
    obtain ⟨h1, h2⟩ := tup_inj h
    have h1 := FG.s_inj h1
    cases b <;> first | (cases h1; done) | skip
    injection h1 with h1
    obtain ⟨e1, e2⟩ := two_inj h2
    rw [h1, ihf _ e1, ihg _ e2]
theorem eqv_dec {d e : PyData} (h1 : flatD d = true) (h2 : flatD e = true) {p : Prop} [Decidable p] (hp : d = e ↔ p) : PyData.eqv d e = decide p := by
  by_cases h : p
  · rw [decide_eq_true h, ← hp.mpr h]
    exact eqv_self d h1
  · rw [decide_eq_false h]
    cases q : PyData.eqv d e with
    | false => rfl
    | true => exact absurd (hp.mp (eqv_eq d e h1 h2 q)) h
theorem fD_eqv (f g : Fm) : PyData.eqv (fD f) (fD g) = decide (f = g) := eqv_dec (fD_flat f) (fD_flat g) ⟨fD_inj f g, fun e => by rw [e]⟩
theorem cD_eqv (a b : Cm) : PyData.eqv (cD a) (cD b) = decide (a = b) := eqv_dec (cD_flat a) (cD_flat b) ⟨cD_inj, fun e => by rw [e]⟩
end W16
set_option Elab.async false
set_option linter.all false
set_option maxRecDepth 100000
set_option maxHeartbeats 2000000
namespace W16
open PySem PySem.PyData
/-! ### numbers -/
def Tm.val (e : Str → Int) : Tm → Int
  | .num n => n
  | .nam w => e w
  | .plus t u => t.val e + u.val e
  | .minus t u => t.val e - u.val e
  | .times t u => t.val e * u.val e
  | .neg t => -(t.val e)
  | .quo t k => t.val e / k
  | .rem t k => t.val e % k
  | .least t u => if u.val e < t.val e then u.val e else t.val e
  | .most t u => if u.val e > t.val e then u.val e else t.val e
def Cm.val (e : Str → Int) (c : Cm) : Bool := match c.o with
  | .eq => decide (c.t.val e = c.u.val e)
  | .below => decide (c.t.val e < c.u.val e)
  | .upto => decide (c.t.val e ≤ c.u.val e)
/-! ### walks along a run -/
def W (aft : Nat → Nat) (b a : Nat → Bool) (e : Bool) : Nat → Nat → Bool
  | 0, _ => e
  | m + 1, k => if a k then true else if !b k then false else W aft b a e m (aft k)
/-- the next place -/
def aft (n back k : Nat) : Nat := if k + 1 < n then k + 1 else back
theorem aft_lt {n back k : Nat} (hb : back < n) : aft n back k < n := by unfold aft; split <;> omega
section
variable {af : Nat → Nat}
theorem W_congr {b a b' a' : Nat → Bool} {e : Bool} (h1 : ∀ k, b k = b' k) (h2 : ∀ k, a k = a' k) : ∀ m k, W af b a e m k = W af b' a' e m k
  | 0, _ => rfl
  | m + 1, k => by unfold W; rw [h1, h2, W_congr h1 h2 m (af k)]
/-- not (f unless g), not (f always), .. -/
theorem W_dual {b a b' a' : Nat → Bool} {e : Bool} (h : ∀ k x, (if a k then true else if !b k then false else x) = !(if a' k then true else if !b' k then false else !x)) : ∀ m k, W af b a e m k = !W af b' a' (!e) m k
  | 0, _ => by simp [W]
  | m + 1, k => by
    unfold W
    rw [W_dual h m (af k)]
    have q := h k (!W af b' a' (!e) m (af k))
    rw [q]
    simp
theorem W_same {b a b' a' : Nat → Bool} {e : Bool} (h : ∀ k x, (if a k then true else if !b k then false else x) = (if a' k then true else if !b' k then false else x)) : ∀ m k, W af b a e m k = W af b' a' e m k
  | 0, _ => rfl
  | m + 1, k => by
    unfold W
    rw [W_same h m (af k)]
    exact h k _
/-- decided at once -/
theorem W_now {b a : Nat → Bool} {e : Bool} {m k : Nat} {r : Bool} (h : ∀ x, (if a k then true else if !b k then false else x) = r) : W af b a e (m + 1) k = r := by
  unfold W
  exact h _
/-- never decided otherwise than e -/
theorem W_end {b a : Nat → Bool} {e : Bool} (h : ∀ k, (if a k then true else if !b k then false else e) = e) : ∀ m k, W af b a e m k = e
  | 0, _ => rfl
  | m + 1, k => by
    unfold W
    rw [W_end h m (af k)]
    exact h k
end
/-! ### the meaning of a formula at the places of a run -/
structure Rn where
  n : Nat
  back : Nat
  env : Nat → Str → Int
def Rn.a (r : Rn) (k : Nat) : Nat := aft r.n r.back k
def Rn.W (r : Rn) (b a : Nat → Bool) (e : Bool) (k : Nat) : Bool := W16.W r.a b a e r.n k
def tempo (r : Rn) (w : BO) (f g : Nat → Bool) (k : Nat) : Bool := match w with
  | .and => f k && g k
  | .or => f k || g k
  | .imp => !f k || g k
  | .same => f k == g k
  | .til => r.W f g false k
  | .rel => !r.W (fun j => !f j) (fun j => !g j) false k
  | .unl => r.W f g true k
  | .strong => r.W g (fun j => f j && g j) false k
def unary (r : Rn) (w : UO) (f : Nat → Bool) (k : Nat) : Bool := match w with
  | .not => !f k
  | .next => f (r.a k)
  | .ev => r.W (fun _ => true) f false k
  | .alw => r.W f (fun _ => false) true k
def ho (r : Rn) : Fm → Nat → Bool
  | .tt => fun _ => true
  | .ff => fun _ => false
  | .cmp c => fun k => c.val (r.env k)
  | .un w f => unary r w (ho r f)
  | .bin w f g => tempo r w (ho r f) (ho r g)
/-! ### positive forms -/
def UO.dual : UO → UO
  | .not => .not
  | .next => .next
  | .ev => .alw
  | .alw => .ev
def BO.dual : BO → BO
  | .and => .or
  | .or => .and
  | .imp => .imp
  | .same => .same
  | .til => .rel
  | .rel => .til
  | .unl => .strong
  | .strong => .unl
mutual
def ng : Fm → Fm
  | .tt => .ff
  | .ff => .tt
  | .cmp c => (match c.o with
    | .eq => .un .not (.cmp c)
    | .below => .cmp ⟨.upto, c.u, c.t⟩
    | .upto => .cmp ⟨.below, c.u, c.t⟩)
  | .un .not f => ps f
  | .un w f => .un w.dual (ng f)
  | .bin .imp f g => .bin .and (ps f) (ng g)
  | .bin .same f g => .bin .same (ng f) (ps g)
  | .bin w f g => .bin w.dual (ng f) (ng g)
def ps : Fm → Fm
  | .tt => .tt
  | .ff => .ff
  | .cmp c => .cmp c
  | .un .not f => ng f
  | .un w f => .un w (ps f)
  | .bin .imp f g => .bin .or (ng f) (ps g)
  | .bin w f g => .bin w (ps f) (ps g)
end
theorem cm_flip (c : Cm) (e : Str → Int) (h : c.o = .below) : (Cm.mk .upto c.u c.t).val e = !c.val e := by
  obtain ⟨o, t, u⟩ := c
  have h : o = .below := h
  subst h
  show decide (u.val e ≤ t.val e) = !decide (t.val e < u.val e)
  by_cases q : t.val e < u.val e
  · rw [decide_eq_true q, decide_eq_false (show ¬ u.val e ≤ t.val e by omega)]
    all_goals rfl
  · rw [decide_eq_false q, decide_eq_true (show u.val e ≤ t.val e by omega)]
    all_goals rfl
theorem cm_flip2 (c : Cm) (e : Str → Int) (h : c.o = .upto) : (Cm.mk .below c.u c.t).val e = !c.val e := by
  obtain ⟨o, t, u⟩ := c
  have h : o = .upto := h
  subst h
  show decide (u.val e < t.val e) = !decide (t.val e ≤ u.val e)
  by_cases q : t.val e ≤ u.val e
  · rw [decide_eq_true q, decide_eq_false (show ¬ u.val e < t.val e by omega)]
    all_goals rfl
  · rw [decide_eq_false q, decide_eq_true (show u.val e < t.val e by omega)]
    all_goals rfl
theorem unary_congr (r : Rn) (w : UO) {f f' : Nat → Bool} (h : ∀ k, f k = f' k) (k : Nat) : unary r w f k = unary r w f' k := by
  rw [show f = f' from funext h]
theorem unary_dual (r : Rn) (w : UO) (hw : w ≠ .not) (f f' : Nat → Bool) (h : ∀ k, f' k = !f k) (k : Nat) : unary r w.dual f' k = !unary r w f k := by
  rw [show f' = fun k => !f k from funext h]
  cases w with
  | not => exact absurd rfl hw
  | next => rfl
  | ev => exact W_dual (fun k x => by cases f k <;> cases x <;> rfl) _ _
  | alw => exact W_dual (fun k x => by cases f k <;> cases x <;> rfl) _ _
theorem tempo_dual (r : Rn) (w : BO) (h1 : w ≠ .imp) (h2 : w ≠ .same) (f g f' g' : Nat → Bool) (hf : ∀ k, f' k = !f k) (hg : ∀ k, g' k = !g k) (k : Nat) : tempo r w.dual f' g' k = !tempo r w f g k := by
  rw [show f' = fun k => !f k from funext hf, show g' = fun k => !g k from funext hg]
  cases w with
  | and => show (!f k || !g k) = !(f k && g k); cases f k <;> cases g k <;> rfl
  | or => show (!f k && !g k) = !(f k || g k); cases f k <;> cases g k <;> rfl
  | imp => exact absurd rfl h1
  | same => exact absurd rfl h2
  | til => show (!r.W (fun j => !!f j) (fun j => !!g j) false k) = !r.W f g false k; simp
  | rel => show r.W (fun j => !f j) (fun j => !g j) false k = !!r.W (fun j => !f j) (fun j => !g j) false k; simp
  | unl => exact W_dual (fun k x => by cases z1 : f k <;> cases z2 : g k <;> cases x <;> simp [z1, z2]) _ _
  | strong => exact W_dual (fun k x => by cases z1 : f k <;> cases z2 : g k <;> cases x <;> simp [z1, z2]) _ _
theorem ps_ng (r : Rn) : ∀ f : Fm, (∀ k, ho r (ps f) k = ho r f k) ∧ ∀ k, ho r (ng f) k = !ho r f k := by
  intro f
  induction f with
  | tt => exact ⟨fun _ => rfl, fun _ => rfl⟩
  | ff => exact ⟨fun _ => rfl, fun _ => rfl⟩
  | cmp c =>
    refine ⟨fun _ => rfl, fun k => ?_⟩
    cases h : c.o with
    | eq => simp only [ng, h]; rfl
    | below => simp only [ng, h]; exact cm_flip c _ h
    | upto => simp only [ng, h]; exact cm_flip2 c _ h
  | un w f ih =>
    obtain ⟨i1, i2⟩ := ih
    cases w with
    | not =>
      refine ⟨fun k => i2 k, fun k => ?_⟩
      show ho r (ps f) k = !!ho r f k
      rw [i1]; simp
    | next => exact ⟨fun k => unary_congr r .next i1 k, fun k => unary_dual r .next (by decide) _ _ i2 k⟩
    | ev => exact ⟨fun k => unary_congr r .ev i1 k, fun k => unary_dual r .ev (by decide) _ _ i2 k⟩
    | alw => exact ⟨fun k => unary_congr r .alw i1 k, fun k => unary_dual r .alw (by decide) _ _ i2 k⟩
  | bin w f g ihf ihg =>
    obtain ⟨f1, f2⟩ := ihf
    obtain ⟨g1, g2⟩ := ihg
    have e1 : ho r (ps f) = ho r f := funext f1
    have e2 : ho r (ps g) = ho r g := funext g1
    cases w with
    | imp =>
      refine ⟨fun k => ?_, fun k => ?_⟩
      · show (ho r (ng f) k || ho r (ps g) k) = (!ho r f k || ho r g k)
        rw [f2, g1]
      · show (ho r (ps f) k && ho r (ng g) k) = !(!ho r f k || ho r g k)
        rw [f1, g2]; cases ho r f k <;> cases ho r g k <;> rfl
    | same =>
      refine ⟨fun k => ?_, fun k => ?_⟩
      · show (ho r (ps f) k == ho r (ps g) k) = (ho r f k == ho r g k)
        rw [f1, g1]
      · show (ho r (ng f) k == ho r (ps g) k) = !(ho r f k == ho r g k)
        rw [f2, g1]; cases ho r f k <;> cases ho r g k <;> rfl
    | and => exact ⟨fun k => by show tempo r .and (ho r (ps f)) (ho r (ps g)) k = _; rw [e1, e2]; rfl, fun k => tempo_dual r .and (by decide) (by decide) _ _ _ _ f2 g2 k⟩
    | or => exact ⟨fun k => by show tempo r .or (ho r (ps f)) (ho r (ps g)) k = _; rw [e1, e2]; rfl, fun k => tempo_dual r .or (by decide) (by decide) _ _ _ _ f2 g2 k⟩
    | til => exact ⟨fun k => by show tempo r .til (ho r (ps f)) (ho r (ps g)) k = _; rw [e1, e2]; rfl, fun k => tempo_dual r .til (by decide) (by decide) _ _ _ _ f2 g2 k⟩
    | rel => exact ⟨fun k => by show tempo r .rel (ho r (ps f)) (ho r (ps g)) k = _; rw [e1, e2]; rfl, fun k => tempo_dual r .rel (by decide) (by decide) _ _ _ _ f2 g2 k⟩
    | unl => exact ⟨fun k => by show tempo r .unl (ho r (ps f)) (ho r (ps g)) k = _; rw [e1, e2]; rfl, fun k => tempo_dual r .unl (by decide) (by decide) _ _ _ _ f2 g2 k⟩
    | strong => exact ⟨fun k => by show tempo r .strong (ho r (ps f)) (ho r (ps g)) k = _; rw [e1, e2]; rfl, fun k => tempo_dual r .strong (by decide) (by decide) _ _ _ _ f2 g2 k⟩
/-! ### shrinking -/
def isC (f : Fm) : Bool := decide (f = .tt ∨ f = .ff)
def opp (f : Fm) : Fm := if f = .tt then .ff else if f = .ff then .tt else .un .not f
def shr1 (w : UO) (f : Fm) : Fm := if w = .not then opp f else if isC f then f else .un w f
def wT1 (w : BO) (g : Fm) : Fm := if w = .or ∨ w = .unl then .tt else if w = .til then shr1 .ev g else g
def wF1 (w : BO) (g : Fm) : Fm := if w = .and ∨ w = .strong then .ff else if w = .imp then .tt else if w = .same then opp g else if w = .rel then shr1 .alw g else g
def wT2 (w : BO) (f : Fm) : Fm := if w = .and ∨ w = .same then f else if w = .strong then .un .ev f else .tt
def wF2 (w : BO) (f : Fm) : Fm := if w = .or then f else if w = .imp ∨ w = .same then .un .not f else if w = .unl then .un .alw f else .ff
def shr2 (w : BO) (f g : Fm) : Fm := if f = .tt then wT1 w g else if f = .ff then wF1 w g else if g = .tt then wT2 w f else if g = .ff then wF2 w f else .bin w f g
def shr : Fm → Fm
  | .tt => .tt
  | .ff => .ff
  | .cmp c => .cmp c
  | .un w f => shr1 w (shr f)
  | .bin w f g => shr2 w (shr f) (shr g)
section
variable {r : Rn} (hn : 0 < r.n)
theorem ho_opp (f : Fm) (k : Nat) : ho r (opp f) k = !ho r f k := by
  unfold opp
  by_cases h1 : f = .tt
  · rw [if_pos h1, h1] <;> rfl
  · rw [if_neg h1]
    by_cases h2 : f = .ff
    · rw [if_pos h2, h2] <;> rfl
    · rw [if_neg h2] <;> rfl
include hn
theorem ho_shr1 (w : UO) (f : Fm) (k : Nat) : ho r (shr1 w f) k = unary r w (ho r f) k := by
  unfold shr1
  by_cases h1 : w = .not
  · rw [if_pos h1, h1]; exact ho_opp f k
  · rw [if_neg h1]
    by_cases h2 : isC f = true
    · rw [if_pos h2]
      have h3 : f = .tt ∨ f = .ff := of_decide_eq_true h2
      rcases h3 with h3 | h3
      · subst h3
        cases w with
        | not => exact absurd rfl h1
        | next => rfl
        | ev =>
          show true = r.W (fun _ => true) (fun _ => true) false k
          obtain ⟨m, e⟩ : ∃ m, r.n = m + 1 := ⟨r.n - 1, by omega⟩
          unfold Rn.W
          rw [e]
          exact (W_now fun x => rfl).symm
        | alw => exact (W_end (fun k => rfl) _ _).symm
      · subst h3
        cases w with
        | not => exact absurd rfl h1
        | next => rfl
        | ev => exact (W_end (fun k => rfl) _ _).symm
        | alw =>
          show false = r.W (fun _ => false) (fun _ => false) true k
          obtain ⟨m, e⟩ : ∃ m, r.n = m + 1 := ⟨r.n - 1, by omega⟩
          unfold Rn.W
          rw [e]
          exact (W_now fun x => rfl).symm
    · rw [if_neg h2] <;> rfl
theorem Rn.now {b a : Nat → Bool} {e : Bool} {k : Nat} {v : Bool} (h : ∀ x, (if a k then true else if !b k then false else x) = v) : r.W b a e k = v := by
  obtain ⟨m, q⟩ : ∃ m, r.n = m + 1 := ⟨r.n - 1, by omega⟩
  unfold Rn.W
  rw [q]
  exact W_now h
theorem ho_wT1 (w : BO) (g : Fm) (k : Nat) : ho r (wT1 w g) k = tempo r w (fun _ => true) (ho r g) k := by
  cases w with
  | and => show ho r g k = (true && ho r g k); rw [Bool.true_and]
  | or => rfl
  | imp => show ho r g k = (!true || ho r g k); simp
  | same => show ho r g k = (true == ho r g k); cases ho r g k <;> rfl
  | til => exact ho_shr1 hn .ev g k
  | rel =>
    show ho r g k = !r.W (fun j => !true) (fun j => !ho r g j) false k
    rw [Rn.now hn (v := !ho r g k) (fun x => by cases ho r g k <;> rfl)]; simp
  | unl => exact (W_end (fun k => by cases ho r g k <;> rfl) _ _).symm
  | strong =>
    show ho r g k = r.W (ho r g) (fun j => true && ho r g j) false k
    rw [Rn.now hn (v := ho r g k) (fun x => by cases ho r g k <;> rfl)]
theorem ho_wF1 (w : BO) (g : Fm) (k : Nat) : ho r (wF1 w g) k = tempo r w (fun _ => false) (ho r g) k := by
  cases w with
  | and => rfl
  | or => show ho r g k = (false || ho r g k); simp
  | imp => rfl
  | same => show ho r (opp g) k = (false == ho r g k); rw [ho_opp]; cases ho r g k <;> rfl
  | til =>
    show ho r g k = r.W (fun _ => false) (ho r g) false k
    rw [Rn.now hn (v := ho r g k) (fun x => by cases ho r g k <;> rfl)]
  | rel =>
    show ho r (shr1 .alw g) k = !r.W (fun j => !false) (fun j => !ho r g j) false k
    rw [ho_shr1 hn]
    exact W_dual (fun k x => by cases ho r g k <;> cases x <;> rfl) _ _
  | unl =>
    show ho r g k = r.W (fun _ => false) (ho r g) true k
    rw [Rn.now hn (v := ho r g k) (fun x => by cases ho r g k <;> rfl)]
  | strong => exact (W_end (fun k => by show (if (false && ho r g k) = true then true else if (!ho r g k) = true then false else false) = false; cases ho r g k <;> rfl) _ _).symm
theorem ho_wT2 (w : BO) (f : Fm) (k : Nat) : ho r (wT2 w f) k = tempo r w (ho r f) (fun _ => true) k := by
  cases w with
  | and => show ho r f k = (ho r f k && true); simp
  | or => show true = (ho r f k || true); simp
  | imp => show true = (!ho r f k || true); simp
  | same => show ho r f k = (ho r f k == true); cases ho r f k <;> rfl
  | til => exact (Rn.now hn (v := true) (fun x => rfl)).symm
  | rel =>
    show true = !r.W (fun j => !ho r f j) (fun j => !true) false k
    have q : r.W (fun j => !ho r f j) (fun j => !true) false k = false := W_end (fun k => by cases ho r f k <;> rfl) _ _
    rw [q]; rfl
  | unl => exact (Rn.now hn (v := true) (fun x => rfl)).symm
  | strong =>
    show r.W (fun _ => true) (ho r f) false k = r.W (fun _ => true) (fun j => ho r f j && true) false k
    exact W_same (fun k x => by cases ho r f k <;> rfl) _ _
theorem ho_wF2 (w : BO) (f : Fm) (k : Nat) : ho r (wF2 w f) k = tempo r w (ho r f) (fun _ => false) k := by
  cases w with
  | and => show false = (ho r f k && false); simp
  | or => show ho r f k = (ho r f k || false); simp
  | imp => show (!ho r f k) = (!ho r f k || false); simp
  | same => show (!ho r f k) = (ho r f k == false); cases ho r f k <;> rfl
  | til => exact (W_end (fun k => by cases ho r f k <;> rfl) _ _).symm
  | rel =>
    show false = !r.W (fun j => !ho r f j) (fun j => !false) false k
    have q : r.W (fun j => !ho r f j) (fun j => !false) false k = true := Rn.now hn (v := true) (fun x => rfl)
    rw [q]; rfl
  | unl => rfl
  | strong => exact (Rn.now hn (v := false) (fun x => by cases ho r f k <;> rfl)).symm
theorem ho_shr2 (w : BO) (f g : Fm) (k : Nat) : ho r (shr2 w f g) k = tempo r w (ho r f) (ho r g) k := by
  unfold shr2
  by_cases h1 : f = .tt
  · rw [if_pos h1, h1]; exact ho_wT1 hn w g k
  · rw [if_neg h1]
    by_cases h2 : f = .ff
    · rw [if_pos h2, h2]; exact ho_wF1 hn w g k
    · rw [if_neg h2]
      by_cases h3 : g = .tt
      · rw [if_pos h3, h3]; exact ho_wT2 hn w f k
      · rw [if_neg h3]
        by_cases h4 : g = .ff
        · rw [if_pos h4, h4]; exact ho_wF2 hn w f k
        · rw [if_neg h4] <;> rfl
theorem ho_shr : ∀ f : Fm, ∀ k, ho r (shr f) k = ho r f k := by
  intro f
  induction f with
  | tt => exact fun _ => rfl
  | ff => exact fun _ => rfl
  | cmp c => exact fun _ => rfl
  | un w f ih =>
    intro k
    show ho r (shr1 w (shr f)) k = unary r w (ho r f) k
    rw [ho_shr1 hn, show ho r (shr f) = ho r f from funext ih]
  | bin w f g ihf ihg =>
    intro k
    show ho r (shr2 w (shr f) (shr g)) k = tempo r w (ho r f) (ho r g) k
    rw [ho_shr2 hn, show ho r (shr f) = ho r f from funext ihf, show ho r (shr g) = ho r g from funext ihg]
end
end W16
set_option Elab.async false
set_option linter.all false
set_option maxRecDepth 100000
set_option maxHeartbeats 2000000
namespace W16
open PySem PySem.PyData
/-! ### two passes from behind are the walk -/
def ch (st : Nat → Bool → Bool) : Nat → Nat → Bool → Bool
  | 0, _, x => x
  | m + 1, k, x => st k (ch st m (k + 1) x)
/-- the truths behind a pass over n places, from the truths ahead of it -/
def pass (st : Nat → Bool → Bool) (n back : Nat) (t : Nat → Bool) (k : Nat) : Bool := ch st (n - k) k (t back)
def stp (b a : Nat → Bool) (k : Nat) (x : Bool) : Bool := if a k then true else if !b k then false else x
theorem W_succ (af : Nat → Nat) (b a : Nat → Bool) (e : Bool) (m k : Nat) : W af b a e (m + 1) k = stp b a k (W af b a e m (af k)) := rfl
theorem W_ch {n back : Nat} (b a : Nat → Bool) (e : Bool) (m : Nat) : ∀ j k, j = n - k → k < n → W (aft n back) b a e (m + j) k = ch (stp b a) j k (W (aft n back) b a e m back)
  | 0, k, h, hk => by omega
  | j + 1, k, h, hk => by
    show W (aft n back) b a e (m + j + 1) k = stp b a k (ch (stp b a) j (k + 1) (W (aft n back) b a e m back))
    rw [W_succ]
    by_cases q : k + 1 < n
    · have e1 : aft n back k = k + 1 := by unfold aft; rw [if_pos q]
      rw [e1, W_ch b a e m j (k + 1) (by omega) q]
    · have e1 : aft n back k = back := by unfold aft; rw [if_neg q]
      have e2 : j = 0 := by omega
      subst e2
      rw [e1]
      all_goals rfl
theorem pass2 {n back : Nat} (b a : Nat → Bool) (e : Bool) (hb : back < n) {k : Nat} (hk : k < n) : pass (stp b a) n back (pass (stp b a) n back fun _ => e) k = W (aft n back) b a e ((n - back) + (n - k)) k := by
  rw [W_ch b a e (n - back) (n - k) k rfl hk]
  have h := W_ch (n := n) (back := back) b a e 0 (n - back) back rfl hb
  rw [Nat.zero_add] at h
  unfold pass
  rw [h]
  all_goals rfl
/-- the j-th place from k on -/
def pl (n back : Nat) : Nat → Nat → Nat
  | 0, k => k
  | j + 1, k => pl n back j (aft n back k)
theorem pl_succ (n back : Nat) : ∀ j k, pl n back (j + 1) k = aft n back (pl n back j k)
  | 0, _ => rfl
  | j + 1, k => by
    show pl n back (j + 1) (aft n back k) = aft n back (pl n back j (aft n back k))
    exact pl_succ n back j (aft n back k)
theorem pl_run {n back : Nat} : ∀ i k, k + i < n → pl n back i k = k + i
  | 0, k, _ => rfl
  | i + 1, k, h => by
    rw [pl_succ, pl_run i k (by omega)]
    unfold aft
    rw [if_pos (by omega)]
    omega
theorem pl_add (n back : Nat) : ∀ i j k, pl n back (i + j) k = pl n back i (pl n back j k)
  | i, 0, k => rfl
  | i, j + 1, k => pl_add n back i j (aft n back k)
theorem pl_wrap {n back k : Nat} (hk : k < n) : pl n back (n - k) k = back := by
  obtain ⟨d, e⟩ : ∃ d, n - k = d + 1 := ⟨n - k - 1, by omega⟩
  rw [e, pl_succ, pl_run d k (by omega)]
  unfold aft
  rw [if_neg (by omega)]
/-- so many places are met -/
def dst (n back k : Nat) : Nat := if k ≤ back then n - k else n - back
theorem pl_per {n back k : Nat} (hb : back < n) (hk : k < n) : ∀ i, pl n back (dst n back k + i) k = pl n back (dst n back k + i - (n - back)) k := by
  have base : pl n back (dst n back k) k = pl n back (dst n back k - (n - back)) k := by
    unfold dst
    by_cases h : k ≤ back
    · rw [if_pos h, pl_wrap hk, pl_run _ _ (by omega)]
      omega
    · rw [if_neg h]
      have e1 : n - back = (k - back) + (n - k) := by omega
      rw [show n - back - (n - back) = 0 by omega, e1, pl_add, pl_wrap hk, pl_run _ _ (by omega)]
      show back + (k - back) = k
      omega
  have big : n - back ≤ dst n back k := by unfold dst; split <;> omega
  intro i
  induction i with
  | zero => exact base
  | succ i ih =>
    rw [show dst n back k + (i + 1) = (dst n back k + i) + 1 by omega, pl_succ, ih, show dst n back k + i + 1 - (n - back) = (dst n back k + i - (n - back)) + 1 by omega, pl_succ]
section
variable {n back : Nat} {b a : Nat → Bool} {e : Bool}
def und (n back : Nat) (b a : Nat → Bool) (k j : Nat) : Prop := a (pl n back j k) = false ∧ b (pl n back j k) = true
theorem W_und : ∀ m k, (∀ j, j < m → und n back b a k j) → W (aft n back) b a e m k = e
  | 0, _, _ => rfl
  | m + 1, k, h => by
    obtain ⟨h1, h2⟩ := h 0 (by omega)
    have h1 : a k = false := h1
    have h2 : b k = true := h2
    unfold W
    rw [h1, h2, W_und m (aft n back k) fun j hj => h (j + 1) (by omega)]
    all_goals rfl
theorem W_dec : ∀ m k j, j < m → ¬ und n back b a k j → W (aft n back) b a e (m + 1) k = W (aft n back) b a e m k
  | 0, _, _, h, _ => by omega
  | m + 1, k, j, hj, h => by
    rw [W]
    conv => rhs; rw [W]
    by_cases h0 : und n back b a k 0
    · cases j with
      | zero => exact absurd h0 h
      | succ j =>
        rw [W_dec m (aft n back k) j (by omega) h]
    · cases ha : a k with
      | true => rfl
      | false =>
        cases hb : b k with
        | false => rfl
        | true => exact absurd ⟨ha, hb⟩ h0
theorem W_stab (hb : back < n) {k : Nat} (hk : k < n) : ∀ i, W (aft n back) b a e (dst n back k + i + 1) k = W (aft n back) b a e (dst n back k + i) k := by
  intro i
  by_cases h : ∀ j, j < dst n back k + i → und n back b a k j
  · have h2 : und n back b a k (dst n back k + i) := by
      have q := h (dst n back k + i - (n - back)) (by unfold dst; split <;> omega)
      unfold und at q ⊢
      rw [pl_per hb hk]
      exact q
    rw [W_und _ _ h, W_und _ _ fun j hj => ?_]
    by_cases q : j < dst n back k + i
    · exact h j q
    · have q2 : j = dst n back k + i := by omega
      rw [q2]; exact h2
  · obtain ⟨j, h⟩ := Classical.not_forall.mp h
    obtain ⟨hj, h⟩ := Classical.not_imp.mp h
    exact W_dec _ k j hj h
theorem W_far (hb : back < n) {k : Nat} (hk : k < n) : ∀ i, W (aft n back) b a e (dst n back k + i) k = W (aft n back) b a e (dst n back k) k
  | 0 => rfl
  | i + 1 => (W_stab hb hk i).trans (W_far hb hk i)
theorem spread_W (hb : back < n) {k : Nat} (hk : k < n) : pass (stp b a) n back (pass (stp b a) n back fun _ => e) k = W (aft n back) b a e n k := by
  rw [pass2 b a e hb hk]
  obtain ⟨i, hi⟩ : ∃ i, n - back + (n - k) = dst n back k + i := ⟨n - back + (n - k) - dst n back k, by unfold dst; split <;> omega⟩
  obtain ⟨j, hj⟩ : ∃ j, n = dst n back k + j := ⟨n - dst n back k, by unfold dst; split <;> omega⟩
  have e1 := W_far (b := b) (a := a) (e := e) hb hk i
  have e2 := W_far (b := b) (a := a) (e := e) hb hk j
  rw [hi, e1]
  rw [← hj] at e2
  exact e2.symm
end
/-! the program's steps -/
def stU (w : UO) (f x : Bool) : Bool := match w with
  | .ev => f || x
  | _ => f && x
def stB (w : BO) (f g x : Bool) : Bool := match w with
  | .til => g || (f && x)
  | .unl => g || (f && x)
  | _ => g && (f || x)
def grU (w : UO) : Bool := decide (w = .alw)
def grB (w : BO) : Bool := decide (w = .rel ∨ w = .unl)
theorem pass_congr {st st' : Nat → Bool → Bool} {n back : Nat} {t t' : Nat → Bool} (h : ∀ k x, st k x = st' k x) (ht : t back = t' back) (k : Nat) : pass st n back t k = pass st' n back t' k := by
  have e : st = st' := funext fun k => funext fun x => h k x
  unfold pass
  rw [e, ht]
def spr (st : Nat → Bool → Bool) (n back : Nat) (e : Bool) : Nat → Bool := pass st n back (pass st n back fun _ => e)
theorem spr_congr {st st' : Nat → Bool → Bool} {n back : Nat} {e : Bool} (h : ∀ k x, st k x = st' k x) (k : Nat) : spr st n back e k = spr st' n back e k := by
  have e : st = st' := funext fun k => funext fun x => h k x
  rw [e]
theorem sprU (r : Rn) (hb : r.back < r.n) (w : UO) (hw : w = .ev ∨ w = .alw) (f : Nat → Bool) {k : Nat} (hk : k < r.n) : spr (fun j x => stU w (f j) x) r.n r.back (grU w) k = unary r w f k := by
  rcases hw with rfl | rfl
  · refine (spr_congr (st' := stp (fun _ => true) f) (fun j x => ?_) k).trans (spread_W hb hk)
    show (f j || x) = if f j then true else if !true then false else x
    cases f j <;> cases x <;> rfl
  · refine (spr_congr (st' := stp f (fun _ => false)) (fun j x => ?_) k).trans (spread_W hb hk)
    show (f j && x) = if false then true else if !f j then false else x
    cases f j <;> cases x <;> rfl
theorem sprB (r : Rn) (hb : r.back < r.n) (w : BO) (hw : w = .til ∨ w = .rel ∨ w = .unl ∨ w = .strong) (f g : Nat → Bool) {k : Nat} (hk : k < r.n) : spr (fun j x => stB w (f j) (g j) x) r.n r.back (grB w) k = tempo r w f g k := by
  rcases hw with rfl | rfl | rfl | rfl
  · refine (spr_congr (st' := stp f g) (fun j x => ?_) k).trans (spread_W hb hk)
    show (g j || (f j && x)) = if g j then true else if !f j then false else x
    cases f j <;> cases g j <;> cases x <;> rfl
  · refine (spr_congr (st' := stp g fun j => f j && g j) (fun j x => ?_) k).trans ((spread_W hb hk).trans ?_)
    · show (g j && (f j || x)) = if (f j && g j) then true else if !g j then false else x
      cases f j <;> cases g j <;> cases x <;> rfl
    · exact W_dual (fun k x => by cases z1 : f k <;> cases z2 : g k <;> cases x <;> simp [z1, z2]) _ _
  · refine (spr_congr (st' := stp f g) (fun j x => ?_) k).trans (spread_W hb hk)
    show (g j || (f j && x)) = if g j then true else if !f j then false else x
    cases f j <;> cases g j <;> cases x <;> rfl
  · refine (spr_congr (st' := stp g fun j => f j && g j) (fun j x => ?_) k).trans (spread_W hb hk)
    show (g j && (f j || x)) = if (f j && g j) then true else if !g j then false else x
    cases f j <;> cases g j <;> cases x <;> rfl
/-! ### depths, plain texts -/
theorem dep_ps : ∀ f : Fm, (ps f).dep ≤ f.dep + 1 ∧ (ng f).dep ≤ f.dep + 1 := by
  intro f
  induction f with
  | tt => exact ⟨by simp [ps, Fm.dep], by simp [ng, Fm.dep]⟩
  | ff => exact ⟨by simp [ps, Fm.dep], by simp [ng, Fm.dep]⟩
  | cmp c =>
    obtain ⟨o, t, u⟩ := c
    refine ⟨by simp [ps, Fm.dep], ?_⟩
    cases o <;> simp [ng, Fm.dep, Cm.dep] <;> omega
  | un w f ih => cases w <;> simp only [ps, ng, Fm.dep] <;> omega
  | bin w f g ihf ihg => cases w <;> simp only [ps, ng, Fm.dep] <;> omega
theorem ok_ps : ∀ f : Fm, (ps f).ok = f.ok ∧ (ng f).ok = f.ok := by
  intro f
  induction f with
  | tt => exact ⟨rfl, rfl⟩
  | ff => exact ⟨rfl, rfl⟩
  | cmp c =>
    obtain ⟨o, t, u⟩ := c
    refine ⟨rfl, ?_⟩
    cases o <;> simp [ng, Fm.ok, Cm.ok, Bool.and_comm]
  | un w f ih => cases w <;> simp only [ps, ng, Fm.ok, ih.1, ih.2] <;> trivial
  | bin w f g ihf ihg => cases w <;> simp only [ps, ng, Fm.ok, ihf.1, ihf.2, ihg.1, ihg.2] <;> trivial
theorem dep_pos : ∀ f : Fm, 1 ≤ f.dep := by
  intro f
  cases f <;> simp [Fm.dep, Cm.dep]
theorem dep_opp (f : Fm) : (opp f).dep ≤ f.dep + 1 := by
  unfold opp
  split
  · simp [Fm.dep]
  · split <;> simp [Fm.dep]
theorem dep_shr1 (w : UO) (f : Fm) : (shr1 w f).dep ≤ f.dep + 1 := by
  unfold shr1
  split
  · exact dep_opp f
  · split
    · omega
    · simp [Fm.dep]
theorem dep_shr2 (w : BO) (f g : Fm) : (shr2 w f g).dep ≤ max f.dep g.dep + 1 := by
  have h1 := dep_shr1 .ev g
  have h2 := dep_shr1 .alw g
  have h3 := dep_opp g
  have h4 := dep_pos f
  unfold shr2
  split
  · unfold wT1
    repeat' split
    all_goals first | (simp only [Fm.dep]; omega) | omega
  · split
    · unfold wF1
      repeat' split
      all_goals first | (simp only [Fm.dep]; omega) | omega
    · split
      · unfold wT2
        repeat' split
        all_goals first | (simp only [Fm.dep]; omega) | omega
      · split
        · unfold wF2
          repeat' split
          all_goals first | (simp only [Fm.dep]; omega) | omega
        · simp only [Fm.dep]; omega
theorem dep_shr : ∀ f : Fm, (shr f).dep ≤ f.dep := by
  intro f
  induction f with
  | tt => exact Nat.le_refl _
  | ff => exact Nat.le_refl _
  | cmp c => exact Nat.le_refl _
  | un w f ih =>
    have h := dep_shr1 w (shr f)
    simp only [shr, Fm.dep]; omega
  | bin w f g ihf ihg =>
    have h := dep_shr2 w (shr f) (shr g)
    simp only [shr, Fm.dep]; omega
/-! ### the comparisons within -/
def found : Fm → List Cm
  | .tt => []
  | .ff => []
  | .cmp c => [c]
  | .un _ f => found f
  | .bin _ f g => found f ++ found g
def flips (c : Cm) : List Cm := match c.o with
  | .eq => [c]
  | .below => [c, ⟨.upto, c.u, c.t⟩]
  | .upto => [c, ⟨.below, c.u, c.t⟩]
def allowed (f : Fm) : List Cm := (found f).flatMap flips
theorem self_flips (c : Cm) : c ∈ flips c := by
  unfold flips
  cases c.o <;> simp
theorem allowed_self {f : Fm} {c : Cm} (h : c ∈ found f) : c ∈ allowed f := List.mem_flatMap.mpr ⟨c, h, self_flips c⟩
theorem allowed_un (w : UO) (f : Fm) : allowed (.un w f) = allowed f := rfl
theorem allowed_l {w : BO} {f g : Fm} {c : Cm} (h : c ∈ allowed f) : c ∈ allowed (.bin w f g) := by
  obtain ⟨d, h1, h2⟩ := List.mem_flatMap.mp h
  exact List.mem_flatMap.mpr ⟨d, List.mem_append_left _ h1, h2⟩
theorem allowed_r {w : BO} {f g : Fm} {c : Cm} (h : c ∈ allowed g) : c ∈ allowed (.bin w f g) := by
  obtain ⟨d, h1, h2⟩ := List.mem_flatMap.mp h
  exact List.mem_flatMap.mpr ⟨d, List.mem_append_right _ h1, h2⟩
theorem found_ps : ∀ f : Fm, (∀ c ∈ found (ps f), c ∈ allowed f) ∧ ∀ c ∈ found (ng f), c ∈ allowed f := by
  intro f
  induction f with
  | tt => exact ⟨fun c h => absurd h (by simp [ps, found]), fun c h => absurd h (by simp [ng, found])⟩
  | ff => exact ⟨fun c h => absurd h (by simp [ps, found]), fun c h => absurd h (by simp [ng, found])⟩
  | cmp c =>
    refine ⟨fun d h => allowed_self h, fun d h => ?_⟩
    obtain ⟨o, t, u⟩ := c
    cases o with
    | eq => exact allowed_self h
    | below =>
      have e : d = ⟨.upto, u, t⟩ := List.mem_singleton.mp h
      rw [e]
      exact List.mem_flatMap.mpr ⟨⟨.below, t, u⟩, List.mem_singleton.mpr rfl, List.mem_cons_of_mem _ (List.mem_singleton.mpr rfl)⟩
    | upto =>
      have e : d = ⟨.below, u, t⟩ := List.mem_singleton.mp h
      rw [e]
      exact List.mem_flatMap.mpr ⟨⟨.upto, t, u⟩, List.mem_singleton.mpr rfl, List.mem_cons_of_mem _ (List.mem_singleton.mpr rfl)⟩
  | un w f ih => cases w <;> exact ⟨fun c h => by first | exact ih.1 c h | exact ih.2 c h, fun c h => by first | exact ih.1 c h | exact ih.2 c h⟩
  | bin w f g ihf ihg =>
    have pp : ∀ c, c ∈ found (ps f) ++ found (ps g) → c ∈ allowed (.bin w f g) := fun c h => (List.mem_append.mp h).elim (fun z => allowed_l (ihf.1 c z)) fun z => allowed_r (ihg.1 c z)
    have nn : ∀ c, c ∈ found (ng f) ++ found (ng g) → c ∈ allowed (.bin w f g) := fun c h => (List.mem_append.mp h).elim (fun z => allowed_l (ihf.2 c z)) fun z => allowed_r (ihg.2 c z)
    have pn : ∀ c, c ∈ found (ps f) ++ found (ng g) → c ∈ allowed (.bin w f g) := fun c h => (List.mem_append.mp h).elim (fun z => allowed_l (ihf.1 c z)) fun z => allowed_r (ihg.2 c z)
    have np : ∀ c, c ∈ found (ng f) ++ found (ps g) → c ∈ allowed (.bin w f g) := fun c h => (List.mem_append.mp h).elim (fun z => allowed_l (ihf.2 c z)) fun z => allowed_r (ihg.1 c z)
    cases w <;> exact ⟨fun c h => by first | exact pp c h | exact np c h, fun c h => by first | exact nn c h | exact pn c h | exact np c h⟩
theorem found_opp {f : Fm} {c : Cm} (h : c ∈ found (opp f)) : c ∈ found f := by
  unfold opp at h
  split at h
  · simp [found] at h
  · split at h
    · simp [found] at h
    · exact h
theorem found_shr1 {w : UO} {f : Fm} {c : Cm} (h : c ∈ found (shr1 w f)) : c ∈ found f := by
  unfold shr1 at h
  split at h
  · exact found_opp h
  · split at h <;> exact h
theorem found_shr2 {w : BO} {f g : Fm} {c : Cm} (h : c ∈ found (shr2 w f g)) : c ∈ found f ++ found g := by
  unfold shr2 at h
  split at h
  · unfold wT1 at h
    refine List.mem_append_right _ ?_
    split at h
    · simp [found] at h
    · split at h
      · exact found_shr1 h
      · exact h
  · split at h
    · unfold wF1 at h
      refine List.mem_append_right _ ?_
      split at h
      · simp [found] at h
      · split at h
        · simp [found] at h
        · split at h
          · exact found_opp h
          · split at h
            · exact found_shr1 h
            · exact h
    · split at h
      · unfold wT2 at h
        refine List.mem_append_left _ ?_
        split at h
        · exact h
        · split at h
          · exact h
          · simp [found] at h
      · split at h
        · unfold wF2 at h
          refine List.mem_append_left _ ?_
          split at h
          · exact h
          · split at h
            · exact h
            · split at h
              · exact h
              · simp [found] at h
        · exact h
theorem found_shr : ∀ f : Fm, ∀ c ∈ found (shr f), c ∈ found f := by
  intro f
  induction f with
  | tt => exact fun _ h => h
  | ff => exact fun _ h => h
  | cmp c => exact fun _ h => h
  | un w f ih => exact fun c h => ih c (found_shr1 h)
  | bin w f g ihf ihg => exact fun c h => List.mem_append.mpr ((List.mem_append.mp (found_shr2 h)).elim (fun z => .inl (ihf c z)) fun z => .inr (ihg c z))
/-! ### what is plain of a comparison is plain of all -/
def Tm.wf (ns : List Str) : Tm → Prop
  | .num _ => True
  | .nam w => w ∈ ns
  | .plus t u => t.wf ns ∧ u.wf ns
  | .minus t u => t.wf ns ∧ u.wf ns
  | .times t u => (∃ w, t = .nam w) ∧ t.wf ns ∧ u.wf ns
  | .neg t => t.wf ns
  | .quo t k => t.wf ns ∧ 0 < k ∧ k < 1000
  | .rem t k => t.wf ns ∧ 0 < k ∧ k < 1000
  | .least t u => t.wf ns ∧ u.wf ns
  | .most t u => t.wf ns ∧ u.wf ns
/-- what the law's own comparisons are like -/
structure Cm.wf (ns : List Str) (c : Cm) : Prop where
  t : c.t.wf ns
  u : c.u.wf ns
  ok : c.ok = true
  dt : c.t.dep ≤ 3
  du : c.u.dep ≤ 3
def Fm.wf (ns : List Str) (f : Fm) : Prop := ∀ c ∈ found f, c.wf ns
theorem wf_flips {ns : List Str} {c d : Cm} (h : c.wf ns) (hd : d ∈ flips c) : d.wf ns := by
  obtain ⟨o, t, u⟩ := c
  have flip : ∀ o', (Cm.mk o' u t).wf ns := fun o' => ⟨h.u, h.t, by
    have q := h.ok
    simp only [Cm.ok, Bool.and_eq_true] at q ⊢
    exact ⟨q.2, q.1⟩, h.du, h.dt⟩
  cases o with
  | eq =>
    have e : d = _ := List.mem_singleton.mp hd
    rw [e]; exact h
  | below =>
    rcases List.mem_cons.mp hd with e | e
    · rw [e]; exact h
    · rw [List.mem_singleton.mp e]; exact flip .upto
  | upto =>
    rcases List.mem_cons.mp hd with e | e
    · rw [e]; exact h
    · rw [List.mem_singleton.mp e]; exact flip .below
theorem wf_allowed {ns : List Str} {f : Fm} (h : f.wf ns) : ∀ c ∈ allowed f, c.wf ns := fun c hc => by
  obtain ⟨d, h1, h2⟩ := List.mem_flatMap.mp hc
  exact wf_flips (h d h1) h2
theorem wf_ps {ns : List Str} {f : Fm} (h : f.wf ns) : (ps f).wf ns := fun c hc => wf_allowed h c ((found_ps f).1 c hc)
theorem wf_ng {ns : List Str} {f : Fm} (h : f.wf ns) : (ng f).wf ns := fun c hc => wf_allowed h c ((found_ps f).2 c hc)
theorem wf_shr {ns : List Str} {f : Fm} (h : f.wf ns) : (shr f).wf ns := fun c hc => h c (found_shr f c hc)
theorem ok_of_wf {ns : List Str} : ∀ {f : Fm}, f.wf ns → f.ok = true := by
  intro f
  induction f with
  | tt => exact fun _ => rfl
  | ff => exact fun _ => rfl
  | cmp c => exact fun h => (h c (List.mem_singleton.mpr rfl)).ok
  | un w f ih => exact fun h => ih h
  | bin w f g ihf ihg =>
    intro h
    simp only [Fm.ok, Bool.and_eq_true]
    exact ⟨ihf fun c hc => h c (List.mem_append_left _ hc), ihg fun c hc => h c (List.mem_append_right _ hc)⟩
end W16
set_option Elab.async false
set_option linter.all false
set_option maxRecDepth 100000
set_option maxHeartbeats 2000000
namespace W16
open PySem PySem.PyData
/-! ### places in a list, things put at its end once -/
section
variable {α : Type} [DecidableEq α]
def ix : List α → α → Nat
  | [], _ => 0
  | y :: r, x => if y = x then 0 else ix r x + 1
def addx (l : List α) (x : α) : List α := if x ∈ l then l else l ++ [x]
theorem ix_get : ∀ {l : List α} {x : α}, x ∈ l → l[ix l x]? = some x
  | [], _, h => by simp at h
  | y :: r, x, h => by
    unfold ix
    by_cases e : y = x
    · rw [if_pos e, e] <;> rfl
    · rw [if_neg e]
      have h2 : x ∈ r := (List.mem_cons.mp h).resolve_left fun z => e z.symm
      exact ix_get h2
theorem ix_lt {l : List α} {x : α} (h : x ∈ l) : ix l x < l.length := (List.getElem?_eq_some_iff.mp (ix_get h)).1
theorem ix_first : ∀ {l : List α} {x : α} {m : Nat}, m < ix l x → l[m]? ≠ some x
  | [], _, _, h => by simp [ix] at h
  | y :: r, x, m, h => by
    unfold ix at h
    by_cases e : y = x
    · rw [if_pos e] at h; omega
    · rw [if_neg e] at h
      cases m with
      | zero => exact fun z => e (Option.some.inj z)
      | succ m => exact ix_first (l := r) (by omega)
theorem ix_app {l : List α} {x : α} (r : List α) : x ∈ l → ix (l ++ r) x = ix l x := by
  induction l with
  | nil => intro h; simp at h
  | cons y l ih =>
    intro h
    show (if y = x then 0 else ix (l ++ r) x + 1) = if y = x then 0 else ix l x + 1
    by_cases e : y = x
    · rw [if_pos e, if_pos e]
    · rw [if_neg e, if_neg e, ih ((List.mem_cons.mp h).resolve_left fun z => e z.symm)]
theorem ix_new {l : List α} {x : α} : x ∉ l → ix (l ++ [x]) x = l.length := by
  induction l with
  | nil => intro _; show (if x = x then 0 else _) = 0; rw [if_pos rfl]
  | cons y l ih =>
    intro h
    show (if y = x then 0 else ix (l ++ [x]) x + 1) = l.length + 1
    rw [if_neg fun e => h (by rw [e]; exact List.mem_cons_self), ih fun z => h (List.mem_cons_of_mem _ z)]
theorem ix_inj {l : List α} {x y : α} (hx : x ∈ l) (hy : y ∈ l) (h : ix l x = ix l y) : x = y := by
  have e1 := ix_get hx
  rw [h, ix_get hy] at e1
  exact (Option.some.inj e1).symm
theorem ix_at {l : List α} (hn : l.Nodup) {i : Nat} {x : α} (h : l[i]? = some x) : ix l x = i := by
  have hm : x ∈ l := List.mem_of_getElem? h
  obtain ⟨h1, e1⟩ := List.getElem?_eq_some_iff.mp h
  obtain ⟨h2, e2⟩ := List.getElem?_eq_some_iff.mp (ix_get hm)
  exact (List.getElem_inj hn).mp (e2.trans e1.symm)
theorem addx_mem (l : List α) (x : α) : x ∈ addx l x := by
  unfold addx
  split
  · assumption
  · simp
theorem addx_pre (l : List α) (x : α) : ∃ r, addx l x = l ++ r := by
  unfold addx
  split
  · exact ⟨[], by simp⟩
  · exact ⟨[x], rfl⟩
theorem addx_nd {l : List α} (x : α) (h : l.Nodup) : (addx l x).Nodup := by
  unfold addx
  split
  · exact h
  · rename_i q
    exact List.nodup_append.mpr ⟨h, by simp, fun a ha b hb e => q (by rw [← List.mem_singleton.mp hb, ← e]; exact ha)⟩
theorem addx_sub {l : List α} {x y : α} (h : y ∈ addx l x) : y ∈ l ∨ y = x := by
  unfold addx at h
  split at h
  · exact .inl h
  · rcases List.mem_append.mp h with z | z
    · exact .inl z
    · exact .inr (List.mem_singleton.mp z)
end
/-! ### the rows of the parts ms, over the facts fs -/
abbrev Row := Str × Int × Int
/-- a row's word -/
inductive RG where
  | tt | ff | fact | u (o : UO) | b (o : BO)
  deriving DecidableEq
def RG.s : RG → Str
  | .tt => "true"
  | .ff => "false"
  | .fact => "fact"
  | .u o => o.s
  | .b o => o.s
theorem RG.s_inj {a b : RG} (h : a.s = b.s) : a = b := by
  cases a with
  | tt => cases b with
    | tt => rfl
    | ff => exact absurd h (by decide +kernel)
    | fact => exact absurd h (by decide +kernel)
    | u o => cases o <;> exact absurd h (by decide +kernel)
    | b o => cases o <;> exact absurd h (by decide +kernel)
  | ff => cases b with
    | tt => exact absurd h (by decide +kernel)
    | ff => rfl
    | fact => exact absurd h (by decide +kernel)
    | u o => cases o <;> exact absurd h (by decide +kernel)
    | b o => cases o <;> exact absurd h (by decide +kernel)
  | fact => cases b with
    | tt => exact absurd h (by decide +kernel)
    | ff => exact absurd h (by decide +kernel)
    | fact => rfl
    | u o => cases o <;> exact absurd h (by decide +kernel)
    | b o => cases o <;> exact absurd h (by decide +kernel)
  | u p => cases b with
    | tt => cases p <;> exact absurd h (by decide +kernel)
    | ff => cases p <;> exact absurd h (by decide +kernel)
    | fact => cases p <;> exact absurd h (by decide +kernel)
    | u o => exact congrArg RG.u (UO.s_inj h)
    | b o => cases p <;> cases o <;> exact absurd h (by decide +kernel)
  | b p => cases b with
    | tt => cases p <;> exact absurd h (by decide +kernel)
    | ff => cases p <;> exact absurd h (by decide +kernel)
    | fact => cases p <;> exact absurd h (by decide +kernel)
    | u o => cases p <;> cases o <;> exact absurd h (by decide +kernel)
    | b o => exact congrArg RG.b (BO.s_inj h)
def Fm.rg : Fm → RG
  | .tt => .tt
  | .ff => .ff
  | .cmp _ => .fact
  | .un w _ => .u w
  | .bin w _ _ => .b w
def lf (fs : List Cm) (ms : List Fm) : Fm → Int
  | .tt => -1
  | .ff => -1
  | .cmp c => (ix fs c : Int)
  | .un _ f => (ix ms f : Int)
  | .bin _ f _ => (ix ms f : Int)
def rt (ms : List Fm) : Fm → Int
  | .bin _ _ g => (ix ms g : Int)
  | _ => -1
def row (fs : List Cm) (ms : List Fm) (m : Fm) : Row := (m.rg.s, lf fs ms m, rt ms m)
/-- its parts stand ahead of it -/
def okAt (fs : List Cm) (ms : List Fm) (i : Nat) : Fm → Prop
  | .tt => True
  | .ff => True
  | .cmp c => c ∈ fs
  | .un _ f => f ∈ ms ∧ ix ms f < i
  | .bin _ f g => (f ∈ ms ∧ ix ms f < i) ∧ g ∈ ms ∧ ix ms g < i
structure Good (fs : List Cm) (ms : List Fm) : Prop where
  nf : fs.Nodup
  nm : ms.Nodup
  ok : ∀ i m, ms[i]? = some m → okAt fs ms i m
theorem Good.nil : Good [] [] := ⟨List.nodup_nil, List.nodup_nil, fun i m h => by simp at h⟩
theorem okAt.mono {fs fs' : List Cm} {ms ms' : List Fm} {i j : Nat} {m : Fm} (h : okAt fs ms i m) (hf : ∃ r, fs' = fs ++ r) (hm : ∃ r, ms' = ms ++ r) (hij : i ≤ j) : okAt fs' ms' j m := by
  obtain ⟨rf, rfl⟩ := hf
  obtain ⟨rm, rfl⟩ := hm
  cases m with
  | tt => trivial
  | ff => trivial
  | cmp c => exact List.mem_append_left _ h
  | un w f =>
    obtain ⟨h1, h2⟩ := h
    exact ⟨List.mem_append_left _ h1, by rw [ix_app _ h1]; omega⟩
  | bin w f g =>
    obtain ⟨⟨h1, h2⟩, h3, h4⟩ := h
    exact ⟨⟨List.mem_append_left _ h1, by rw [ix_app _ h1]; omega⟩, List.mem_append_left _ h3, by rw [ix_app _ h3]; omega⟩
theorem row_mono {fs fs' : List Cm} {ms ms' : List Fm} {i : Nat} {m : Fm} (h : okAt fs ms i m) (hf : ∃ r, fs' = fs ++ r) (hm : ∃ r, ms' = ms ++ r) : row fs' ms' m = row fs ms m := by
  obtain ⟨rf, rfl⟩ := hf
  obtain ⟨rm, rfl⟩ := hm
  cases m with
  | tt => rfl
  | ff => rfl
  | cmp c => simp only [row, lf, rt, Fm.rg, ix_app rf h]
  | un w f => simp only [row, lf, rt, Fm.rg, ix_app rm h.1]
  | bin w f g => simp only [row, lf, rt, Fm.rg, ix_app rm h.1.1, ix_app rm h.2.1]
theorem row_inj {fs : List Cm} {ms : List Fm} {i j : Nat} {m m' : Fm} (h : okAt fs ms i m) (h' : okAt fs ms j m') (e : row fs ms m = row fs ms m') : m = m' := by
  have e1 : m.rg = m'.rg := RG.s_inj (congrArg (fun z : Row => z.1) e)
  have e2 : lf fs ms m = lf fs ms m' := congrArg (fun z : Row => z.2.1) e
  have e3 : rt ms m = rt ms m' := congrArg (fun z : Row => z.2.2) e
  cases m with
  | tt => cases m' <;> first | rfl | (cases e1; done)
  | ff => cases m' <;> first | rfl | (cases e1; done)
  | cmp c =>
    cases m' <;> first | (cases e1; done) | skip
    rename_i c'
    have e4 : (ix fs c : Int) = (ix fs c' : Int) := e2
    rw [ix_inj h h' (by omega)]
  | un w f =>
    cases m' <;> first | (cases e1; done) | skip
    rename_i w' f'
    have e4 : (ix ms f : Int) = (ix ms f' : Int) := e2
    have e5 : w = w' := by
      have q : RG.u w = RG.u w' := e1
      injection q
    rw [ix_inj h.1 h'.1 (by omega), e5]
  | bin w f g =>
    cases m' <;> first | (cases e1; done) | skip
    rename_i w' f' g'
    have e4 : (ix ms f : Int) = (ix ms f' : Int) := e2
    have e6 : (ix ms g : Int) = (ix ms g' : Int) := e3
    have e5 : w = w' := by
      have q : RG.b w = RG.b w' := e1
      injection q
    rw [ix_inj h.1.1 h'.1.1 (by omega), ix_inj h.2.1 h'.2.1 (by omega), e5]
/-- a row is there just where its part is -/
theorem row_mem {fs : List Cm} {ms : List Fm} (G : Good fs ms) {x : Fm} (hx : okAt fs ms ms.length x) : row fs ms x ∈ ms.map (row fs ms) ↔ x ∈ ms := by
  refine ⟨fun h => ?_, fun h => List.mem_map.mpr ⟨x, h, rfl⟩⟩
  obtain ⟨m, hm, e⟩ := List.mem_map.mp h
  obtain ⟨i, hi, em⟩ := List.mem_iff_getElem.mp hm
  have q := G.ok i m (by rw [List.getElem?_eq_getElem hi, em])
  rw [← row_inj q hx e]
  exact hm
theorem Good.addF {fs : List Cm} {ms : List Fm} (G : Good fs ms) (c : Cm) : Good (addx fs c) ms :=
  ⟨addx_nd c G.nf, G.nm, fun i m h => (G.ok i m h).mono (addx_pre fs c) ⟨[], by simp⟩ (Nat.le_refl _)⟩
theorem Good.addM {fs : List Cm} {ms : List Fm} (G : Good fs ms) {x : Fm} (hx : okAt fs ms ms.length x) : Good fs (addx ms x) := by
  refine ⟨G.nf, addx_nd x G.nm, fun i m h => ?_⟩
  unfold addx at h ⊢
  by_cases q : x ∈ ms
  · rw [if_pos q] at h ⊢
    exact G.ok i m h
  · rw [if_neg q] at h ⊢
    by_cases hi : i < ms.length
    · rw [List.getElem?_append_left hi] at h
      exact (G.ok i m h).mono ⟨[], by simp⟩ ⟨[x], rfl⟩ (Nat.le_refl _)
    · rw [List.getElem?_append_right (by omega)] at h
      have e : m = x := by
        have q2 := List.mem_of_getElem? h
        exact List.mem_singleton.mp q2
      rw [e]
      exact hx.mono ⟨[], by simp⟩ ⟨[x], rfl⟩ (by omega)
theorem rows_addF {fs : List Cm} {ms : List Fm} (G : Good fs ms) (c : Cm) : ms.map (row (addx fs c) ms) = ms.map (row fs ms) := by
  refine List.map_congr_left fun m hm => ?_
  obtain ⟨i, hi, em⟩ := List.mem_iff_getElem.mp hm
  exact row_mono (G.ok i m (by rw [List.getElem?_eq_getElem hi, em])) (addx_pre fs c) ⟨[], by simp⟩
theorem rows_snoc {fs : List Cm} {ms : List Fm} (G : Good fs ms) {x : Fm} (hx : okAt fs ms ms.length x) : (ms ++ [x]).map (row fs (ms ++ [x])) = ms.map (row fs ms) ++ [row fs ms x] := by
  rw [List.map_append]
  refine congr (congrArg HAppend.hAppend (List.map_congr_left fun m hm => ?_)) ?_
  · obtain ⟨i, hi, em⟩ := List.mem_iff_getElem.mp hm
    exact row_mono (G.ok i m (by rw [List.getElem?_eq_getElem hi, em])) ⟨[], by simp⟩ ⟨[x], rfl⟩
  · show [row fs (ms ++ [x]) x] = [row fs ms x]
    rw [row_mono hx ⟨[], by simp⟩ ⟨[x], rfl⟩]
theorem rows_nd {fs : List Cm} {ms : List Fm} (G : Good fs ms) : ∀ (i j : Nat) (m m' : Fm), ms[i]? = some m → ms[j]? = some m' → row fs ms m = row fs ms m' → i = j := fun i j m m' h h' e => by
  have e1 := row_inj (G.ok i m h) (G.ok j m' h') e
  subst e1
  exact (ix_at G.nm h).symm.trans (ix_at G.nm h')
/-! ### the book of a formula -/
def putF : Fm → List Cm × List Fm → List Cm × List Fm
  | .tt, s => (s.1, addx s.2 .tt)
  | .ff, s => (s.1, addx s.2 .ff)
  | .cmp c, s => (addx s.1 c, addx s.2 (.cmp c))
  | .un w f, s => ((putF f s).1, addx (putF f s).2 (.un w f))
  | .bin w f g, s => ((putF g (putF f s)).1, addx (putF g (putF f s)).2 (.bin w f g))
def Fm.size : Fm → Nat
  | .tt => 1
  | .ff => 1
  | .cmp _ => 1
  | .un _ f => f.size + 1
  | .bin _ f g => f.size + g.size + 1
structure Put (f : Fm) (s s' : List Cm × List Fm) : Prop where
  good : Good s'.1 s'.2
  pf : ∃ r, s'.1 = s.1 ++ r
  pm : ∃ r, s'.2 = s.2 ++ r
  mem : f ∈ s'.2
  small : ∀ m ∈ s'.2, m ∈ s.2 ∨ m.size ≤ f.size
  sub : ∀ c ∈ s'.1, c ∈ s.1 ∨ c ∈ found f
  len : s'.1.length ≤ s.1.length + f.size
  lenm : s'.2.length ≤ s.2.length + f.size
theorem pre_trans {α : Type} {a b c : List α} (h1 : ∃ r, b = a ++ r) (h2 : ∃ r, c = b ++ r) : ∃ r, c = a ++ r := by
  obtain ⟨r, rfl⟩ := h1
  obtain ⟨q, rfl⟩ := h2
  exact ⟨r ++ q, by rw [List.append_assoc]⟩
theorem pre_mem {α : Type} {a b : List α} (h : ∃ r, b = a ++ r) {x : α} (hx : x ∈ a) : x ∈ b := by
  obtain ⟨r, rfl⟩ := h
  exact List.mem_append_left _ hx
theorem addx_len {α : Type} [DecidableEq α] (l : List α) (x : α) : (addx l x).length ≤ l.length + 1 := by
  unfold addx
  split
  · omega
  · simp
theorem put_ok : ∀ (f : Fm) (s : List Cm × List Fm), Good s.1 s.2 → Put f s (putF f s) := by
  intro f
  induction f with
  | tt =>
    intro s G
    exact ⟨G.addM (x := .tt) trivial, ⟨[], by simp [putF]⟩, addx_pre _ _, addx_mem _ _, fun m h => (addx_sub h).elim .inl fun e => .inr (by rw [e]; exact Nat.le_refl _), fun c h => .inl h, Nat.le_add_right _ _, addx_len _ _⟩
  | ff =>
    intro s G
    exact ⟨G.addM (x := .ff) trivial, ⟨[], by simp [putF]⟩, addx_pre _ _, addx_mem _ _, fun m h => (addx_sub h).elim .inl fun e => .inr (by rw [e]; exact Nat.le_refl _), fun c h => .inl h, Nat.le_add_right _ _, addx_len _ _⟩
  | cmp c =>
    intro s G
    exact ⟨(G.addF c).addM (x := .cmp c) (addx_mem _ _), addx_pre _ _, addx_pre _ _, addx_mem _ _, fun m h => (addx_sub h).elim .inl fun e => .inr (by rw [e]; exact Nat.le_refl _),
      fun d h => (addx_sub h).elim .inl fun e => .inr (by rw [e]; exact List.mem_singleton.mpr rfl), addx_len _ _, addx_len _ _⟩
  | un w f ih =>
    intro s G
    have P := ih s G
    have l1 := P.lenm
    have l2 := addx_len (putF f s).2 (.un w f)
    refine ⟨P.good.addM (x := .un w f) ⟨P.mem, ix_lt P.mem⟩, P.pf, pre_trans P.pm (addx_pre _ _), addx_mem _ _, fun m h => ?_, P.sub, ?_, ?_⟩
    · rcases addx_sub h with h | h
      · rcases P.small m h with z | z
        · exact .inl z
        · exact .inr (Nat.le_succ_of_le z)
      · exact .inr (by rw [h]; exact Nat.le_refl _)
    · have q := P.len
      show (putF f s).1.length ≤ s.1.length + (f.size + 1)
      omega
    · show (addx (putF f s).2 (.un w f)).length ≤ s.2.length + (f.size + 1)
      omega
  | bin w f g ihf ihg =>
    intro s G
    have P := ihf s G
    have Q := ihg (putF f s) P.good
    have l1 := P.lenm
    have l2 := Q.lenm
    have l3 := addx_len (putF g (putF f s)).2 (.bin w f g)
    have fm := pre_mem Q.pm P.mem
    refine ⟨Q.good.addM (x := .bin w f g) ⟨⟨fm, ix_lt fm⟩, Q.mem, ix_lt Q.mem⟩, pre_trans P.pf Q.pf, pre_trans (pre_trans P.pm Q.pm) (addx_pre _ _), addx_mem _ _, fun m h => ?_, fun c h => ?_, ?_, ?_⟩
    · rcases addx_sub h with h | h
      · rcases Q.small m h with z | z
        · rcases P.small m z with y | y
          · exact .inl y
          · exact .inr (show m.size ≤ f.size + g.size + 1 by omega)
        · exact .inr (show m.size ≤ f.size + g.size + 1 by omega)
      · exact .inr (by rw [h]; exact Nat.le_refl _)
    · rcases Q.sub c h with z | z
      · rcases P.sub c z with y | y
        · exact .inl y
        · exact .inr (List.mem_append_left _ y)
      · exact .inr (List.mem_append_right _ z)
    · have q1 := P.len
      have q2 := Q.len
      show (putF g (putF f s)).1.length ≤ s.1.length + (f.size + g.size + 1)
      omega
    · show (addx (putF g (putF f s)).2 (.bin w f g)).length ≤ s.2.length + (f.size + g.size + 1)
      omega
theorem size_pos (f : Fm) : 1 ≤ f.size := by cases f <;> simp [Fm.size]
/-- the whole formula is the last row -/
theorem put_last (f : Fm) : ∃ l, (putF f ([], [])).2 = l ++ [f] := by
  cases f with
  | tt => exact ⟨[], rfl⟩
  | ff => exact ⟨[], rfl⟩
  | cmp c => exact ⟨[], rfl⟩
  | un w f =>
    have P := put_ok f ([], []) Good.nil
    refine ⟨(putF f ([], [])).2, ?_⟩
    show addx (putF f ([], [])).2 (.un w f) = _
    unfold addx
    rw [if_neg fun h => ?_]
    rcases P.small _ h with z | z
    · simp at z
    · simp only [Fm.size] at z; omega
  | bin w f g =>
    have P := put_ok f ([], []) Good.nil
    have Q := put_ok g (putF f ([], [])) P.good
    refine ⟨(putF g (putF f ([], []))).2, ?_⟩
    show addx (putF g (putF f ([], []))).2 (.bin w f g) = _
    unfold addx
    rw [if_neg fun h => ?_]
    have h1 := size_pos f
    have h2 := size_pos g
    rcases Q.small _ h with z | z
    · rcases P.small _ z with y | y
      · simp at y
      · simp only [Fm.size] at y; omega
    · simp only [Fm.size] at z; omega
end W16
set_option Elab.async false
set_option linter.all false
set_option maxRecDepth 100000
set_option maxHeartbeats 0
namespace W16
open PySem PySem.Spec PyProof.Rows L2
def top (i : Nat) : Stmt := PySem.Challenge.pw_lassoproof_k16_whole_equal_formulas.main.body.getD i (.Pass ⟨0, 0, 0, 0⟩)
abbrev s_is_constant : Stmt := top 4
abbrev s_opposite : Stmt := top 5
abbrev s_shrink_one : Stmt := top 6
abbrev s_with_true_first : Stmt := top 7
abbrev s_with_false_first : Stmt := top 8
abbrev s_with_true_second : Stmt := top 9
abbrev s_with_false_second : Stmt := top 10
abbrev s_shrink_two : Stmt := top 11
abbrev s_shrink : Stmt := top 12
abbrev s_negated : Stmt := top 15
abbrev s_positive : Stmt := top 16
abbrev s_Rows_init : Stmt := inClass (top 23) 0
abbrev s_RowBook_init : Stmt := inClass (top 24) 0
abbrev s_RowBook_put : Stmt := inClass (top 24) 1
abbrev s_RowBook_put_fact : Stmt := inClass (top 24) 2
abbrev s_RowBook_put_formula : Stmt := inClass (top 24) 3
abbrev s_number_rows : Stmt := top 25
abbrev s_parts_of : Stmt := top 27
abbrev s_names_in : Stmt := top 28
abbrev s_term_value : Stmt := top 29
abbrev s_comparison_truth : Stmt := top 30
abbrev s_condition_truth : Stmt := top 31
abbrev s_ask_names : Stmt := top 34
abbrev s_step_truth : Stmt := top 35
abbrev s_spread : Stmt := top 36
abbrev s_plain_truth : Stmt := top 37
abbrev s_row_truths : Stmt := top 38
abbrev s_truths_along : Stmt := top 39
abbrev s_qcell : Stmt := top 41
abbrev s_qdraws : Stmt := top 42
abbrev s_qmany : Stmt := top 43
abbrev s_qnames : Stmt := top 44
abbrev s_qterm : Stmt := top 45
abbrev s_qleaf : Stmt := top 46
abbrev s_qformula : Stmt := top 47
abbrev s_qsome : Stmt := top 48
abbrev s_qsame : Stmt := top 49
abbrev s_qfound : Stmt := top 50
abbrev s_qgood : Stmt := top 51
abbrev s_qvalue : Stmt := top 52
abbrev s_qholds : Stmt := top 53
abbrev s_qafter : Stmt := top 54
abbrev s_qwalk : Stmt := top 55
abbrev s_qtemporal : Stmt := top 56
abbrev s_qalong : Stmt := top 57
abbrev s_qstates : Stmt := top 58
abbrev s_qbits : Stmt := top 59
abbrev s_qlengths : Stmt := top 60
abbrev s_qallowed : Stmt := top 61
abbrev s_law : Stmt := top 62
end W16
set_option Elab.async false
set_option linter.all false
set_option maxRecDepth 100000
set_option maxHeartbeats 4000000
namespace W16
open PySem PySem.Spec PyProof.Rows L2
open Evl (Ex)
/-! ### addresses by names -/
abbrev gA (K : PySem.W.Frag) (x : Str) : Addr := He.ga K x
abbrev mA (K : PySem.W.Frag) (C m : Str) : Addr := He.ma K (He.ga K C) m
def FDef (K : PySem.W.Frag) (x q : Str) (st : Stmt) (f : Addr) : Prop := ∃ fd, FunD K x q (defArgs st) (defBody st) (defScope st) [] [] f fd
def dEs (K : PySem.W.Frag) : Array DictEntry := match K.lookup (gA K "DUAL") with
  | some ⟨_, _, .dict es _, _⟩ => es
  | _ => #[]
def dN (K : PySem.W.Frag) : Nat := match K.lookup (gA K "DUAL") with
  | some ⟨_, _, .dict _ n, _⟩ => n
  | _ => 0
theorem kdict_at {K : PySem.W.Frag} {w : World} (h : ∃ es n, KDict K w (gA K "DUAL") es n) : KDict K w (gA K "DUAL") (dEs K) (dN K) := by
  obtain ⟨es, n, D⟩ := h
  have e1 : dEs K = es := by unfold dEs; rw [D.at_]
  have e2 : dN K = n := by unfold dN; rw [D.at_]
  rw [e1, e2]
  exact D
def dualKeys : List Str := ["and", "or", "next", "eventually", "always", "until", "release", "unless", "strong"]
def dualVals : List (Str × He.Dv) := [("and", .str "or"), ("or", .str "and"), ("next", .str "next"), ("eventually", .str "always"), ("always", .str "eventually"), ("until", .str "release"), ("release", .str "until"), ("unless", .str "strong"), ("strong", .str "unless")]
def dualNot : List Str := ["true", "false", "equal", "below", "upto", "not", "implies", "same"]
structure T16 (K : PySem.W.Frag) (w : World) (mg : Str → Option Value) : Prop where
  g_is_constant : mg "is_constant" = some (.ref (gA K "is_constant"))
  g_opposite : mg "opposite" = some (.ref (gA K "opposite"))
  g_shrink_one : mg "shrink_one" = some (.ref (gA K "shrink_one"))
  g_with_true_first : mg "with_true_first" = some (.ref (gA K "with_true_first"))
  g_with_false_first : mg "with_false_first" = some (.ref (gA K "with_false_first"))
  g_with_true_second : mg "with_true_second" = some (.ref (gA K "with_true_second"))
  g_with_false_second : mg "with_false_second" = some (.ref (gA K "with_false_second"))
  g_shrink_two : mg "shrink_two" = some (.ref (gA K "shrink_two"))
  g_shrink : mg "shrink" = some (.ref (gA K "shrink"))
  g_negated : mg "negated" = some (.ref (gA K "negated"))
  g_positive : mg "positive" = some (.ref (gA K "positive"))
  g_number_rows : mg "number_rows" = some (.ref (gA K "number_rows"))
  g_parts_of : mg "parts_of" = some (.ref (gA K "parts_of"))
  g_names_in : mg "names_in" = some (.ref (gA K "names_in"))
  g_term_value : mg "term_value" = some (.ref (gA K "term_value"))
  g_comparison_truth : mg "comparison_truth" = some (.ref (gA K "comparison_truth"))
  g_condition_truth : mg "condition_truth" = some (.ref (gA K "condition_truth"))
  g_ask_names : mg "ask_names" = some (.ref (gA K "ask_names"))
  g_step_truth : mg "step_truth" = some (.ref (gA K "step_truth"))
  g_spread : mg "spread" = some (.ref (gA K "spread"))
  g_plain_truth : mg "plain_truth" = some (.ref (gA K "plain_truth"))
  g_row_truths : mg "row_truths" = some (.ref (gA K "row_truths"))
  g_truths_along : mg "truths_along" = some (.ref (gA K "truths_along"))
  g__law_cell : mg "_law_cell" = some (.ref (gA K "_law_cell"))
  g__law_draws : mg "_law_draws" = some (.ref (gA K "_law_draws"))
  g__law_many : mg "_law_many" = some (.ref (gA K "_law_many"))
  g__law_names : mg "_law_names" = some (.ref (gA K "_law_names"))
  g__law_term : mg "_law_term" = some (.ref (gA K "_law_term"))
  g__law_leaf : mg "_law_leaf" = some (.ref (gA K "_law_leaf"))
  g__law_formula : mg "_law_formula" = some (.ref (gA K "_law_formula"))
  g__law_some : mg "_law_some" = some (.ref (gA K "_law_some"))
  g__law_same : mg "_law_same" = some (.ref (gA K "_law_same"))
  g__law_found : mg "_law_found" = some (.ref (gA K "_law_found"))
  g__law_good : mg "_law_good" = some (.ref (gA K "_law_good"))
  g__law_value : mg "_law_value" = some (.ref (gA K "_law_value"))
  g__law_holds : mg "_law_holds" = some (.ref (gA K "_law_holds"))
  g__law_after : mg "_law_after" = some (.ref (gA K "_law_after"))
  g__law_walk : mg "_law_walk" = some (.ref (gA K "_law_walk"))
  g__law_temporal : mg "_law_temporal" = some (.ref (gA K "_law_temporal"))
  g__law_along : mg "_law_along" = some (.ref (gA K "_law_along"))
  g__law_states : mg "_law_states" = some (.ref (gA K "_law_states"))
  g__law_bits : mg "_law_bits" = some (.ref (gA K "_law_bits"))
  g__law_lengths : mg "_law_lengths" = some (.ref (gA K "_law_lengths"))
  g__law_allowed : mg "_law_allowed" = some (.ref (gA K "_law_allowed"))
  g_law : mg "law" = some (.ref (gA K "law"))
  g_Rows : mg "Rows" = some (.ref (gA K "Rows"))
  g_RowBook : mg "RowBook" = some (.ref (gA K "RowBook"))
  g_COMPARISONS_shrink : mg "COMPARISONS_shrink" = some (.ref (gA K "COMPARISONS_shrink"))
  g_TRUE : mg "TRUE" = some (.ref (gA K "TRUE"))
  g_FALSE : mg "FALSE" = some (.ref (gA K "FALSE"))
  g_DUAL : mg "DUAL" = some (.ref (gA K "DUAL"))
  g_PLAIN : mg "PLAIN" = some (.ref (gA K "PLAIN"))
  g_COMPARISONS_rows : mg "COMPARISONS_rows" = some (.ref (gA K "COMPARISONS_rows"))
  g_GREATEST : mg "GREATEST" = some (.ref (gA K "GREATEST"))
  z_len : mg "len" = none
  z_range : mg "range" = none
  z_zip : mg "zip" = none
  z_list : mg "list" = none
  z_tuple : mg "tuple" = none
  z_isinstance : mg "isinstance" = none
  z_dict : mg "dict" = none
  z_min : mg "min" = none
  z_max : mg "max" = none
  z_enumerate : mg "enumerate" = none
  z_int : mg "int" = none
  z_str : mg "str" = none
  z_bool : mg "bool" = none
  c_Rows : Cls K (gA K "Rows")
  k_Rows : Mk K (gA K "Rows") (mA K "Rows" "__init__")
  c_RowBook : Cls K (gA K "RowBook")
  k_RowBook : Mk K (gA K "RowBook") (mA K "RowBook" "__init__")
  n_Rows_facts : NoAttr K (gA K "Rows") "facts"
  n_Rows_rows : NoAttr K (gA K "Rows") "rows"
  n_Rows_temporal : NoAttr K (gA K "Rows") "temporal"
  n_RowBook_facts : NoAttr K (gA K "RowBook") "facts"
  n_RowBook_rows : NoAttr K (gA K "RowBook") "rows"
  n_RowBook__numbers : NoAttr K (gA K "RowBook") "_numbers"
  m_put : Meth K (gA K "RowBook") "put" (mA K "RowBook" "put")
  m_put_fact : Meth K (gA K "RowBook") "put_fact" (mA K "RowBook" "put_fact")
  m_put_formula : Meth K (gA K "RowBook") "put_formula" (mA K "RowBook" "put_formula")
  F_is_constant : FDef K "is_constant" "is_constant" s_is_constant (gA K "is_constant")
  F_opposite : FDef K "opposite" "opposite" s_opposite (gA K "opposite")
  F_shrink_one : FDef K "shrink_one" "shrink_one" s_shrink_one (gA K "shrink_one")
  F_with_true_first : FDef K "with_true_first" "with_true_first" s_with_true_first (gA K "with_true_first")
  F_with_false_first : FDef K "with_false_first" "with_false_first" s_with_false_first (gA K "with_false_first")
  F_with_true_second : FDef K "with_true_second" "with_true_second" s_with_true_second (gA K "with_true_second")
  F_with_false_second : FDef K "with_false_second" "with_false_second" s_with_false_second (gA K "with_false_second")
  F_shrink_two : FDef K "shrink_two" "shrink_two" s_shrink_two (gA K "shrink_two")
  F_shrink : FDef K "shrink" "shrink" s_shrink (gA K "shrink")
  F_negated : FDef K "negated" "negated" s_negated (gA K "negated")
  F_positive : FDef K "positive" "positive" s_positive (gA K "positive")
  F_Rows_init : FDef K "__init__" "Rows.__init__" s_Rows_init (mA K "Rows" "__init__")
  F_RowBook_init : FDef K "__init__" "RowBook.__init__" s_RowBook_init (mA K "RowBook" "__init__")
  F_RowBook_put : FDef K "put" "RowBook.put" s_RowBook_put (mA K "RowBook" "put")
  F_RowBook_put_fact : FDef K "put_fact" "RowBook.put_fact" s_RowBook_put_fact (mA K "RowBook" "put_fact")
  F_RowBook_put_formula : FDef K "put_formula" "RowBook.put_formula" s_RowBook_put_formula (mA K "RowBook" "put_formula")
  F_number_rows : FDef K "number_rows" "number_rows" s_number_rows (gA K "number_rows")
  F_parts_of : FDef K "parts_of" "parts_of" s_parts_of (gA K "parts_of")
  F_names_in : FDef K "names_in" "names_in" s_names_in (gA K "names_in")
  F_term_value : FDef K "term_value" "term_value" s_term_value (gA K "term_value")
  F_comparison_truth : FDef K "comparison_truth" "comparison_truth" s_comparison_truth (gA K "comparison_truth")
  F_condition_truth : FDef K "condition_truth" "condition_truth" s_condition_truth (gA K "condition_truth")
  F_ask_names : FDef K "ask_names" "ask_names" s_ask_names (gA K "ask_names")
  F_step_truth : FDef K "step_truth" "step_truth" s_step_truth (gA K "step_truth")
  F_spread : FDef K "spread" "spread" s_spread (gA K "spread")
  F_plain_truth : FDef K "plain_truth" "plain_truth" s_plain_truth (gA K "plain_truth")
  F_row_truths : FDef K "row_truths" "row_truths" s_row_truths (gA K "row_truths")
  F_truths_along : FDef K "truths_along" "truths_along" s_truths_along (gA K "truths_along")
  F__law_cell : FDef K "_law_cell" "_law_cell" s_qcell (gA K "_law_cell")
  F__law_draws : FDef K "_law_draws" "_law_draws" s_qdraws (gA K "_law_draws")
  F__law_many : FDef K "_law_many" "_law_many" s_qmany (gA K "_law_many")
  F__law_names : FDef K "_law_names" "_law_names" s_qnames (gA K "_law_names")
  F__law_term : FDef K "_law_term" "_law_term" s_qterm (gA K "_law_term")
  F__law_leaf : FDef K "_law_leaf" "_law_leaf" s_qleaf (gA K "_law_leaf")
  F__law_formula : FDef K "_law_formula" "_law_formula" s_qformula (gA K "_law_formula")
  F__law_some : FDef K "_law_some" "_law_some" s_qsome (gA K "_law_some")
  F__law_same : FDef K "_law_same" "_law_same" s_qsame (gA K "_law_same")
  F__law_found : FDef K "_law_found" "_law_found" s_qfound (gA K "_law_found")
  F__law_good : FDef K "_law_good" "_law_good" s_qgood (gA K "_law_good")
  F__law_value : FDef K "_law_value" "_law_value" s_qvalue (gA K "_law_value")
  F__law_holds : FDef K "_law_holds" "_law_holds" s_qholds (gA K "_law_holds")
  F__law_after : FDef K "_law_after" "_law_after" s_qafter (gA K "_law_after")
  F__law_walk : FDef K "_law_walk" "_law_walk" s_qwalk (gA K "_law_walk")
  F__law_temporal : FDef K "_law_temporal" "_law_temporal" s_qtemporal (gA K "_law_temporal")
  F__law_along : FDef K "_law_along" "_law_along" s_qalong (gA K "_law_along")
  F__law_states : FDef K "_law_states" "_law_states" s_qstates (gA K "_law_states")
  F__law_bits : FDef K "_law_bits" "_law_bits" s_qbits (gA K "_law_bits")
  F__law_lengths : FDef K "_law_lengths" "_law_lengths" s_qlengths (gA K "_law_lengths")
  F__law_allowed : FDef K "_law_allowed" "_law_allowed" s_qallowed (gA K "_law_allowed")
  F_law : FDef K "law" "law" s_law (gA K "law")
  c_COMPARISONS_shrink : ∀ H : Hp, SqT K H (gA K "COMPARISONS_shrink") [.str "equal", .str "below", .str "upto"]
  c_TRUE : ∀ H : Hp, SqT K H (gA K "TRUE") [.str "true"]
  c_FALSE : ∀ H : Hp, SqT K H (gA K "FALSE") [.str "false"]
  c_PLAIN : ∀ H : Hp, SqT K H (gA K "PLAIN") [.str "true", .str "false", .str "fact", .str "not", .str "and", .str "or", .str "implies", .str "same"]
  c_COMPARISONS_rows : ∀ H : Hp, SqT K H (gA K "COMPARISONS_rows") [.str "equal", .str "below", .str "upto"]
  c_GREATEST : ∀ H : Hp, SqT K H (gA K "GREATEST") [.str "always", .str "release", .str "unless"]
  kd : KDict K w (gA K "DUAL") (dEs K) (dN K)
  dual : ∀ q ∈ dualVals, ∃ u, PySem.W.nsIn K (gA K "DUAL") q.1 = some (some u) ∧ RelV (q.2.v K) u
  dualN : ∀ z ∈ dualNot, PySem.W.nsIn K (gA K "DUAL") z = some none
/-! ### a def keeps its promise -/
def Ok (P : Program) (w : World) (K : PySem.W.Frag) (mg : Str → Option Value) (base : Heap) (k : Nat) (f : Addr) (ps : List Str) (sp : Sp) : Prop := ∃ fd, FnOk P w K mg base CX0 k f fd ps sp ∧ Binds K fd ps [] ∧ PySem.W.keepIn K (.ref f) = true
section
variable {P : Program} {w : World} {K : PySem.W.Frag} {mg : Str → Option Value} {base : Heap}
theorem Ok.mono {j k : Nat} {f : Addr} {ps : List Str} {sp : Sp} (O : Ok P w K mg base j f ps sp) (h : j ≤ k) : Ok P w K mg base k f ps sp := by
  obtain ⟨fd, F, b, k⟩ := O
  exact ⟨fd, F.mono h, b, k⟩
theorem Ok.imp {k : Nat} {f : Addr} {ps : List Str} {sp sp' : Sp} (O : Ok P w K mg base k f ps sp) (h : ∀ vs H Q E, sp' vs H Q E → sp vs H Q E) : Ok P w K mg base k f ps sp' := by
  obtain ⟨fd, F, b, k⟩ := O
  exact ⟨fd, F.imp h, b, k⟩
theorem mkOk {x q : Str} {st : Stmt} {f : Addr} {N ps : List Str} {k : Nat} {sp : Sp} (F : FDef K x q st f) (S : FnScope N ps (defScope st))
    (hb : ∀ (kV doc pm : Value) (an : Option Addr) (cdv ct : Value) (us : List Value), us.length = ps.length → bindArgs (PySem.W.fnOf x q (defArgs st) (defBody st) (defScope st) .none kV doc pm an cdv ct) ⟨us, []⟩ = pure (ps.zip us))
    (len : ∀ vs H Q E, sp vs H Q E → vs.length = ps.length)
    (body : ∀ (cdv : Value) (A : Around) (outer : List Env) (s : Shared) (H : Hp) (vs : List V) (Q : VK) (E : XK), Room k (A.deeper (envOfC q (defScope st) s.heap.objs.size f cdv)) → sp vs H Q E →
      ∃ t, PSs (cxOf CX0 P w K mg base N q (defScope st) f cdv A outer s H E).nox (defBody st) t ∧ t { nx := fun _ H' => Q .non H', rt := Q } (start N vs) H) : Ok P w K mg base (k + 1) f ps sp := by
  obtain ⟨fd, FD⟩ := F
  refine ⟨fd, FD.ok S len fun cdv A outer s H vs Q E hr h => ?_, FD.bindsN hb, FD.kp⟩
  obtain ⟨t, h1, h2⟩ := body cdv A outer s H vs Q E hr h
  exact ⟨t, h1.nox, h2⟩
theorem no_ok {x q : Str} {st : Stmt} {f : Addr} {ps : List Str} {sp : Sp} (F : FDef K x q st f)
    (hb : ∀ (kV doc pm : Value) (an : Option Addr) (cdv ct : Value) (us : List Value), us.length = ps.length → bindArgs (PySem.W.fnOf x q (defArgs st) (defBody st) (defScope st) .none kV doc pm an cdv ct) ⟨us, []⟩ = pure (ps.zip us))
    (no : ∀ vs H Q E, ¬ sp vs H Q E) : Ok P w K mg base 0 f ps sp := by
  obtain ⟨fd, FD⟩ := F
  exact ⟨fd, ⟨fun vs H Q E h => absurd h (no vs H Q E), fun A outer s H args us vs Q E _ _ _ _ h => absurd h (no vs H Q E)⟩, FD.bindsN hb, FD.kp⟩
end
section
variable {X : Cx} {k : Nat} {f C : Addr} {ps : List Str} {sp : Sp} {x m : Str} {p pos apos : Pos} {e o : Expr} {es : List Expr} {ta : TE} {t : TA}
theorem pc (O : Ok X.prog X.w X.K X.mg X.base k f ps sp) (hr : Room k X.A) (hm : X.mg x = some (.ref f)) (ha : PA X (e :: es) t) (hg : Gl X x := by rfl) (hdb : (x == ("__debug__" : Str)) = false := by decide)
    (he : starEach (e :: es) X.env = (false, eval e X.env) :: starEach es X.env := by rfl) (hpl : (backTo pos (starEach es X.env)).any (·.1) = false := by rfl) : PE X (.Call (.Name x p) (e :: es) [] pos) (tCall sp [] E0 t) := by
  obtain ⟨fd, F, b, kp⟩ := O
  exact pe_call F hr hg hm kp b .nil pass0 ha hdb he hpl
theorem pmeth {pl : Sem Bool} (he : PE X o ta) (c : Cls X.K C) (hm : Meth X.K C m f) (O : Ok X.prog X.w X.K X.mg X.base k f ps sp) (hr : Room k X.A) (ha : PA X (e :: es) t)
    (hst : starEach (e :: es) X.env = (false, eval e X.env) :: starEach es X.env := by rfl) (hpl : (backTo pos (starEach es X.env)).any (·.1) = false := by rfl)
    (ht : eval (.Call (.Attribute o m apos) (e :: es) [] pos) X.env = (do
      let ov ← eval o X.env
      standAt apos.atName
      let (f, first) ← holding [ov] (getMethod ov m pl)
      callWith pos f first (backTo pos (starEach (e :: es) X.env)) (backToKw pos (keywordEach [] X.env))) := by rfl) : PE X (.Call (.Attribute o m apos) (e :: es) [] pos) (tMeth C m sp [] E0 ta t) := by
  obtain ⟨fd, F, b, kp⟩ := O
  exact pe_meth he c hm F hr b .nil pass0 ha hst hpl ht
theorem pmk (M : Mk X.K C f) (O : Ok X.prog X.w X.K X.mg X.base k f ps sp) (hr : Room (k + 1) X.A) (hm : X.mg x = some (.ref C)) (ha : PA X (e :: es) t) (hg : Gl X x := by rfl) (hdb : (x == ("__debug__" : Str)) = false := by decide)
    (he : starEach (e :: es) X.env = (false, eval e X.env) :: starEach es X.env := by rfl) (hpl : (backTo pos (starEach es X.env)).any (·.1) = false := by rfl) : PE X (.Call (.Name x p) (e :: es) [] pos) (tMake C sp [] E0 t) := by
  obtain ⟨fd, F, b, kp⟩ := O
  exact pe_make M F hr hg hm b .nil pass0 ha hdb he hpl
theorem pmk0 (M : Mk X.K C f) (O : Ok X.prog X.w X.K X.mg X.base k f ps sp) (hr : Room (k + 1) X.A) (hm : X.mg x = some (.ref C)) (hg : Gl X x := by rfl) (hdb : (x == ("__debug__" : Str)) = false := by decide) : PE X (.Call (.Name x p) [] [] pos) (tMake C sp [] E0 tNil) := by
  obtain ⟨fd, F, b, kp⟩ := O
  exact pe_make0 M F hr hg hm b .nil pass0 hdb
end
theorem pe_gl {X : Cx} {x : Str} {a : Addr} {pos : Pos} (hm : X.mg x = some (.ref a)) (hg : Gl X x := by rfl) (hd : (x == ("__debug__" : Str)) = false := by decide) : PE X (.Name x pos) (tC (.ref a)) := pe_glob hg hm rfl hd
theorem pe_ty {X : Cx} {x : Str} {n : String} {pos : Pos} (hm : X.mg x = none) (hv : bootBuiltins x = some (.type n)) (hg : Gl X x := by rfl) (hn : x ≠ "__name__" := by decide) (hd : (x == ("__debug__" : Str)) = false := by decide) : PE X (.Name x pos) (tC (.ty n)) := pe_bltn hg hm hv rfl hn hd
theorem hu65 {A : Around} {k : Nat} (hr : Room k A) : A.units + 65 < cLine := by have := hr.un; omega
/-! ### data in a growing heap -/
mutual
theorem dp_ex {K : PySem.W.Frag} {H H' : Hp} (e : Ex H H') : ∀ (d : PyData) (v : V), Dp K H v d → Dp K H' v d
  | .none, _, h => by cases h; exact .non
  | .bool b, _, h => by cases h; exact .bl b
  | .int i, _, h => by cases h; exact .int i
  | .str x, _, h => by cases h; exact .str x
  | .list ds, _, h => by
    cases h with
    | lst hs ha => exact .lst (Evl.ex_l e hs) (dpa_ex e ds _ ha)
  | .tuple ds, _, h => by
    cases h with
    | tup hs ha => exact .tup (Evl.ex_t e hs) (dpa_ex e ds _ ha)
  | .dict _, _, h => by cases h
theorem dpa_ex {K : PySem.W.Frag} {H H' : Hp} (e : Ex H H') : ∀ (ds : List PyData) (vs : List V), DpAll K H vs ds → DpAll K H' vs ds
  | [], _, h => by cases h; exact .nil
  | d :: ds, _, h => by
    cases h with
    | cons h1 h2 => exact .cons (dp_ex e d _ h1) (dpa_ex e ds _ h2)
end
section
variable {K : PySem.W.Frag} {H H' : Hp} {v : V} {f g : Fm} {c : Cm} {t : Tm}
abbrev DF (K : PySem.W.Frag) (H : Hp) (v : V) (f : Fm) : Prop := Dp K H v (fD f)
abbrev DC (K : PySem.W.Frag) (H : Hp) (v : V) (c : Cm) : Prop := Dp K H v (cD c)
abbrev DT (K : PySem.W.Frag) (H : Hp) (v : V) (t : Tm) : Prop := Dp K H v (tD t)
theorem Dp.ex' {d : PyData} (h : Dp K H v d) (e : Ex H H') : Dp K H' v d := dp_ex e d v h
theorem dpa_len : ∀ {ds : List PyData} {vs : List V}, DpAll K H vs ds → vs.length = ds.length
  | [], _, h => by cases h; rfl
  | d :: ds, _, h => by
    cases h with
    | cons h1 h2 => exact congrArg (· + 1) (dpa_len h2)
theorem dpa_get : ∀ {ds : List PyData} {vs : List V} {i : Nat} {x : V}, DpAll K H vs ds → vs[i]? = some x → ∃ d, ds[i]? = some d ∧ Dp K H x d
  | [], _, i, x, h, e => by cases h; simp at e
  | d :: ds, _, 0, x, h, e => by
    cases h with
    | cons h1 h2 => exact ⟨d, rfl, by rw [← Option.some.inj e]; exact h1⟩
  | d :: ds, _, i + 1, x, h, e => by
    cases h with
    | cons h1 h2 => exact dpa_get (i := i) h2 e
theorem Dp.tupO {ds : List PyData} (h : Dp K H v (.tuple ds)) : ∃ a xs, v = .ref a ∧ SqT K H a xs ∧ DpAll K H xs ds := by
  cases h with
  | tup h1 h2 => exact ⟨_, _, rfl, h1, h2⟩
theorem Dp.strO {s : Str} (h : Dp K H v (.str s)) : v = .str s := by cases h; rfl
theorem Dp.intO {s : Int} (h : Dp K H v (.int s)) : v = .int s := by cases h; rfl
/-- a tuple whose first item is a word -/
theorem Dp.wordO {s : Str} {ds : List PyData} (h : Dp K H v (.tuple (.str s :: ds))) : ∃ a xs, v = .ref a ∧ SqT K H a (.str s :: xs) ∧ DpAll K H xs ds := by
  obtain ⟨a, xs, rfl, h1, h2⟩ := Dp.tupO h
  cases h2 with
  | cons h3 h4 =>
    rw [Dp.strO h3] at h1
    exact ⟨a, _, rfl, h1, h4⟩
theorem DpAll.one {d : PyData} {xs : List V} (h : DpAll K H xs [d]) : ∃ x, xs = [x] ∧ Dp K H x d := by
  cases h with
  | cons h1 h2 => cases h2; exact ⟨_, rfl, h1⟩
theorem DpAll.two {d e : PyData} {xs : List V} (h : DpAll K H xs [d, e]) : ∃ x y, xs = [x, y] ∧ Dp K H x d ∧ Dp K H y e := by
  cases h with
  | cons h1 h2 =>
    obtain ⟨y, rfl, h3⟩ := DpAll.one h2
    exact ⟨_, y, rfl, h1, h3⟩
theorem DF.out (h : DF K H v f) : ∃ a xs, v = .ref a ∧ SqT K H a (.str f.tag.s :: xs) ∧ DpAll K H xs f.args := by
  have h : Dp K H v (fD f) := h
  rw [fD_eq] at h
  exact Dp.wordO h
theorem DT.out (h : DT K H v t) : ∃ a xs, v = .ref a ∧ SqT K H a (.str t.tag.s :: xs) ∧ DpAll K H xs t.args := by
  have h : Dp K H v (tD t) := h
  rw [tD_eq] at h
  exact Dp.wordO h
theorem DC.out (h : DC K H v c) : ∃ a x y, v = .ref a ∧ SqT K H a [.str c.o.s, x, y] ∧ DT K H x c.t ∧ DT K H y c.u := by
  obtain ⟨a, xs, rfl, h1, h2⟩ := Dp.wordO (show Dp K H v (.tuple (.str c.o.s :: [tD c.t, tD c.u])) from h)
  obtain ⟨x, y, rfl, h3, h4⟩ := DpAll.two h2
  exact ⟨a, x, y, rfl, h1, h3, h4⟩
theorem dp_tup {p : Addr} {s : Str} {xs : List V} {ds : List PyData} (h : H p = some (.tup (.str s :: xs))) (h2 : DpAll K H xs ds) : Dp K H (.ref p) (.tuple (.str s :: ds)) := .tup (SqT.of h) (.cons (.str s) h2)
theorem dp_tt {a : Addr} (h : SqT K H a [.str "true"]) : DF K H (.ref a) .tt := .tup h (.cons (.str _) .nil)
theorem dp_ff {a : Addr} (h : SqT K H a [.str "false"]) : DF K H (.ref a) .ff := .tup h (.cons (.str _) .nil)
theorem dp_un {w : UO} {p : Addr} {x : V} (h : H p = some (.tup [.str w.s, x])) (h1 : DF K H x f) : DF K H (.ref p) (.un w f) := dp_tup h (.cons h1 .nil)
theorem dp_bin {w : BO} {p : Addr} {x y : V} (h : H p = some (.tup [.str w.s, x, y])) (h1 : DF K H x f) (h2 : DF K H y g) : DF K H (.ref p) (.bin w f g) := dp_tup h (.cons h1 (.cons h2 .nil))
theorem dp_cmp {o : CO} {t u : Tm} {p : Addr} {x y : V} (h : H p = some (.tup [.str o.s, x, y])) (h1 : DT K H x t) (h2 : DT K H y u) : DC K H (.ref p) ⟨o, t, u⟩ := dp_tup h (.cons h1 (.cons h2 .nil))
theorem shp {d : Nat} {f : Fm} (h1 : f.ok = true) (h2 : f.dep ≤ d) (h3 : d ≤ 64) : SeqAt.shaped (fD f) = true := by
  show ((fD f).canLay0 && decide ((fD f).depth ≤ 64)) = true
  rw [fD_lay, h1, fD_dep, decide_eq_true (by omega)]
  all_goals rfl
/-- isinstance(.., tuple) -/
theorem tyx_tup {a : Addr} {xs : List V} (h : SqT K H a xs) : TyX K H (.ref a) (.type "tuple") := by
  rcases h with (h | ⟨o, h⟩) | ⟨o, its, n, hk, hc, _⟩
  · exact .base (.tup h)
  · exact .fTuple h
  · exact .kTuple hk hc
theorem tyx_lst {a : Addr} {xs : List V} (h : SqL K H a xs) : TyX K H (.ref a) (.type "list") := by
  rcases h with (h | ⟨o, h⟩) | ⟨o, its, n, hk, hc, _⟩
  · exact .base (.lst h)
  · exact .base (.frz h)
  · exact .kList hk hc
end
/-! ### words compared -/
theorem vsU (a b : UO) : decide (V.str a.s = V.str b.s) = decide (a = b) := by
  cases a <;> cases b <;> decide +kernel
theorem vsB (a b : BO) : decide (V.str a.s = V.str b.s) = decide (a = b) := by
  cases a <;> cases b <;> decide +kernel
theorem vsC (a b : CO) : decide (V.str a.s = V.str b.s) = decide (a = b) := by
  cases a <;> cases b <;> decide +kernel
theorem vsF (a b : FG) : decide (V.str a.s = V.str b.s) = decide (a = b) := by
  by_cases h : a = b
  · rw [h, decide_eq_true rfl, decide_eq_true rfl]
  · rw [decide_eq_false h, decide_eq_false fun e => h (FG.s_inj (V.str.inj e))]
theorem vsT (a b : TG) : decide (V.str a.s = V.str b.s) = decide (a = b) := by
  by_cases h : a = b
  · rw [h, decide_eq_true rfl, decide_eq_true rfl]
  · rw [decide_eq_false h, decide_eq_false fun e => h (TG.s_inj (V.str.inj e))]
theorem vsR (a b : RG) : decide (V.str a.s = V.str b.s) = decide (a = b) := by
  by_cases h : a = b
  · rw [h, decide_eq_true rfl, decide_eq_true rfl]
  · rw [decide_eq_false h, decide_eq_false fun e => h (RG.s_inj (V.str.inj e))]
end W16
set_option Elab.async false
set_option linter.all false
set_option maxRecDepth 100000
set_option maxHeartbeats 0
namespace W16
open PySem PySem.Spec PyProof.Rows L2
def d_is_constant : He.DefD := ⟨("is_constant", none), "is_constant", "is_constant", defArgs s_is_constant, defBody s_is_constant, defScope s_is_constant, [], []⟩
def d_opposite : He.DefD := ⟨("opposite", none), "opposite", "opposite", defArgs s_opposite, defBody s_opposite, defScope s_opposite, [], []⟩
def d_shrink_one : He.DefD := ⟨("shrink_one", none), "shrink_one", "shrink_one", defArgs s_shrink_one, defBody s_shrink_one, defScope s_shrink_one, [], []⟩
def d_with_true_first : He.DefD := ⟨("with_true_first", none), "with_true_first", "with_true_first", defArgs s_with_true_first, defBody s_with_true_first, defScope s_with_true_first, [], []⟩
def d_with_false_first : He.DefD := ⟨("with_false_first", none), "with_false_first", "with_false_first", defArgs s_with_false_first, defBody s_with_false_first, defScope s_with_false_first, [], []⟩
def d_with_true_second : He.DefD := ⟨("with_true_second", none), "with_true_second", "with_true_second", defArgs s_with_true_second, defBody s_with_true_second, defScope s_with_true_second, [], []⟩
def d_with_false_second : He.DefD := ⟨("with_false_second", none), "with_false_second", "with_false_second", defArgs s_with_false_second, defBody s_with_false_second, defScope s_with_false_second, [], []⟩
def d_shrink_two : He.DefD := ⟨("shrink_two", none), "shrink_two", "shrink_two", defArgs s_shrink_two, defBody s_shrink_two, defScope s_shrink_two, [], []⟩
def d_shrink : He.DefD := ⟨("shrink", none), "shrink", "shrink", defArgs s_shrink, defBody s_shrink, defScope s_shrink, [], []⟩
def d_negated : He.DefD := ⟨("negated", none), "negated", "negated", defArgs s_negated, defBody s_negated, defScope s_negated, [], []⟩
def d_positive : He.DefD := ⟨("positive", none), "positive", "positive", defArgs s_positive, defBody s_positive, defScope s_positive, [], []⟩
def d_Rows_init : He.DefD := ⟨("Rows", some "__init__"), "__init__", "Rows.__init__", defArgs s_Rows_init, defBody s_Rows_init, defScope s_Rows_init, [], []⟩
def d_RowBook_init : He.DefD := ⟨("RowBook", some "__init__"), "__init__", "RowBook.__init__", defArgs s_RowBook_init, defBody s_RowBook_init, defScope s_RowBook_init, [], []⟩
def d_RowBook_put : He.DefD := ⟨("RowBook", some "put"), "put", "RowBook.put", defArgs s_RowBook_put, defBody s_RowBook_put, defScope s_RowBook_put, [], []⟩
def d_RowBook_put_fact : He.DefD := ⟨("RowBook", some "put_fact"), "put_fact", "RowBook.put_fact", defArgs s_RowBook_put_fact, defBody s_RowBook_put_fact, defScope s_RowBook_put_fact, [], []⟩
def d_RowBook_put_formula : He.DefD := ⟨("RowBook", some "put_formula"), "put_formula", "RowBook.put_formula", defArgs s_RowBook_put_formula, defBody s_RowBook_put_formula, defScope s_RowBook_put_formula, [], []⟩
def d_number_rows : He.DefD := ⟨("number_rows", none), "number_rows", "number_rows", defArgs s_number_rows, defBody s_number_rows, defScope s_number_rows, [], []⟩
def d_parts_of : He.DefD := ⟨("parts_of", none), "parts_of", "parts_of", defArgs s_parts_of, defBody s_parts_of, defScope s_parts_of, [], []⟩
def d_names_in : He.DefD := ⟨("names_in", none), "names_in", "names_in", defArgs s_names_in, defBody s_names_in, defScope s_names_in, [], []⟩
def d_term_value : He.DefD := ⟨("term_value", none), "term_value", "term_value", defArgs s_term_value, defBody s_term_value, defScope s_term_value, [], []⟩
def d_comparison_truth : He.DefD := ⟨("comparison_truth", none), "comparison_truth", "comparison_truth", defArgs s_comparison_truth, defBody s_comparison_truth, defScope s_comparison_truth, [], []⟩
def d_condition_truth : He.DefD := ⟨("condition_truth", none), "condition_truth", "condition_truth", defArgs s_condition_truth, defBody s_condition_truth, defScope s_condition_truth, [], []⟩
def d_ask_names : He.DefD := ⟨("ask_names", none), "ask_names", "ask_names", defArgs s_ask_names, defBody s_ask_names, defScope s_ask_names, [], []⟩
def d_step_truth : He.DefD := ⟨("step_truth", none), "step_truth", "step_truth", defArgs s_step_truth, defBody s_step_truth, defScope s_step_truth, [], []⟩
def d_spread : He.DefD := ⟨("spread", none), "spread", "spread", defArgs s_spread, defBody s_spread, defScope s_spread, [], []⟩
def d_plain_truth : He.DefD := ⟨("plain_truth", none), "plain_truth", "plain_truth", defArgs s_plain_truth, defBody s_plain_truth, defScope s_plain_truth, [], []⟩
def d_row_truths : He.DefD := ⟨("row_truths", none), "row_truths", "row_truths", defArgs s_row_truths, defBody s_row_truths, defScope s_row_truths, [], []⟩
def d_truths_along : He.DefD := ⟨("truths_along", none), "truths_along", "truths_along", defArgs s_truths_along, defBody s_truths_along, defScope s_truths_along, [], []⟩
def d_qcell : He.DefD := ⟨("_law_cell", none), "_law_cell", "_law_cell", defArgs s_qcell, defBody s_qcell, defScope s_qcell, [], []⟩
def d_qdraws : He.DefD := ⟨("_law_draws", none), "_law_draws", "_law_draws", defArgs s_qdraws, defBody s_qdraws, defScope s_qdraws, [], []⟩
def d_qmany : He.DefD := ⟨("_law_many", none), "_law_many", "_law_many", defArgs s_qmany, defBody s_qmany, defScope s_qmany, [], []⟩
def d_qnames : He.DefD := ⟨("_law_names", none), "_law_names", "_law_names", defArgs s_qnames, defBody s_qnames, defScope s_qnames, [], []⟩
def d_qterm : He.DefD := ⟨("_law_term", none), "_law_term", "_law_term", defArgs s_qterm, defBody s_qterm, defScope s_qterm, [], []⟩
def d_qleaf : He.DefD := ⟨("_law_leaf", none), "_law_leaf", "_law_leaf", defArgs s_qleaf, defBody s_qleaf, defScope s_qleaf, [], []⟩
def d_qformula : He.DefD := ⟨("_law_formula", none), "_law_formula", "_law_formula", defArgs s_qformula, defBody s_qformula, defScope s_qformula, [], []⟩
def d_qsome : He.DefD := ⟨("_law_some", none), "_law_some", "_law_some", defArgs s_qsome, defBody s_qsome, defScope s_qsome, [], []⟩
def d_qsame : He.DefD := ⟨("_law_same", none), "_law_same", "_law_same", defArgs s_qsame, defBody s_qsame, defScope s_qsame, [], []⟩
def d_qfound : He.DefD := ⟨("_law_found", none), "_law_found", "_law_found", defArgs s_qfound, defBody s_qfound, defScope s_qfound, [], []⟩
def d_qgood : He.DefD := ⟨("_law_good", none), "_law_good", "_law_good", defArgs s_qgood, defBody s_qgood, defScope s_qgood, [], []⟩
def d_qvalue : He.DefD := ⟨("_law_value", none), "_law_value", "_law_value", defArgs s_qvalue, defBody s_qvalue, defScope s_qvalue, [], []⟩
def d_qholds : He.DefD := ⟨("_law_holds", none), "_law_holds", "_law_holds", defArgs s_qholds, defBody s_qholds, defScope s_qholds, [], []⟩
def d_qafter : He.DefD := ⟨("_law_after", none), "_law_after", "_law_after", defArgs s_qafter, defBody s_qafter, defScope s_qafter, [], []⟩
def d_qwalk : He.DefD := ⟨("_law_walk", none), "_law_walk", "_law_walk", defArgs s_qwalk, defBody s_qwalk, defScope s_qwalk, [], []⟩
def d_qtemporal : He.DefD := ⟨("_law_temporal", none), "_law_temporal", "_law_temporal", defArgs s_qtemporal, defBody s_qtemporal, defScope s_qtemporal, [], []⟩
def d_qalong : He.DefD := ⟨("_law_along", none), "_law_along", "_law_along", defArgs s_qalong, defBody s_qalong, defScope s_qalong, [], []⟩
def d_qstates : He.DefD := ⟨("_law_states", none), "_law_states", "_law_states", defArgs s_qstates, defBody s_qstates, defScope s_qstates, [], []⟩
def d_qbits : He.DefD := ⟨("_law_bits", none), "_law_bits", "_law_bits", defArgs s_qbits, defBody s_qbits, defScope s_qbits, [], []⟩
def d_qlengths : He.DefD := ⟨("_law_lengths", none), "_law_lengths", "_law_lengths", defArgs s_qlengths, defBody s_qlengths, defScope s_qlengths, [], []⟩
def d_qallowed : He.DefD := ⟨("_law_allowed", none), "_law_allowed", "_law_allowed", defArgs s_qallowed, defBody s_qallowed, defScope s_qallowed, [], []⟩
def d_law : He.DefD := ⟨("law", none), "law", "law", defArgs s_law, defBody s_law, defScope s_law, [], []⟩
def fn : List He.DefD := [d_is_constant, d_opposite, d_shrink_one, d_with_true_first, d_with_false_first, d_with_true_second, d_with_false_second, d_shrink_two, d_shrink, d_negated, d_positive, d_Rows_init, d_RowBook_init, d_RowBook_put, d_RowBook_put_fact, d_RowBook_put_formula, d_number_rows, d_parts_of, d_names_in, d_term_value, d_comparison_truth, d_condition_truth, d_ask_names, d_step_truth, d_spread, d_plain_truth, d_row_truths, d_truths_along, d_qcell, d_qdraws, d_qmany, d_qnames, d_qterm, d_qleaf, d_qformula, d_qsome, d_qsame, d_qfound, d_qgood, d_qvalue, d_qholds, d_qafter, d_qwalk, d_qtemporal, d_qalong, d_qstates, d_qbits, d_qlengths, d_qallowed, d_law]
def fa : List He.Fa := [.glo "is_constant", .glo "opposite", .glo "shrink_one", .glo "with_true_first", .glo "with_false_first", .glo "with_true_second", .glo "with_false_second", .glo "shrink_two", .glo "shrink", .glo "negated", .glo "positive", .glo "number_rows", .glo "parts_of", .glo "names_in", .glo "term_value", .glo "comparison_truth", .glo "condition_truth", .glo "ask_names", .glo "step_truth", .glo "spread", .glo "plain_truth", .glo "row_truths", .glo "truths_along", .glo "_law_cell", .glo "_law_draws", .glo "_law_many", .glo "_law_names", .glo "_law_term", .glo "_law_leaf", .glo "_law_formula", .glo "_law_some", .glo "_law_same", .glo "_law_found", .glo "_law_good", .glo "_law_value", .glo "_law_holds", .glo "_law_after", .glo "_law_walk", .glo "_law_temporal", .glo "_law_along", .glo "_law_states", .glo "_law_bits", .glo "_law_lengths", .glo "_law_allowed", .glo "law", .glo "Rows", .glo "RowBook", .glo "COMPARISONS_shrink", .glo "TRUE", .glo "FALSE", .glo "DUAL", .glo "PLAIN", .glo "COMPARISONS_rows", .glo "GREATEST", .free "len", .free "range", .free "zip", .free "list", .free "tuple", .free "isinstance", .free "dict", .free "min", .free "max", .free "enumerate", .free "int", .free "str", .free "bool", .cls "Rows", .mkr "Rows", .cls "RowBook", .mkr "RowBook", .noat "Rows" "facts", .noat "Rows" "rows", .noat "Rows" "temporal", .noat "RowBook" "facts", .noat "RowBook" "rows", .noat "RowBook" "_numbers", .meth "RowBook" "put", .meth "RowBook" "put_fact", .meth "RowBook" "put_formula"]
def loose1 : List PySem.Str := ["COMPARISONS_shrink", "TRUE", "FALSE", "is_constant", "opposite", "shrink_one", "with_true_first", "with_false_first", "with_true_second", "with_false_second", "shrink_two", "shrink", "DUAL", "negated", "positive", "LassoError", "UnknownName", "PLAIN", "COMPARISONS_rows", "Rows", "RowBook", "number_rows", "parts_of", "names_in", "term_value", "comparison_truth", "condition_truth", "GREATEST", "ask_names", "step_truth"]
def loose2 : List PySem.Str := ["spread", "plain_truth", "row_truths", "truths_along", "_law_cell", "_law_draws", "_law_many", "_law_names", "_law_term", "_law_leaf", "_law_formula", "_law_some", "_law_same", "_law_found", "_law_good", "_law_value", "_law_holds", "_law_after", "_law_walk", "_law_temporal", "_law_along", "_law_states", "_law_bits", "_law_lengths", "_law_allowed"]
def loose : List PySem.Str := loose1 ++ loose2
def exB (K : PySem.W.Frag) : Bool := He.tupB K "COMPARISONS_shrink" [.str "equal", .str "below", .str "upto"] && (He.tupB K "TRUE" [.str "true"] && (He.tupB K "FALSE" [.str "false"] && (He.tupB K "PLAIN" [.str "true", .str "false", .str "fact", .str "not", .str "and", .str "or", .str "implies", .str "same"] && (He.tupB K "COMPARISONS_rows" [.str "equal", .str "below", .str "upto"] && (He.tupB K "GREATEST" [.str "always", .str "release", .str "unless"] && (He.valsB K (He.ga K "DUAL") dualVals && dualNot.all fun z => He.eqO (PySem.W.nsIn K (He.ga K "DUAL") z) (some none)))))))
def ts : List He.Tab := [(fun K => He.ga K "DUAL", dualKeys)]
abbrev R : PySem.W.OpenRow := PySem.W.OpenLaw.row PySem.Challenge.rw_lassoproof_k16_whole_equal_formulas
abbrev hk : PySem.W.Hook := He.hookX 4 fa fn ts [] exB
def ob (s : PySem.W.SharedT) : He.AlX := He.obsX 4 fa fn ts [] exB (HandSHeadRun.getT s)
theorem ob_eq (s : PySem.W.SharedT) : ob s = hk.obs s.abs := He.obsX_eq (HandSHeadRun.getT_eq s)
theorem run0 (w : World) : HandSHeadRun.RunEq R (PySem.W.view R.prog [62]) hk ob 6000 loose (w.withFollow "special-get-raises" false) := by
  intro os
  kernel_rfl
theorem run1 (w : World) : HandSHeadRun.RunEq R (PySem.W.view R.prog [62]) hk ob 6000 loose (w.withFollow "special-get-raises" true) := by
  intro os
  kernel_rfl
theorem run (w : World) : HandSHeadRun.RunEq R (PySem.W.view R.prog [62]) hk ob 6000 loose w :=
  PySem.W.byRow2 "special-get-raises" (P := fun w => HandSHeadRun.RunEq R (PySem.W.view R.prog [62]) hk ob 6000 loose w) run0 run1 w
theorem t16_of {K : PySem.W.Frag} {w : World} {h : Heap} {mg : Str → Option Value} (X : K.In h) (G : h.Ns mainGlobals mg) {hh : Heap} (c : He.SaysX fa fn ts [] exB w hh K) : T16 K w mg := by
  have e := c.more
  obtain ⟨b0, e⟩ := He.ba e
  obtain ⟨b1, e⟩ := He.ba e
  obtain ⟨b2, e⟩ := He.ba e
  obtain ⟨b3, e⟩ := He.ba e
  obtain ⟨b4, e⟩ := He.ba e
  obtain ⟨b5, e⟩ := He.ba e
  obtain ⟨v1, v2⟩ := He.ba e
  exact ⟨He.glo_ok X G (c.t.d.fact 0 rfl),
    He.glo_ok X G (c.t.d.fact 1 rfl),
    He.glo_ok X G (c.t.d.fact 2 rfl),
    He.glo_ok X G (c.t.d.fact 3 rfl),
    He.glo_ok X G (c.t.d.fact 4 rfl),
    He.glo_ok X G (c.t.d.fact 5 rfl),
    He.glo_ok X G (c.t.d.fact 6 rfl),
    He.glo_ok X G (c.t.d.fact 7 rfl),
    He.glo_ok X G (c.t.d.fact 8 rfl),
    He.glo_ok X G (c.t.d.fact 9 rfl),
    He.glo_ok X G (c.t.d.fact 10 rfl),
    He.glo_ok X G (c.t.d.fact 11 rfl),
    He.glo_ok X G (c.t.d.fact 12 rfl),
    He.glo_ok X G (c.t.d.fact 13 rfl),
    He.glo_ok X G (c.t.d.fact 14 rfl),
    He.glo_ok X G (c.t.d.fact 15 rfl),
    He.glo_ok X G (c.t.d.fact 16 rfl),
    He.glo_ok X G (c.t.d.fact 17 rfl),
    He.glo_ok X G (c.t.d.fact 18 rfl),
    He.glo_ok X G (c.t.d.fact 19 rfl),
    He.glo_ok X G (c.t.d.fact 20 rfl),
    He.glo_ok X G (c.t.d.fact 21 rfl),
    He.glo_ok X G (c.t.d.fact 22 rfl),
    He.glo_ok X G (c.t.d.fact 23 rfl),
    He.glo_ok X G (c.t.d.fact 24 rfl),
    He.glo_ok X G (c.t.d.fact 25 rfl),
    He.glo_ok X G (c.t.d.fact 26 rfl),
    He.glo_ok X G (c.t.d.fact 27 rfl),
    He.glo_ok X G (c.t.d.fact 28 rfl),
    He.glo_ok X G (c.t.d.fact 29 rfl),
    He.glo_ok X G (c.t.d.fact 30 rfl),
    He.glo_ok X G (c.t.d.fact 31 rfl),
    He.glo_ok X G (c.t.d.fact 32 rfl),
    He.glo_ok X G (c.t.d.fact 33 rfl),
    He.glo_ok X G (c.t.d.fact 34 rfl),
    He.glo_ok X G (c.t.d.fact 35 rfl),
    He.glo_ok X G (c.t.d.fact 36 rfl),
    He.glo_ok X G (c.t.d.fact 37 rfl),
    He.glo_ok X G (c.t.d.fact 38 rfl),
    He.glo_ok X G (c.t.d.fact 39 rfl),
    He.glo_ok X G (c.t.d.fact 40 rfl),
    He.glo_ok X G (c.t.d.fact 41 rfl),
    He.glo_ok X G (c.t.d.fact 42 rfl),
    He.glo_ok X G (c.t.d.fact 43 rfl),
    He.glo_ok X G (c.t.d.fact 44 rfl),
    He.glo_ok X G (c.t.d.fact 45 rfl),
    He.glo_ok X G (c.t.d.fact 46 rfl),
    He.glo_ok X G (c.t.d.fact 47 rfl),
    He.glo_ok X G (c.t.d.fact 48 rfl),
    He.glo_ok X G (c.t.d.fact 49 rfl),
    He.glo_ok X G (c.t.d.fact 50 rfl),
    He.glo_ok X G (c.t.d.fact 51 rfl),
    He.glo_ok X G (c.t.d.fact 52 rfl),
    He.glo_ok X G (c.t.d.fact 53 rfl),
    He.free_ok X G (c.t.d.fact 54 rfl),
    He.free_ok X G (c.t.d.fact 55 rfl),
    He.free_ok X G (c.t.d.fact 56 rfl),
    He.free_ok X G (c.t.d.fact 57 rfl),
    He.free_ok X G (c.t.d.fact 58 rfl),
    He.free_ok X G (c.t.d.fact 59 rfl),
    He.free_ok X G (c.t.d.fact 60 rfl),
    He.free_ok X G (c.t.d.fact 61 rfl),
    He.free_ok X G (c.t.d.fact 62 rfl),
    He.free_ok X G (c.t.d.fact 63 rfl),
    He.free_ok X G (c.t.d.fact 64 rfl),
    He.free_ok X G (c.t.d.fact 65 rfl),
    He.free_ok X G (c.t.d.fact 66 rfl),
    He.cls_ok (c.t.d.fact 67 rfl),
    He.mkr_ok (c.t.d.fact 68 rfl),
    He.cls_ok (c.t.d.fact 69 rfl),
    He.mkr_ok (c.t.d.fact 70 rfl),
    He.noat_ok (c.t.d.fact 71 rfl),
    He.noat_ok (c.t.d.fact 72 rfl),
    He.noat_ok (c.t.d.fact 73 rfl),
    He.noat_ok (c.t.d.fact 74 rfl),
    He.noat_ok (c.t.d.fact 75 rfl),
    He.noat_ok (c.t.d.fact 76 rfl),
    He.meth_ok (c.t.d.fact 77 rfl),
    He.meth_ok (c.t.d.fact 78 rfl),
    He.meth_ok (c.t.d.fact 79 rfl),
    c.t.d.def_ 0 (d := d_is_constant) rfl,
    c.t.d.def_ 1 (d := d_opposite) rfl,
    c.t.d.def_ 2 (d := d_shrink_one) rfl,
    c.t.d.def_ 3 (d := d_with_true_first) rfl,
    c.t.d.def_ 4 (d := d_with_false_first) rfl,
    c.t.d.def_ 5 (d := d_with_true_second) rfl,
    c.t.d.def_ 6 (d := d_with_false_second) rfl,
    c.t.d.def_ 7 (d := d_shrink_two) rfl,
    c.t.d.def_ 8 (d := d_shrink) rfl,
    c.t.d.def_ 9 (d := d_negated) rfl,
    c.t.d.def_ 10 (d := d_positive) rfl,
    c.t.d.def_ 11 (d := d_Rows_init) rfl,
    c.t.d.def_ 12 (d := d_RowBook_init) rfl,
    c.t.d.def_ 13 (d := d_RowBook_put) rfl,
    c.t.d.def_ 14 (d := d_RowBook_put_fact) rfl,
    c.t.d.def_ 15 (d := d_RowBook_put_formula) rfl,
    c.t.d.def_ 16 (d := d_number_rows) rfl,
    c.t.d.def_ 17 (d := d_parts_of) rfl,
    c.t.d.def_ 18 (d := d_names_in) rfl,
    c.t.d.def_ 19 (d := d_term_value) rfl,
    c.t.d.def_ 20 (d := d_comparison_truth) rfl,
    c.t.d.def_ 21 (d := d_condition_truth) rfl,
    c.t.d.def_ 22 (d := d_ask_names) rfl,
    c.t.d.def_ 23 (d := d_step_truth) rfl,
    c.t.d.def_ 24 (d := d_spread) rfl,
    c.t.d.def_ 25 (d := d_plain_truth) rfl,
    c.t.d.def_ 26 (d := d_row_truths) rfl,
    c.t.d.def_ 27 (d := d_truths_along) rfl,
    c.t.d.def_ 28 (d := d_qcell) rfl,
    c.t.d.def_ 29 (d := d_qdraws) rfl,
    c.t.d.def_ 30 (d := d_qmany) rfl,
    c.t.d.def_ 31 (d := d_qnames) rfl,
    c.t.d.def_ 32 (d := d_qterm) rfl,
    c.t.d.def_ 33 (d := d_qleaf) rfl,
    c.t.d.def_ 34 (d := d_qformula) rfl,
    c.t.d.def_ 35 (d := d_qsome) rfl,
    c.t.d.def_ 36 (d := d_qsame) rfl,
    c.t.d.def_ 37 (d := d_qfound) rfl,
    c.t.d.def_ 38 (d := d_qgood) rfl,
    c.t.d.def_ 39 (d := d_qvalue) rfl,
    c.t.d.def_ 40 (d := d_qholds) rfl,
    c.t.d.def_ 41 (d := d_qafter) rfl,
    c.t.d.def_ 42 (d := d_qwalk) rfl,
    c.t.d.def_ 43 (d := d_qtemporal) rfl,
    c.t.d.def_ 44 (d := d_qalong) rfl,
    c.t.d.def_ 45 (d := d_qstates) rfl,
    c.t.d.def_ 46 (d := d_qbits) rfl,
    c.t.d.def_ 47 (d := d_qlengths) rfl,
    c.t.d.def_ 48 (d := d_qallowed) rfl,
    c.t.d.def_ 49 (d := d_law) rfl,
    fun H => He.tupB_ok b0 H,
    fun H => He.tupB_ok b1 H,
    fun H => He.tupB_ok b2 H,
    fun H => He.tupB_ok b3 H,
    fun H => He.tupB_ok b4 H,
    fun H => He.tupB_ok b5 H,
    kdict_at (c.t.tab 0 rfl),
    fun q hq => He.valsB_ok v1 hq,
    fun z hz => He.eqO_ok (List.all_eq_true.mp v2 z hz)⟩
end W16
set_option Elab.async false
set_option linter.all false
set_option maxRecDepth 100000
set_option maxHeartbeats 4000000
namespace W16
open PySem PySem.Spec PyProof.Rows L2
open Evl (Ex)
/-! ### all but lists stays -/
def NEx (H H' : Hp) : Prop := ∀ b o, H b = some o → (∀ l, o ≠ .lst l) → H' b = some o
theorem NEx.of {H H' : Hp} (e : Ex H H') : NEx H H' := fun b o h _ => e b o h
theorem NEx.lst {H : Hp} {D : Addr} {l : List V} {o : HO} (h : H D = some (.lst l)) : NEx H (upd H D o) := fun b u hb hu => by
  rw [upd_ne fun z => hu l (by rw [z, h] at hb; exact (Option.some.inj hb).symm)]
  exact hb
theorem NEx.trans {H H1 H2 : Hp} (a : NEx H H1) (b : NEx H1 H2) : NEx H H2 := fun c o h n => b c o (a c o h n) n
theorem nex_t {K : PySem.W.Frag} {H H' : Hp} {a : Addr} {xs : List V} (e : NEx H H') (h : SqT K H a xs) : SqT K H' a xs := by
  rcases h with (h | ⟨o, h⟩) | h
  · exact .inl (.inl (e _ _ h fun l z => by cases z))
  · exact .inl (.inr ⟨o, e _ _ h fun l z => by cases z⟩)
  · exact .inr h
/-! data without lists -/
mutual
def noL : PyData → Bool
  | .none => true
  | .bool _ => true
  | .int _ => true
  | .str _ => true
  | .list _ => false
  | .tuple xs => noLs xs
  | .dict _ => false
def noLs : List PyData → Bool
  | [] => true
  | x :: xs => noL x && noLs xs
end
mutual
theorem dp_nex {K : PySem.W.Frag} {H H' : Hp} (e : NEx H H') : ∀ (d : PyData) (v : V), noL d = true → Dp K H v d → Dp K H' v d
  | .none, _, _, h => by cases h; exact .non
  | .bool b, _, _, h => by cases h; exact .bl b
  | .int i, _, _, h => by cases h; exact .int i
  | .str x, _, _, h => by cases h; exact .str x
  | .list ds, _, hl, h => by simp [noL] at hl
  | .tuple ds, _, hl, h => by
    cases h with
    | tup hs ha => exact .tup (nex_t e hs) (dpa_nex e ds _ (by simpa [noL] using hl) ha)
  | .dict _, _, hl, h => by cases h
theorem dpa_nex {K : PySem.W.Frag} {H H' : Hp} (e : NEx H H') : ∀ (ds : List PyData) (vs : List V), noLs ds = true → DpAll K H vs ds → DpAll K H' vs ds
  | [], _, _, h => by cases h; exact .nil
  | d :: ds, _, hl, h => by
    simp only [noLs, Bool.and_eq_true] at hl
    cases h with
    | cons h1 h2 => exact .cons (dp_nex e d _ hl.1 h1) (dpa_nex e ds _ hl.2 h2)
end
theorem tD_noL : ∀ t : Tm, noL (tD t) = true
  | .num n => by simp [tD, noL, noLs]
  | .nam n => by simp [tD, noL, noLs]
  | .plus t u => by simp [tD, noL, noLs, tD_noL t, tD_noL u]
  | .minus t u => by simp [tD, noL, noLs, tD_noL t, tD_noL u]
  | .times t u => by simp [tD, noL, noLs, tD_noL t, tD_noL u]
  | .neg t => by simp [tD, noL, noLs, tD_noL t]
  | .quo t k => by simp [tD, noL, noLs, tD_noL t]
  | .rem t k => by simp [tD, noL, noLs, tD_noL t]
  | .least t u => by simp [tD, noL, noLs, tD_noL t, tD_noL u]
  | .most t u => by simp [tD, noL, noLs, tD_noL t, tD_noL u]
theorem cD_noL (c : Cm) : noL (cD c) = true := by simp [cD, noL, noLs, tD_noL]
theorem fD_noL : ∀ f : Fm, noL (fD f) = true
  | .tt => by simp [fD, noL, noLs]
  | .ff => by simp [fD, noL, noLs]
  | .cmp c => by simp [fD, cD_noL]
  | .un w f => by simp [fD, noL, noLs, fD_noL f]
  | .bin w f g => by simp [fD, noL, noLs, fD_noL f, fD_noL g]
section
variable {K : PySem.W.Frag} {H H' : Hp} {v : V} {f : Fm} {c : Cm} {t : Tm}
theorem DF.nex (h : DF K H v f) (e : NEx H H') : DF K H' v f := dp_nex e _ _ (fD_noL f) h
theorem DC.nex (h : DC K H v c) (e : NEx H H') : DC K H' v c := dp_nex e _ _ (cD_noL c) h
theorem DT.nex (h : DT K H v t) (e : NEx H H') : DT K H' v t := dp_nex e _ _ (tD_noL t) h
end
/-! ### comprehensions that map -/
def Gv (te : TE) (σ : L2.St) (H : Hp) (R : V → Hp → Prop) : Prop := ∀ Q : VK, (∀ y H4, Ex H H4 → R y H4 → Q y H4) → te σ H Q
theorem lcN {J : It} {n : Nat} {G : Hp → Prop} {Y : Nat → Hp → V → Hp → Prop} (w : Walk J n G Y) {te : TE} {vs : List Nat} {σ : L2.St} {H1 : Hp} {j : Nat} {Qv : VK} (R : Nat → V → Hp → Prop)
    (hR : ∀ i y H H', NEx H H' → R i y H → R i y H') (hG : ∀ H', Ex H1 H' → G H') (hn : n < 100000) (hw : ∀ x, wipe ((wipe σ vs).set j (some x)) vs = wipe σ vs)
    (elem : ∀ i x H H', i < n → Ex H1 H → Y i H x H' → Ex H H' ∧ Gv te ((wipe σ vs).set j (some x)) H' (R i))
    (hd : ∀ D H' ys, H1 D = none → Ex H1 H' → H' D = some (.lst ys) → ys.length = n → (∀ i y, ys[i]? = some y → R i y H') → Qv (.ref D) H') :
    ∀ D, H1 D = none → ∃ W : Nat → Nat → Hp → Prop, (∃ m, W 0 m (upd H1 D (.lst []))) ∧ ∀ i m H, W i m H →
      (J.stop i H ∧ Qv (.ref D) H) ∨ (J.go i H ∧ ∃ Nx : Hp → Prop, (∀ H', Nx H' → ∃ m', m' < m ∧ W (i + 1) m' H') ∧ ∀ x H', J.yld i H x H' → gName j x (wipe σ vs) H' fun σ2 H2 => wipe σ2 vs = wipe σ vs ∧ tYes σ2 H2 fun b H3 =>
        if b = true then te σ2 H3 fun y H4 => ∃ acc, H4 D = some (.lst acc) ∧ acc.length < sizeLine ∧ Nx (upd H4 D (.lst (acc ++ [y]))) else Nx H3) := by
  intro D hD
  refine lc_it w (fun i H' => Ex H1 H' ∧ ∃ ys, H' D = some (.lst ys) ∧ ys.length = i ∧ ∀ k y, ys[k]? = some y → R k y H') ⟨Evl.Ex.new hD, [], upd_same, rfl, fun k y h => by simp at h⟩ (fun i H' _ p => hG H' p.1) ?_ ?_
  · rintro i x H H' hi ⟨e1, ys, h1, h2, h3⟩ hy
    obtain ⟨e2, g⟩ := elem i x H H' hi e1 hy
    refine ⟨hw x, ?_⟩
    unfold tYes
    dsimp only
    try rw [if_pos rfl]
    refine g _ fun y H4 e4 r4 => ?_
    have hD4 : H4 D = some (.lst ys) := e4 _ _ (e2 _ _ h1)
    refine ⟨ys, hD4, Evl.sz_lt (by omega), Evl.Ex.mut ((e1.trans e2).trans e4) hD, ys ++ [y], upd_same, by rw [List.length_append, h2]; rfl, fun k z hk => ?_⟩
    have nx : NEx H4 (upd H4 D (.lst (ys ++ [y]))) := NEx.lst hD4
    by_cases hlt : k < ys.length
    · rw [List.getElem?_append_left hlt] at hk
      exact hR k z _ _ ((NEx.of (e2.trans e4)).trans nx) (h3 k z hk)
    · rw [List.getElem?_append_right (by omega)] at hk
      have e5 : k - ys.length = 0 := by
        have q := (List.getElem?_eq_some_iff.mp hk).1
        simp at q
        omega
      rw [e5] at hk
      have e6 : z = y := (Option.some.inj hk).symm
      have e7 : k = i := by omega
      rw [e6, e7]
      exact hR i y _ _ nx r4
  · rintro H' ⟨e1, ys, h1, h2, h3⟩
    exact hd D H' ys hD e1 h1 h2 h3
/-- a list of items by their places is a map -/
theorem eq_mapR {α : Type} {n : Nat} {ys : List α} (h : ys.length = n) (f : Nat → α) (hf : ∀ i y, ys[i]? = some y → y = f i) : ys = (List.range n).map f := by
  refine List.ext_getElem (by rw [List.length_map, List.length_range, h]) fun i h1 h2 => ?_
  rw [List.getElem_map, List.getElem_range]
  exact hf i _ (List.getElem?_eq_getElem h1)
end W16
set_option Elab.async false
set_option linter.all false
set_option maxRecDepth 100000
set_option maxHeartbeats 4000000
namespace W16
open PySem PySem.Spec PyProof.Rows L2
open Evl (Ex)
/-! ### shrink -/
structure Fit (d : Nat) (f : Fm) : Prop where
  ok : f.ok = true
  dep : f.dep ≤ d
theorem Fit.shp {d : Nat} {f : Fm} (h : Fit d f) (hd : d ≤ 64) : SeqAt.shaped (fD f) = true := W16.shp h.ok h.dep hd
theorem shp_tt : SeqAt.shaped (fD .tt) = true := W16.shp (d := 1) rfl (Nat.le_refl _) (by decide)
theorem shp_ff : SeqAt.shaped (fD .ff) = true := W16.shp (d := 1) rfl (Nat.le_refl _) (by decide)
def RetF (K : PySem.W.Frag) (f : Fm) (H : Hp) (Q : VK) : Prop := ∀ v' H', Ex H H' → DF K H' v' f → Q v' H'
def spIsC (K : PySem.W.Frag) : Sp := fun vs H Q _ => ∃ f v, vs = [v] ∧ DF K H v f ∧ Q (.bl (isC f)) H
def spOpp (K : PySem.W.Frag) : Sp := fun vs H Q _ => ∃ f v, vs = [v] ∧ DF K H v f ∧ Fit 62 f ∧ RetF K (opp f) H Q
def spUn (K : PySem.W.Frag) (F : UO → Fm → Fm) : Sp := fun vs H Q _ => ∃ w f v, vs = [.str w.s, v] ∧ DF K H v f ∧ Fit 62 f ∧ RetF K (F w f) H Q
def spBi (K : PySem.W.Frag) (F : BO → Fm → Fm) : Sp := fun vs H Q _ => ∃ w f v, vs = [.str w.s, v] ∧ DF K H v f ∧ Fit 62 f ∧ RetF K (F w f) H Q
def spBi2 (K : PySem.W.Frag) (F : BO → Fm → Fm → Fm) : Sp := fun vs H Q _ => ∃ w f g v u, vs = [.str w.s, v, u] ∧ DF K H v f ∧ DF K H u g ∧ Fit 62 f ∧ Fit 62 g ∧ RetF K (F w f g) H Q
section
variable {P : Program} {w : World} {K : PySem.W.Frag} {mg : Str → Option Value} {base : Heap}
abbrev nm_is_constant : List Str := ["formula"]
theorem sc_is_constant : FnScope nm_is_constant ["formula"] (defScope s_is_constant) := ⟨rfl, rfl, rfl, by decide +kernel, rfl, by decide +kernel, by decide +kernel⟩
theorem ok_is_constant (T : T16 K w mg) : Ok P w K mg base 1 (gA K "is_constant") ["formula"] (spIsC K) := by
  refine mkOk T.F_is_constant sc_is_constant (fun _ _ _ _ _ _ us hl => match us, hl with | [_], _ => rfl) (fun vs H Q E h => ?_) fun cdv A outer s H vs Q E hr h => ?_
  · obtain ⟨f, v, rfl, _⟩ := h
    rfl
  obtain ⟨f, v, rfl, hD, q⟩ := h
  obtain ⟨a, xs, rfl, hS, _⟩ := DF.out hD
  refine ⟨_, (pss_one (ps_ret (pe_or (pe_cmpR op_eq (pe_ix ix_tup (pv 0) pe_int (fun _ _ => rfl)) pe_str (nomark _)) (pe_one (pe_cmpR op_eq (pe_ix ix_tup (pv 0) pe_int (fun _ _ => rfl)) pe_str (nomark _)))))), ?_⟩
  refine ⟨_, rfl, a, _, 0, _, rfl, rfl, hS, atI_nat (j := 0) rfl, rfl, _, rfl, ite2 (fun c => ?_) (fun c => ?_)⟩
  · rw [show V.str "true" = V.str FG.tt.s from rfl, vsF] at c
    have e : isC f = true := by
      cases f <;> first | rfl | (exact absurd (of_decide_eq_true c) (by intro z; cases z))
    rw [e] at q
    exact q
  · refine ⟨_, rfl, a, _, 0, _, rfl, rfl, hS, atI_nat (j := 0) rfl, rfl, ?_⟩
    rw [show V.str "true" = V.str FG.tt.s from rfl, vsF] at c
    rw [show V.str "false" = V.str FG.ff.s from rfl, vsF]
    have e : isC f = decide (f.tag = FG.ff) := by
      cases f <;> first | rfl | (exact absurd rfl c) | (exact absurd (decide_eq_true rfl) c)
    rw [e] at q
    exact q
abbrev nm_opposite : List Str := ["formula"]
theorem sc_opposite : FnScope nm_opposite ["formula"] (defScope s_opposite) := ⟨rfl, rfl, rfl, by decide +kernel, rfl, by decide +kernel, by decide +kernel⟩
theorem ok_opposite (T : T16 K w mg) : Ok P w K mg base 1 (gA K "opposite") ["formula"] (spOpp K) := by
  refine mkOk T.F_opposite sc_opposite (fun _ _ _ _ _ _ us hl => match us, hl with | [_], _ => rfl) (fun vs H Q E h => ?_) fun cdv A outer s H vs Q E hr h => ?_
  · obtain ⟨f, v, rfl, _⟩ := h
    rfl
  obtain ⟨f, v, rfl, hD, hF, q⟩ := h
  refine ⟨_, (pss_cons (ps_if (pt_cmpR (op_eqD hr.units) (pv 0) (pe_gl T.g_TRUE) (nomark _)) (pss_one (ps_ret (pe_gl T.g_FALSE))) pss_nil)
      (pss_cons (ps_if (pt_cmpR (op_eqD hr.units) (pv 0) (pe_gl T.g_FALSE) (nomark _)) (pss_one (ps_ret (pe_gl T.g_TRUE))) pss_nil)
      (pss_one (ps_ret (pe_tup (pa_cons pe_str (pa_cons (pv 0) pa_nil))))))), ?_⟩
  refine ⟨_, rfl, fD f, fD .tt, hD, dp_tt (T.c_TRUE _), hF.shp (by decide), shp_tt, _, rfl, ite2 (fun c => ?_) (fun c => ?_)⟩
  · rw [fD_eqv] at c
    have e : f = .tt := of_decide_eq_true c
    subst e
    exact q _ _ (Evl.Ex.refl _) (dp_ff (T.c_FALSE _))
  rw [fD_eqv] at c
  have n1 : f ≠ .tt := fun e => c (decide_eq_true e)
  refine ⟨_, rfl, fD f, fD .ff, hD, dp_ff (T.c_FALSE _), hF.shp (by decide), shp_ff, _, rfl, ite2 (fun c => ?_) (fun c => ?_)⟩
  · rw [fD_eqv] at c
    have e : f = .ff := of_decide_eq_true c
    subst e
    exact q _ _ (Evl.Ex.refl _) (dp_tt (T.c_TRUE _))
  rw [fD_eqv] at c
  have n2 : f ≠ .ff := fun e => c (decide_eq_true e)
  refine ⟨_, rfl, (by show 2 ≤ sizeLine; decide), fun p hp => q _ _ (Evl.Ex.new hp) ?_⟩
  have e : opp f = .un .not f := by unfold opp; rw [if_neg n1, if_neg n2]
  rw [e]
  exact dp_un (w := .not) upd_same (Dp.ex' hD (Evl.Ex.new hp))
abbrev nm_shrink_one : List Str := ["word", "part"]
theorem sc_shrink_one : FnScope nm_shrink_one ["word", "part"] (defScope s_shrink_one) := ⟨rfl, rfl, rfl, by decide +kernel, rfl, by decide +kernel, by decide +kernel⟩
theorem ok_shrink_one (T : T16 K w mg) : Ok P w K mg base 2 (gA K "shrink_one") ["word", "part"] (spUn K shr1) := by
  refine mkOk T.F_shrink_one sc_shrink_one (fun _ _ _ _ _ _ us hl => match us, hl with | [_, _], _ => rfl) (fun vs H Q E h => ?_) fun cdv A outer s H vs Q E hr h => ?_
  · obtain ⟨o, f, v, rfl, _⟩ := h
    rfl
  obtain ⟨o, f, v, rfl, hD, hF, q⟩ := h
  refine ⟨_, (pss_cons (ps_if (pt_cmpR op_eq (pv 0) pe_str (nomark _)) (pss_one (ps_ret (pc (ok_opposite T) (hr.mono (by omega)) T.g_opposite (pa_cons (pv 1) pa_nil)))) pss_nil)
      (pss_cons (ps_if (pt_val (pc (ok_is_constant T) (hr.mono (by omega)) T.g_is_constant (pa_cons (pv 1) pa_nil))) (pss_one (ps_ret (pv 1))) pss_nil)
      (pss_one (ps_ret (pe_tup (pa_cons (pv 0) (pa_cons (pv 1) pa_nil))))))), ?_⟩
  refine ⟨_, rfl, rfl, _, rfl, ite2 (fun c => ?_) (fun c => ?_)⟩
  · rw [show V.str "not" = V.str UO.not.s from rfl, vsU] at c
    have e : o = .not := of_decide_eq_true c
    subst e
    exact ⟨_, rfl, f, v, rfl, hD, hF, q⟩
  rw [show V.str "not" = V.str UO.not.s from rfl, vsU] at c
  have n1 : o ≠ .not := fun e => c (decide_eq_true e)
  refine ⟨_, rfl, f, v, rfl, hD, _, rfl, ite2 (fun c => ?_) (fun c => ?_)⟩
  · have e : shr1 o f = f := by unfold shr1; rw [if_neg n1, if_pos c]
    exact ⟨_, rfl, q _ _ (Evl.Ex.refl _) (by rw [e]; exact hD)⟩
  · have e : shr1 o f = .un o f := by unfold shr1; rw [if_neg n1, if_neg c]
    refine ⟨_, rfl, _, rfl, (by show 2 ≤ sizeLine; decide), fun p hp => q _ _ (Evl.Ex.new hp) ?_⟩
    rw [e]
    exact dp_un upd_same (Dp.ex' hD (Evl.Ex.new hp))
abbrev nm_with_true_first : List Str := ["word", "second"]
theorem sc_with_true_first : FnScope nm_with_true_first ["word", "second"] (defScope s_with_true_first) := ⟨rfl, rfl, rfl, by decide +kernel, rfl, by decide +kernel, by decide +kernel⟩
theorem ok_with_true_first (T : T16 K w mg) : Ok P w K mg base 3 (gA K "with_true_first") ["word", "second"] (spBi K wT1) := by
  refine mkOk T.F_with_true_first sc_with_true_first (fun _ _ _ _ _ _ us hl => match us, hl with | [_, _], _ => rfl) (fun vs H Q E h => ?_) fun cdv A outer s H vs Q E hr h => ?_
  · obtain ⟨o, f, v, rfl, _⟩ := h
    rfl
  obtain ⟨o, f, v, rfl, hD, hF, q⟩ := h
  refine ⟨_, (pss_cons (ps_if (PW.pt (pw_or (pt_cmpR op_eq (pv 0) pe_str (nomark _)) (pw_or1 (pt_cmpR op_eq (pv 0) pe_str (nomark _))))) (pss_one (ps_ret (pe_gl T.g_TRUE))) pss_nil)
      (pss_cons (ps_if (pt_cmpR op_eq (pv 0) pe_str (nomark _)) (pss_one (ps_ret (pc (ok_shrink_one T) (hr.mono (by omega)) T.g_shrink_one (pa_cons pe_str (pa_cons (pv 1) pa_nil))))) pss_nil)
      (pss_one (ps_ret (pv 1))))), ?_⟩
  have go : ∀ H', Ex H H' → DF K H' (.ref (gA K "TRUE")) (.tt) := fun H' _ => dp_tt (T.c_TRUE _)
  refine ⟨_, rfl, rfl, _, rfl, ?_⟩
  rw [show V.str "or" = V.str BO.or.s from rfl, vsB]
  refine ite2 (fun c => ?_) (fun c => ?_)
  · have e : wT1 o f = .tt := by unfold wT1; rw [if_pos (.inl (of_decide_eq_true c))]
    exact q _ _ (Evl.Ex.refl _) (by rw [e]; exact go _ (Evl.Ex.refl _))
  refine ⟨_, rfl, rfl, _, rfl, ?_⟩
  rw [show V.str "unless" = V.str BO.unl.s from rfl, vsB]
  refine ite2 (fun c2 => ?_) (fun c2 => ?_)
  · have e : wT1 o f = .tt := by unfold wT1; rw [if_pos (.inr (of_decide_eq_true c2))]
    exact q _ _ (Evl.Ex.refl _) (by rw [e]; exact go _ (Evl.Ex.refl _))
  have n1 : ¬ (o = .or ∨ o = .unl) := fun z => z.elim (fun z => c (decide_eq_true z)) fun z => c2 (decide_eq_true z)
  refine ⟨_, rfl, rfl, _, rfl, ?_⟩
  rw [show V.str "until" = V.str BO.til.s from rfl, vsB]
  refine ite2 (fun c3 => ?_) (fun c3 => ?_)
  · have e : wT1 o f = shr1 .ev f := by unfold wT1; rw [if_neg n1, if_pos (of_decide_eq_true c3)]
    rw [e] at q
    exact ⟨_, rfl, .ev, f, v, rfl, hD, hF, q⟩
  · have e : wT1 o f = f := by unfold wT1; rw [if_neg n1, if_neg fun z => c3 (decide_eq_true z)]
    exact ⟨_, rfl, q _ _ (Evl.Ex.refl _) (by rw [e]; exact hD)⟩
abbrev nm_with_false_first : List Str := ["word", "second"]
theorem sc_with_false_first : FnScope nm_with_false_first ["word", "second"] (defScope s_with_false_first) := ⟨rfl, rfl, rfl, by decide +kernel, rfl, by decide +kernel, by decide +kernel⟩
theorem ok_with_false_first (T : T16 K w mg) : Ok P w K mg base 3 (gA K "with_false_first") ["word", "second"] (spBi K wF1) := by
  refine mkOk T.F_with_false_first sc_with_false_first (fun _ _ _ _ _ _ us hl => match us, hl with | [_, _], _ => rfl) (fun vs H Q E h => ?_) fun cdv A outer s H vs Q E hr h => ?_
  · obtain ⟨o, f, v, rfl, _⟩ := h
    rfl
  obtain ⟨o, f, v, rfl, hD, hF, q⟩ := h
  refine ⟨_, (pss_cons (ps_if (PW.pt (pw_or (pt_cmpR op_eq (pv 0) pe_str (nomark _)) (pw_or1 (pt_cmpR op_eq (pv 0) pe_str (nomark _))))) (pss_one (ps_ret (pe_gl T.g_FALSE))) pss_nil)
      (pss_cons (ps_if (pt_cmpR op_eq (pv 0) pe_str (nomark _)) (pss_one (ps_ret (pe_gl T.g_TRUE))) pss_nil)
      (pss_cons (ps_if (pt_cmpR op_eq (pv 0) pe_str (nomark _)) (pss_one (ps_ret (pc (ok_opposite T) (hr.mono (by omega)) T.g_opposite (pa_cons (pv 1) pa_nil)))) pss_nil)
      (pss_cons (ps_if (pt_cmpR op_eq (pv 0) pe_str (nomark _)) (pss_one (ps_ret (pc (ok_shrink_one T) (hr.mono (by omega)) T.g_shrink_one (pa_cons pe_str (pa_cons (pv 1) pa_nil))))) pss_nil)
      (pss_one (ps_ret (pv 1))))))), ?_⟩
  refine ⟨_, rfl, rfl, _, rfl, ?_⟩
  rw [show V.str "and" = V.str BO.and.s from rfl, vsB]
  refine ite2 (fun c => ?_) (fun c => ?_)
  · have e : wF1 o f = .ff := by unfold wF1; rw [if_pos (.inl (of_decide_eq_true c))]
    exact q _ _ (Evl.Ex.refl _) (by rw [e]; exact dp_ff (T.c_FALSE _))
  refine ⟨_, rfl, rfl, _, rfl, ?_⟩
  rw [show V.str "strong" = V.str BO.strong.s from rfl, vsB]
  refine ite2 (fun c2 => ?_) (fun c2 => ?_)
  · have e : wF1 o f = .ff := by unfold wF1; rw [if_pos (.inr (of_decide_eq_true c2))]
    exact q _ _ (Evl.Ex.refl _) (by rw [e]; exact dp_ff (T.c_FALSE _))
  have n1 : ¬ (o = .and ∨ o = .strong) := fun z => z.elim (fun z => c (decide_eq_true z)) fun z => c2 (decide_eq_true z)
  refine ⟨_, rfl, rfl, _, rfl, ?_⟩
  rw [show V.str "implies" = V.str BO.imp.s from rfl, vsB]
  refine ite2 (fun c3 => ?_) (fun c3 => ?_)
  · have e : wF1 o f = .tt := by unfold wF1; rw [if_neg n1, if_pos (of_decide_eq_true c3)]
    exact q _ _ (Evl.Ex.refl _) (by rw [e]; exact dp_tt (T.c_TRUE _))
  have n3 : ¬ o = .imp := fun z => c3 (decide_eq_true z)
  refine ⟨_, rfl, rfl, _, rfl, ?_⟩
  rw [show V.str "same" = V.str BO.same.s from rfl, vsB]
  refine ite2 (fun c4 => ?_) (fun c4 => ?_)
  · have e : wF1 o f = opp f := by unfold wF1; rw [if_neg n1, if_neg n3, if_pos (of_decide_eq_true c4)]
    rw [e] at q
    exact ⟨_, rfl, f, v, rfl, hD, hF, q⟩
  have n4 : ¬ o = .same := fun z => c4 (decide_eq_true z)
  refine ⟨_, rfl, rfl, _, rfl, ?_⟩
  rw [show V.str "release" = V.str BO.rel.s from rfl, vsB]
  refine ite2 (fun c5 => ?_) (fun c5 => ?_)
  · have e : wF1 o f = shr1 .alw f := by unfold wF1; rw [if_neg n1, if_neg n3, if_neg n4, if_pos (of_decide_eq_true c5)]
    rw [e] at q
    exact ⟨_, rfl, .alw, f, v, rfl, hD, hF, q⟩
  · have e : wF1 o f = f := by unfold wF1; rw [if_neg n1, if_neg n3, if_neg n4, if_neg fun z => c5 (decide_eq_true z)]
    exact ⟨_, rfl, q _ _ (Evl.Ex.refl _) (by rw [e]; exact hD)⟩
abbrev nm_with_true_second : List Str := ["word", "first"]
theorem sc_with_true_second : FnScope nm_with_true_second ["word", "first"] (defScope s_with_true_second) := ⟨rfl, rfl, rfl, by decide +kernel, rfl, by decide +kernel, by decide +kernel⟩
theorem ok_with_true_second (T : T16 K w mg) : Ok P w K mg base 1 (gA K "with_true_second") ["word", "first"] (spBi K wT2) := by
  refine mkOk T.F_with_true_second sc_with_true_second (fun _ _ _ _ _ _ us hl => match us, hl with | [_, _], _ => rfl) (fun vs H Q E h => ?_) fun cdv A outer s H vs Q E hr h => ?_
  · obtain ⟨o, f, v, rfl, _⟩ := h
    rfl
  obtain ⟨o, f, v, rfl, hD, hF, q⟩ := h
  refine ⟨_, (pss_cons (ps_if (PW.pt (pw_or (pt_cmpR op_eq (pv 0) pe_str (nomark _)) (pw_or1 (pt_cmpR op_eq (pv 0) pe_str (nomark _))))) (pss_one (ps_ret (pv 1))) pss_nil)
      (pss_cons (ps_if (pt_cmpR op_eq (pv 0) pe_str (nomark _)) (pss_one (ps_ret (pe_tup (pa_cons pe_str (pa_cons (pv 1) pa_nil))))) pss_nil)
      (pss_one (ps_ret (pe_gl T.g_TRUE))))), ?_⟩
  refine ⟨_, rfl, rfl, _, rfl, ?_⟩
  rw [show V.str "and" = V.str BO.and.s from rfl, vsB]
  refine ite2 (fun c => ?_) (fun c => ?_)
  · have e : wT2 o f = f := by unfold wT2; rw [if_pos (.inl (of_decide_eq_true c))]
    exact ⟨_, rfl, q _ _ (Evl.Ex.refl _) (by rw [e]; exact hD)⟩
  refine ⟨_, rfl, rfl, _, rfl, ?_⟩
  rw [show V.str "same" = V.str BO.same.s from rfl, vsB]
  refine ite2 (fun c2 => ?_) (fun c2 => ?_)
  · have e : wT2 o f = f := by unfold wT2; rw [if_pos (.inr (of_decide_eq_true c2))]
    exact ⟨_, rfl, q _ _ (Evl.Ex.refl _) (by rw [e]; exact hD)⟩
  have n1 : ¬ (o = .and ∨ o = .same) := fun z => z.elim (fun z => c (decide_eq_true z)) fun z => c2 (decide_eq_true z)
  refine ⟨_, rfl, rfl, _, rfl, ?_⟩
  rw [show V.str "strong" = V.str BO.strong.s from rfl, vsB]
  refine ite2 (fun c3 => ?_) (fun c3 => ?_)
  · have e : wT2 o f = .un .ev f := by unfold wT2; rw [if_neg n1, if_pos (of_decide_eq_true c3)]
    refine ⟨_, rfl, (by show 2 ≤ sizeLine; decide), fun p hp => q _ _ (Evl.Ex.new hp) ?_⟩
    rw [e]
    exact dp_un (w := .ev) upd_same (Dp.ex' hD (Evl.Ex.new hp))
  · have e : wT2 o f = .tt := by unfold wT2; rw [if_neg n1, if_neg fun z => c3 (decide_eq_true z)]
    exact q _ _ (Evl.Ex.refl _) (by rw [e]; exact dp_tt (T.c_TRUE _))
abbrev nm_with_false_second : List Str := ["word", "first"]
theorem sc_with_false_second : FnScope nm_with_false_second ["word", "first"] (defScope s_with_false_second) := ⟨rfl, rfl, rfl, by decide +kernel, rfl, by decide +kernel, by decide +kernel⟩
theorem ok_with_false_second (T : T16 K w mg) : Ok P w K mg base 1 (gA K "with_false_second") ["word", "first"] (spBi K wF2) := by
  refine mkOk T.F_with_false_second sc_with_false_second (fun _ _ _ _ _ _ us hl => match us, hl with | [_, _], _ => rfl) (fun vs H Q E h => ?_) fun cdv A outer s H vs Q E hr h => ?_
  · obtain ⟨o, f, v, rfl, _⟩ := h
    rfl
  obtain ⟨o, f, v, rfl, hD, hF, q⟩ := h
  refine ⟨_, (pss_cons (ps_if (pt_cmpR op_eq (pv 0) pe_str (nomark _)) (pss_one (ps_ret (pv 1))) pss_nil)
      (pss_cons (ps_if (PW.pt (pw_or (pt_cmpR op_eq (pv 0) pe_str (nomark _)) (pw_or1 (pt_cmpR op_eq (pv 0) pe_str (nomark _))))) (pss_one (ps_ret (pe_tup (pa_cons pe_str (pa_cons (pv 1) pa_nil))))) pss_nil)
      (pss_cons (ps_if (pt_cmpR op_eq (pv 0) pe_str (nomark _)) (pss_one (ps_ret (pe_tup (pa_cons pe_str (pa_cons (pv 1) pa_nil))))) pss_nil)
      (pss_one (ps_ret (pe_gl T.g_FALSE)))))), ?_⟩
  refine ⟨_, rfl, rfl, _, rfl, ?_⟩
  rw [show V.str "or" = V.str BO.or.s from rfl, vsB]
  refine ite2 (fun c => ?_) (fun c => ?_)
  · have e : wF2 o f = f := by unfold wF2; rw [if_pos (of_decide_eq_true c)]
    exact ⟨_, rfl, q _ _ (Evl.Ex.refl _) (by rw [e]; exact hD)⟩
  have n0 : ¬ o = .or := fun z => c (decide_eq_true z)
  have nt : ∀ p H1, Ex H H1 → H1 p = some (.tup [.str UO.not.s, v]) → wF2 o f = .un .not f → Q (.ref p) H1 := fun p H1 e1 h1 e => q _ _ e1 (by rw [e]; exact dp_un h1 (Dp.ex' hD e1))
  refine ⟨_, rfl, rfl, _, rfl, ?_⟩
  rw [show V.str "implies" = V.str BO.imp.s from rfl, vsB]
  refine ite2 (fun c2 => ?_) (fun c2 => ?_)
  · refine ⟨_, rfl, (by show 2 ≤ sizeLine; decide), fun p hp => nt p _ (Evl.Ex.new hp) upd_same ?_⟩
    unfold wF2; rw [if_neg n0, if_pos (.inl (of_decide_eq_true c2))]
  refine ⟨_, rfl, rfl, _, rfl, ?_⟩
  rw [show V.str "same" = V.str BO.same.s from rfl, vsB]
  refine ite2 (fun c3 => ?_) (fun c3 => ?_)
  · refine ⟨_, rfl, (by show 2 ≤ sizeLine; decide), fun p hp => nt p _ (Evl.Ex.new hp) upd_same ?_⟩
    unfold wF2; rw [if_neg n0, if_pos (.inr (of_decide_eq_true c3))]
  have n1 : ¬ (o = .imp ∨ o = .same) := fun z => z.elim (fun z => c2 (decide_eq_true z)) fun z => c3 (decide_eq_true z)
  refine ⟨_, rfl, rfl, _, rfl, ?_⟩
  rw [show V.str "unless" = V.str BO.unl.s from rfl, vsB]
  refine ite2 (fun c4 => ?_) (fun c4 => ?_)
  · have e : wF2 o f = .un .alw f := by unfold wF2; rw [if_neg n0, if_neg n1, if_pos (of_decide_eq_true c4)]
    refine ⟨_, rfl, (by show 2 ≤ sizeLine; decide), fun p hp => q _ _ (Evl.Ex.new hp) ?_⟩
    rw [e]
    exact dp_un (w := .alw) upd_same (Dp.ex' hD (Evl.Ex.new hp))
  · have e : wF2 o f = .ff := by unfold wF2; rw [if_neg n0, if_neg n1, if_neg fun z => c4 (decide_eq_true z)]
    exact q _ _ (Evl.Ex.refl _) (by rw [e]; exact dp_ff (T.c_FALSE _))
abbrev nm_shrink_two : List Str := ["word", "first", "second"]
theorem sc_shrink_two : FnScope nm_shrink_two ["word", "first", "second"] (defScope s_shrink_two) := ⟨rfl, rfl, rfl, by decide +kernel, rfl, by decide +kernel, by decide +kernel⟩
theorem ok_shrink_two (T : T16 K w mg) : Ok P w K mg base 4 (gA K "shrink_two") ["word", "first", "second"] (spBi2 K shr2) := by
  refine mkOk T.F_shrink_two sc_shrink_two (fun _ _ _ _ _ _ us hl => match us, hl with | [_, _, _], _ => rfl) (fun vs H Q E h => ?_) fun cdv A outer s H vs Q E hr h => ?_
  · obtain ⟨o, f, g, v, u, rfl, _⟩ := h
    rfl
  obtain ⟨o, f, g, v, u, rfl, hD, hE, hF, hG, q⟩ := h
  refine ⟨_, (pss_cons (ps_if (pt_cmpR (op_eqD hr.units) (pv 1) (pe_gl T.g_TRUE) (nomark _)) (pss_one (ps_ret (pc (ok_with_true_first T) (hr.mono (by omega)) T.g_with_true_first (pa_cons (pv 0) (pa_cons (pv 2) pa_nil))))) pss_nil)
      (pss_cons (ps_if (pt_cmpR (op_eqD hr.units) (pv 1) (pe_gl T.g_FALSE) (nomark _)) (pss_one (ps_ret (pc (ok_with_false_first T) (hr.mono (by omega)) T.g_with_false_first (pa_cons (pv 0) (pa_cons (pv 2) pa_nil))))) pss_nil)
      (pss_cons (ps_if (pt_cmpR (op_eqD hr.units) (pv 2) (pe_gl T.g_TRUE) (nomark _)) (pss_one (ps_ret (pc (ok_with_true_second T) (hr.mono (by omega)) T.g_with_true_second (pa_cons (pv 0) (pa_cons (pv 1) pa_nil))))) pss_nil)
      (pss_cons (ps_if (pt_cmpR (op_eqD hr.units) (pv 2) (pe_gl T.g_FALSE) (nomark _)) (pss_one (ps_ret (pc (ok_with_false_second T) (hr.mono (by omega)) T.g_with_false_second (pa_cons (pv 0) (pa_cons (pv 1) pa_nil))))) pss_nil)
      (pss_one (ps_ret (pe_tup (pa_cons (pv 0) (pa_cons (pv 1) (pa_cons (pv 2) pa_nil)))))))))), ?_⟩
  refine ⟨_, rfl, fD f, fD .tt, hD, dp_tt (T.c_TRUE _), hF.shp (by decide), shp_tt, _, rfl, ite2 (fun c => ?_) (fun c => ?_)⟩
  · rw [fD_eqv] at c
    have e : f = .tt := of_decide_eq_true c
    have e2 : shr2 o f g = wT1 o g := by unfold shr2; rw [if_pos e]
    rw [e2] at q
    exact ⟨_, rfl, _, rfl, o, g, u, rfl, hE, hG, q⟩
  rw [fD_eqv] at c
  have n1 : f ≠ .tt := fun e => c (decide_eq_true e)
  refine ⟨_, rfl, fD f, fD .ff, hD, dp_ff (T.c_FALSE _), hF.shp (by decide), shp_ff, _, rfl, ite2 (fun c => ?_) (fun c => ?_)⟩
  · rw [fD_eqv] at c
    have e : f = .ff := of_decide_eq_true c
    have e2 : shr2 o f g = wF1 o g := by unfold shr2; rw [if_neg n1, if_pos e]
    rw [e2] at q
    exact ⟨_, rfl, _, rfl, o, g, u, rfl, hE, hG, q⟩
  rw [fD_eqv] at c
  have n2 : f ≠ .ff := fun e => c (decide_eq_true e)
  refine ⟨_, rfl, fD g, fD .tt, hE, dp_tt (T.c_TRUE _), hG.shp (by decide), shp_tt, _, rfl, ite2 (fun c => ?_) (fun c => ?_)⟩
  · rw [fD_eqv] at c
    have e : g = .tt := of_decide_eq_true c
    have e2 : shr2 o f g = wT2 o f := by unfold shr2; rw [if_neg n1, if_neg n2, if_pos e]
    rw [e2] at q
    exact ⟨_, rfl, _, rfl, o, f, v, rfl, hD, hF, q⟩
  rw [fD_eqv] at c
  have n3 : g ≠ .tt := fun e => c (decide_eq_true e)
  refine ⟨_, rfl, fD g, fD .ff, hE, dp_ff (T.c_FALSE _), hG.shp (by decide), shp_ff, _, rfl, ite2 (fun c => ?_) (fun c => ?_)⟩
  · rw [fD_eqv] at c
    have e : g = .ff := of_decide_eq_true c
    have e2 : shr2 o f g = wF2 o f := by unfold shr2; rw [if_neg n1, if_neg n2, if_neg n3, if_pos e]
    rw [e2] at q
    exact ⟨_, rfl, _, rfl, o, f, v, rfl, hD, hF, q⟩
  rw [fD_eqv] at c
  have n4 : g ≠ .ff := fun e => c (decide_eq_true e)
  have e : shr2 o f g = .bin o f g := by unfold shr2; rw [if_neg n1, if_neg n2, if_neg n3, if_neg n4]
  refine ⟨_, rfl, _, rfl, _, rfl, (by show 3 ≤ sizeLine; decide), fun p hp => q _ _ (Evl.Ex.new hp) ?_⟩
  rw [e]
  exact dp_bin upd_same (Dp.ex' hD (Evl.Ex.new hp)) (Dp.ex' hE (Evl.Ex.new hp))
end
end W16
set_option Elab.async false
set_option linter.all false
set_option maxRecDepth 100000
set_option maxHeartbeats 4000000
namespace W16
open PySem PySem.Spec PyProof.Rows L2
open Evl (Ex)
def FG.isCmp : FG → Bool
  | .c _ => true
  | _ => false
theorem inV_cmp (g : FG) : inV (V.str g.s) [.str "equal", .str "below", .str "upto"] = g.isCmp := by
  cases g with
  | tt => decide +kernel
  | ff => decide +kernel
  | c o => cases o <;> decide +kernel
  | u o => cases o <;> decide +kernel
  | b o => cases o <;> decide +kernel
def spShr (K : PySem.W.Frag) (n : Nat) : Sp := fun vs H Q _ => ∃ f v, vs = [v] ∧ DF K H v f ∧ Fit 62 f ∧ f.dep ≤ n ∧ RetF K (shr f) H Q
theorem ok_opp (f : Fm) : (opp f).ok = f.ok := by
  unfold opp
  split
  · rename_i h; rw [h]; rfl
  · split
    · rename_i h; rw [h]; rfl
    · rfl
theorem ok_shr1 (w : UO) (f : Fm) : (shr1 w f).ok = f.ok := by
  unfold shr1
  split
  · exact ok_opp f
  · split <;> rfl
theorem ok_shr2 {w : BO} {f g : Fm} (h1 : f.ok = true) (h2 : g.ok = true) : (shr2 w f g).ok = true := by
  have h3 := ok_shr1 .ev g
  have h4 := ok_shr1 .alw g
  have h5 := ok_opp g
  unfold shr2
  split
  · unfold wT1
    repeat' split
    all_goals first | rfl | (rw [h3]; exact h2) | exact h2
  · split
    · unfold wF1
      repeat' split
      all_goals first | rfl | (rw [h5]; exact h2) | (rw [h4]; exact h2) | exact h2
    · split
      · unfold wT2
        repeat' split
        all_goals first | rfl | exact h1
      · split
        · unfold wF2
          repeat' split
          all_goals first | rfl | exact h1
        · simp only [Fm.ok, h1, h2]
          rfl
theorem ok_shr : ∀ {f : Fm}, f.ok = true → (shr f).ok = true := by
  intro f
  induction f with
  | tt => exact fun _ => rfl
  | ff => exact fun _ => rfl
  | cmp c => exact fun h => h
  | un w f ih => exact fun h => (ok_shr1 w (shr f)).trans (ih h)
  | bin w f g ihf ihg =>
    intro h
    simp only [Fm.ok, Bool.and_eq_true] at h
    exact ok_shr2 (ihf h.1) (ihg h.2)
theorem Fit.shr {d : Nat} {f : Fm} (h : Fit d f) : Fit d (W16.shr f) := ⟨ok_shr h.ok, Nat.le_trans (dep_shr f) h.dep⟩
theorem Fit.un {d : Nat} {o : UO} {f : Fm} (h : Fit d (.un o f)) : Fit d f := ⟨h.ok, Nat.le_trans (Nat.le_succ _) h.dep⟩
theorem Fit.bin {d : Nat} {o : BO} {f g : Fm} (h : Fit d (.bin o f g)) : Fit d f ∧ Fit d g := by
  have h1 := h.ok
  have h2 := h.dep
  simp only [Fm.ok, Bool.and_eq_true] at h1
  simp only [Fm.dep] at h2
  exact ⟨⟨h1.1, by omega⟩, h1.2, by omega⟩
theorem dep_un {o : UO} {f : Fm} {n : Nat} (h : (Fm.un o f).dep ≤ n + 1) : f.dep ≤ n := by simp only [Fm.dep] at h; omega
theorem dep_bin {o : BO} {f g : Fm} {n : Nat} (h : (Fm.bin o f g).dep ≤ n + 1) : f.dep ≤ n ∧ g.dep ≤ n := by simp only [Fm.dep] at h; omega
section
variable {P : Program} {w : World} {K : PySem.W.Frag} {mg : Str → Option Value} {base : Heap}
abbrev nm_shrink : List Str := ["formula", "word"]
theorem sc_shrink : FnScope nm_shrink ["formula"] (defScope s_shrink) := ⟨rfl, rfl, rfl, by decide +kernel, rfl, by decide +kernel, by decide +kernel⟩
theorem ok_shrink (T : T16 K w mg) : ∀ n, Ok P w K mg base (n + 5) (gA K "shrink") ["formula"] (spShr K n)
  | 0 => (no_ok T.F_shrink (fun _ _ _ _ _ _ us hl => match us, hl with | [_], _ => rfl) (fun vs H Q E h => by
      obtain ⟨f, v, _, _, _, h, _⟩ := h
      have := dep_pos f
      omega)).mono (Nat.zero_le _)
  | n + 1 => by
    have ih : Ok P w K mg base (n + 5) (gA K "shrink") ["formula"] (spShr K n) := ok_shrink T n
    refine mkOk T.F_shrink sc_shrink (fun _ _ _ _ _ _ us hl => match us, hl with | [_], _ => rfl) (fun vs H Q E h => ?_) fun cdv A outer s H vs Q E hr h => ?_
    · obtain ⟨f, v, rfl, _⟩ := h
      rfl
    obtain ⟨f, v, rfl, hD, hF, hn, q⟩ := h
    obtain ⟨a, xs, rfl, hS, hA⟩ := DF.out hD
    refine ⟨_, (pss_cons (ps_set (i := 1) sc_shrink.nd rfl (.inl rfl) (pe_ix ix_tup (pv 0) pe_int (fun _ _ => rfl)))
      (pss_cons (ps_if (PW.pt (pw_or (pt_cmpR op_in_seq (pv 1) (pe_gl T.g_COMPARISONS_shrink) (by rfl)) (pw_or1 (pt_val (pc (ok_is_constant T) (hr.mono (by omega)) T.g_is_constant (pa_cons (pv 0) pa_nil)))))) (pss_one (ps_ret (pv 0))) pss_nil)
      (pss_cons (ps_if (pt_cmpR op_eq (pe_callB call_len (by rfl) T.z_len (by decide +kernel) (pa_cons (pv 0) pa_nil)) pe_int (nomark _)) (pss_one (ps_ret (pc (ok_shrink_one T) (hr.mono (by omega)) T.g_shrink_one (pa_cons (pv 1) (pa_cons (pc ih (hr.mono (by omega)) T.g_shrink (pa_cons (pe_ix ix_tup (pv 0) pe_int (fun _ _ => rfl)) pa_nil)) pa_nil))))) pss_nil)
      (pss_one (ps_ret (pc (ok_shrink_two T) (hr.mono (by omega)) T.g_shrink_two (pa_cons (pv 1) (pa_cons (pc ih (hr.mono (by omega)) T.g_shrink (pa_cons (pe_ix ix_tup (pv 0) pe_int (fun _ _ => rfl)) pa_nil)) (pa_cons (pc ih (hr.mono (by omega)) T.g_shrink (pa_cons (pe_ix ix_tup (pv 0) pe_int (fun _ _ => rfl)) pa_nil)) pa_nil))))))))), ?_⟩
    refine ⟨_, rfl, a, _, 0, _, rfl, rfl, hS, atI_nat (j := 0) rfl, ?_⟩
    refine ⟨_, rfl, _, _, rfl, .inr (T.c_COMPARISONS_shrink _), rfl, rfl, _, rfl, ?_⟩
    show if inV (V.str f.tag.s) [.str "equal", .str "below", .str "upto"] = true then _ else _
    rw [inV_cmp]
    have done : shr f = f → Q (.ref a) H := fun e => q _ _ (Evl.Ex.refl _) (by rw [e]; exact hD)
    have con : isC f = true → _ := fun z => z
    refine ite2 (fun c => ?_) (fun c => ?_)
    · refine ⟨_, rfl, done ?_⟩
      cases f <;> first | rfl | (exact absurd c Bool.false_ne_true)
    refine ⟨_, rfl, f, _, rfl, hD, _, rfl, ite2 (fun c2 => ?_) (fun c2 => ?_)⟩
    · refine ⟨_, rfl, done ?_⟩
      rcases (of_decide_eq_true c2 : f = .tt ∨ f = .ff) with e | e <;> rw [e] <;> rfl
    cases f with
    | tt => exact absurd rfl c2
    | ff => exact absurd rfl c2
    | cmp k => exact absurd rfl c
    | un o f =>
      obtain ⟨x, rfl, hx⟩ := DpAll.one hA
      refine ⟨_, rfl, _, 2, rfl, .inr ⟨_, hS, rfl⟩, rfl, _, rfl, ite2 (fun c3 => ?_) (fun c3 => absurd (decide_eq_true rfl) c3)⟩
      refine ⟨_, rfl, _, rfl, a, _, 1, _, rfl, rfl, hS, atI_nat (j := 1) rfl, f, x, rfl, hx, hF.un, dep_un hn, fun y H1 e1 hy => ?_⟩
      exact ⟨o, W16.shr f, y, rfl, hy, hF.un.shr, fun v' H' e' h' => q v' H' (e1.trans e') h'⟩
    | bin o f g =>
      obtain ⟨x, y, rfl, hx, hy⟩ := DpAll.two hA
      refine ⟨_, rfl, _, 3, rfl, .inr ⟨_, hS, rfl⟩, rfl, _, rfl, ite2 (fun c3 => absurd (V.int.inj (of_decide_eq_true c3)) (by decide)) (fun c3 => ?_)⟩
      refine ⟨_, rfl, _, rfl, a, _, 1, _, rfl, rfl, hS, atI_nat (j := 1) rfl, f, x, rfl, hx, hF.bin.1, (dep_bin hn).1, fun x1 H1 e1 hx1 => ?_⟩
      refine ⟨_, rfl, a, _, 2, _, rfl, rfl, Evl.ex_t e1 hS, atI_nat (j := 2) rfl, g, y, rfl, Dp.ex' hy e1, hF.bin.2, (dep_bin hn).2, fun y1 H2 e2 hy1 => ?_⟩
      exact ⟨o, W16.shr f, W16.shr g, x1, y1, rfl, Dp.ex' hx1 e2, hy1, hF.bin.1.shr, hF.bin.2.shr, fun v' H' e' h' => q v' H' ((e1.trans e2).trans e') h'⟩
/-! ### positive, negated -/
def spPN (K : PySem.W.Frag) (F : Fm → Fm) (n : Nat) : Sp := fun vs H Q _ => ∃ f v, vs = [v] ∧ DF K H v f ∧ f.dep ≤ n ∧ RetF K (F f) H Q
theorem dual_u {o : UO} (h : o ≠ .not) : (o.s, He.Dv.str o.dual.s) ∈ dualVals := by
  cases o with
  | not => exact absurd rfl h
  | next => exact List.mem_of_getElem? (i := 2) rfl
  | ev => exact List.mem_of_getElem? (i := 3) rfl
  | alw => exact List.mem_of_getElem? (i := 4) rfl
theorem dual_b {o : BO} (h1 : o ≠ .imp) (h2 : o ≠ .same) : (o.s, He.Dv.str o.dual.s) ∈ dualVals := by
  cases o with
  | imp => exact absurd rfl h1
  | same => exact absurd rfl h2
  | and => exact List.mem_of_getElem? (i := 0) rfl
  | or => exact List.mem_of_getElem? (i := 1) rfl
  | til => exact List.mem_of_getElem? (i := 5) rfl
  | rel => exact List.mem_of_getElem? (i := 6) rfl
  | unl => exact List.mem_of_getElem? (i := 7) rfl
  | strong => exact List.mem_of_getElem? (i := 8) rfl
theorem dual_d (T : T16 K w mg) {x y : Str} (h : (x, He.Dv.str y) ∈ dualVals) : KDct K w (gA K "DUAL") x (.str y) := by
  obtain ⟨u, h1, h2⟩ := T.dual _ h
  exact ⟨_, _, u, T.kd.at_, T.kd.lit, h1, h2⟩
/-- f(part) for each part of a tuple, behind its word -/
theorem parts_gv {n : Nat} {F : Fm → Fm} {sp : Sp} (hsp : ∀ (v : V) (H : Hp) (Q : VK) (E : XK) (f : Fm), DF K H v f → f.dep ≤ n → RetF K (F f) H Q → sp [v] H Q E)
    {σ : L2.St} {H : Hp} {a : Addr} {s : Str} {xs : List V} {fs : List Fm} (h0 : σ[0]? = some (some (.ref a))) (hS : SqT K H a (.str s :: xs)) (hA : DpAll K H xs (fs.map fD)) (hn : ∀ f ∈ fs, f.dep ≤ n) (hz : fs.length ≤ 2)
    (hw : ∀ x, wipe ((wipe σ [2]).set 2 (some x)) [2] = wipe σ [2]) (h2 : ∀ x, ((wipe σ [2]).set 2 (some x))[2]? = some (some x)) {Qv : VK}
    (hd : ∀ D H' ys, Ex H H' → H' D = some (.lst ys) → DpAll K H' ys (fs.map fun f => fD (F f)) → Qv (.ref D) H') :
    tLc (iTup K (tSl (rSlA K) (tVar 0) (tPart (tC (.int 1))) tNoPart)) (gName 2) tYes (tCall sp [] E0 (tCons (tVar 2) tNil)) [2] σ H Qv := by
  have hl : xs.length = fs.length := by rw [dpa_len hA, List.length_map]
  refine ⟨_, h0, 1, rfl, a, _, rfl, hS, fun hq => absurd hq.1 ?_, fun _ p hp => ⟨p, rfl, ⟨_, SqT.of upd_same⟩, ?_⟩⟩
  · rw [show HT.sIx (V.str s :: xs).length 0 (some 1) = min 1 (V.str s :: xs).length from HT.sIx_nat _ 0 1, List.length_cons]
    omega
  have ec : cutV (.str s :: xs) (some 1) none = xs := by
    unfold cutV
    rw [show HT.sIx (V.str s :: xs).length 0 (some 1) = min 1 (V.str s :: xs).length from HT.sIx_nat _ 0 1, HT.sIx_none, List.length_cons, Nat.min_eq_left (by omega)]
    show xs.take (xs.length + 1 - 1) = xs
    rw [Nat.add_sub_cancel, List.take_length]
  rw [ec]
  have ex0 : Ex H (upd H p (.tup xs)) := Evl.Ex.new hp
  refine lcN (n := xs.length) (walk_tup (K := K) (a := p) (xs := xs)) (fun i y H' => ∀ f, fs[i]? = some f → DF K H' y (F f)) (fun i y H1 H2 e h f hf => (h f hf).nex e) (fun H' e => Evl.ex_t e (SqT.of upd_same)) (by omega) hw (fun i x H1 H2 hi e1 hy => ?_) (fun D H' ys hD e1 h1 h2 h3 => ?_)
  · obtain ⟨rfl, hx⟩ := hy
    refine ⟨Evl.Ex.refl _, fun Q hQ => ?_⟩
    obtain ⟨d, hd1, hd2⟩ := dpa_get hA hx
    obtain ⟨f, hf, rfl⟩ : ∃ f, fs[i]? = some f ∧ fD f = d := by
      rw [List.getElem?_map] at hd1
      cases q : fs[i]? with
      | none => rw [q] at hd1; cases hd1
      | some f => rw [q] at hd1; exact ⟨f, rfl, Option.some.inj hd1⟩
    refine ⟨_, h2 x, hsp x _ _ _ f (Dp.ex' hd2 (ex0.trans e1)) (hn f (List.mem_of_getElem? hf)) fun v' H' e' h' => hQ v' H' e' fun g hg => ?_⟩
    rw [hf] at hg
    rw [← Option.some.inj hg]
    exact h'
  · refine hd D H' ys (ex0.trans e1) h1 ?_
    have go : ∀ (fs : List Fm) (ys : List V), ys.length = fs.length → (∀ (i : Nat) (y : V), ys[i]? = some y → ∀ f, fs[i]? = some f → DF K H' y (F f)) → DpAll K H' ys (fs.map fun f => fD (F f)) := by
      intro fs
      induction fs with
      | nil => intro ys hl _; cases ys with
        | nil => exact .nil
        | cons y ys => simp at hl
      | cons f fs ih => intro ys hl h; cases ys with
        | nil => simp at hl
        | cons y ys => exact .cons (h 0 y rfl f rfl) (ih ys (by simpa using hl) fun i y hy f hf => h (i + 1) y hy f hf)
    exact go fs ys (by omega) h3
theorem tag_tt {f : Fm} (h : f.tag = .tt) : f = .tt := by cases f <;> first | rfl | (cases h; done)
theorem tag_ff {f : Fm} (h : f.tag = .ff) : f = .ff := by cases f <;> first | rfl | (cases h; done)
theorem tag_c {f : Fm} {o : CO} (h : f.tag = .c o) : ∃ t u, f = .cmp ⟨o, t, u⟩ := by
  cases f <;> first | (cases h; done) | skip
  rename_i c
  have e : FG.c c.o = FG.c o := h
  injection e with e
  exact ⟨c.t, c.u, by rw [← e]⟩
theorem tag_u {f : Fm} {o : UO} (h : f.tag = .u o) : ∃ g, f = .un o g := by
  cases f <;> first | (cases h; done) | skip
  rename_i o' g
  have e : FG.u o' = FG.u o := h
  injection e with e
  exact ⟨g, by rw [e]⟩
theorem tag_b {f : Fm} {o : BO} (h : f.tag = .b o) : ∃ g k, f = .bin o g k := by
  cases f <;> first | (cases h; done) | skip
  rename_i o' g k
  have e : FG.b o' = FG.b o := h
  injection e with e
  exact ⟨g, k, by rw [e]⟩
theorem ng_un {o : UO} (h : o ≠ .not) (g : Fm) : ng (.un o g) = .un o.dual (ng g) := by
  cases o <;> first | rfl | exact absurd rfl h
theorem ng_bin {o : BO} (h1 : o ≠ .imp) (h2 : o ≠ .same) (g k : Fm) : ng (.bin o g k) = .bin o.dual (ng g) (ng k) := by
  cases o <;> first | rfl | exact absurd rfl h1 | exact absurd rfl h2
theorem ps_un {o : UO} (h : o ≠ .not) (g : Fm) : ps (.un o g) = .un o (ps g) := by
  cases o <;> first | rfl | exact absurd rfl h
theorem ps_bin {o : BO} (h1 : o ≠ .imp) (g k : Fm) : ps (.bin o g k) = .bin o (ps g) (ps k) := by
  cases o <;> first | rfl | exact absurd rfl h1
abbrev nm_negated : List Str := ["formula", "word", "part"]
theorem sc_negated : FnScope nm_negated ["formula"] (defScope s_negated) := ⟨rfl, rfl, rfl, by decide +kernel, rfl, by decide +kernel, by decide +kernel⟩
abbrev nm_positive : List Str := ["formula", "word", "part"]
theorem sc_positive : FnScope nm_positive ["formula"] (defScope s_positive) := ⟨rfl, rfl, rfl, by decide +kernel, rfl, by decide +kernel, by decide +kernel⟩
theorem ok_posneg (T : T16 K w mg) : ∀ n, Ok P w K mg base n (gA K "negated") ["formula"] (spPN K ng n) ∧ Ok P w K mg base n (gA K "positive") ["formula"] (spPN K ps n)
  | 0 => by
    have no : ∀ F vs H Q E, ¬ spPN K F 0 vs H Q E := fun F vs H Q E h => by
      obtain ⟨f, v, _, _, h, _⟩ := h
      have := dep_pos f
      omega
    exact ⟨no_ok T.F_negated (fun _ _ _ _ _ _ us hl => match us, hl with | [_], _ => rfl) (no ng), no_ok T.F_positive (fun _ _ _ _ _ _ us hl => match us, hl with | [_], _ => rfl) (no ps)⟩
  | n + 1 => by
    obtain ⟨ih, ih2⟩ : Ok P w K mg base n (gA K "negated") ["formula"] (spPN K ng n) ∧ Ok P w K mg base n (gA K "positive") ["formula"] (spPN K ps n) := ok_posneg T n
    have sN : ∀ (v : V) (H : Hp) (Q : VK) (E : XK) (f : Fm), DF K H v f → f.dep ≤ n → RetF K (ng f) H Q → spPN K ng n [v] H Q E := fun v H Q E f h1 h2 h3 => ⟨f, v, rfl, h1, h2, h3⟩
    have sP : ∀ (v : V) (H : Hp) (Q : VK) (E : XK) (f : Fm), DF K H v f → f.dep ≤ n → RetF K (ps f) H Q → spPN K ps n [v] H Q E := fun v H Q E f h1 h2 h3 => ⟨f, v, rfl, h1, h2, h3⟩
    constructor
    · refine mkOk T.F_negated sc_negated (fun _ _ _ _ _ _ us hl => match us, hl with | [_], _ => rfl) (fun vs H Q E h => ?_) fun cdv A outer s H vs Q E hr h => ?_
      · obtain ⟨f, v, rfl, _⟩ := h
        rfl
      obtain ⟨f, v, rfl, hD, hn, q⟩ := h
      obtain ⟨a, xs, rfl, hS, hA⟩ := DF.out hD
      refine ⟨_, (pss_cons (ps_set (i := 1) sc_negated.nd rfl (.inl rfl) (pe_ix ix_tup (pv 0) pe_int (fun _ _ => rfl)))
      (pss_cons (ps_if (pt_cmpR op_eq (pv 1) pe_str (nomark _)) (pss_one (ps_ret (pe_tup (pa_cons pe_str pa_nil)))) pss_nil)
      (pss_cons (ps_if (pt_cmpR op_eq (pv 1) pe_str (nomark _)) (pss_one (ps_ret (pe_tup (pa_cons pe_str pa_nil)))) pss_nil)
      (pss_cons (ps_if (pt_cmpR op_eq (pv 1) pe_str (nomark _)) (pss_one (ps_ret (pe_tup (pa_cons pe_str (pa_cons (pv 0) pa_nil))))) pss_nil)
      (pss_cons (ps_if (pt_cmpR op_eq (pv 1) pe_str (nomark _)) (pss_one (ps_ret (pe_tup (pa_cons pe_str (pa_cons (pe_ix ix_tup (pv 0) pe_int (fun _ _ => rfl)) (pa_cons (pe_ix ix_tup (pv 0) pe_int (fun _ _ => rfl)) pa_nil)))))) pss_nil)
      (pss_cons (ps_if (pt_cmpR op_eq (pv 1) pe_str (nomark _)) (pss_one (ps_ret (pe_tup (pa_cons pe_str (pa_cons (pe_ix ix_tup (pv 0) pe_int (fun _ _ => rfl)) (pa_cons (pe_ix ix_tup (pv 0) pe_int (fun _ _ => rfl)) pa_nil)))))) pss_nil)
      (pss_cons (ps_if (pt_cmpR op_eq (pv 1) pe_str (nomark _)) (pss_one (ps_ret (pc ih2 (hr.mono (by omega)) T.g_positive (pa_cons (pe_ix ix_tup (pv 0) pe_int (fun _ _ => rfl)) pa_nil)))) pss_nil)
      (pss_cons (ps_if (pt_cmpR op_eq (pv 1) pe_str (nomark _)) (pss_one (ps_ret (pe_tup (pa_cons pe_str (pa_cons (pc ih2 (hr.mono (by omega)) T.g_positive (pa_cons (pe_ix ix_tup (pv 0) pe_int (fun _ _ => rfl)) pa_nil)) (pa_cons (pc ih (hr.mono (by omega)) T.g_negated (pa_cons (pe_ix ix_tup (pv 0) pe_int (fun _ _ => rfl)) pa_nil)) pa_nil)))))) pss_nil)
      (pss_cons (ps_if (pt_cmpR op_eq (pv 1) pe_str (nomark _)) (pss_one (ps_ret (pe_tup (pa_cons pe_str (pa_cons (pc ih (hr.mono (by omega)) T.g_negated (pa_cons (pe_ix ix_tup (pv 0) pe_int (fun _ _ => rfl)) pa_nil)) (pa_cons (pc ih2 (hr.mono (by omega)) T.g_positive (pa_cons (pe_ix ix_tup (pv 0) pe_int (fun _ _ => rfl)) pa_nil)) pa_nil)))))) pss_nil)
      (pss_one (ps_ret (pe_tup (pa_cons (pe_ix ix_kdict (pe_gl T.g_DUAL) (pv 1) (fun _ _ => rfl)) (StX.pa_star (pe_lc (own := [("part", 2)]) rfl sc_negated.nd (pi_tup (pe_slice sl_tupA (pv 0) (po_some pe_int) po_none)) (blkOk_by (own := [("part", 2)]) (N := nm_negated) (sc := defScope s_negated) (by decide +kernel)) (fun _ _ _ _ _ => (pg_name (i := 2) sc_negated.nd rfl (.inl rfl))) (fun _ _ _ _ _ => pts_nil) (fun _ _ _ _ _ => (pc ih (hr.mono (by omega)) T.g_negated (pa_cons (pv 2) pa_nil)))) pa_nil)))))))))))))), ?_⟩
      refine ⟨_, rfl, a, _, 0, _, rfl, rfl, hS, atI_nat (j := 0) rfl, ?_⟩
      refine ⟨_, rfl, rfl, _, rfl, ?_⟩
      rw [show V.str "true" = V.str FG.tt.s from rfl, vsF]
      refine ite2 (fun c => ?_) (fun c1 => ?_)
      · obtain rfl := tag_tt (of_decide_eq_true c)
        exact ⟨(by show 1 ≤ sizeLine; decide), fun p hp => q _ _ (Evl.Ex.new hp) (dp_ff (SqT.of upd_same))⟩
      refine ⟨_, rfl, rfl, _, rfl, ?_⟩
      rw [show V.str "false" = V.str FG.ff.s from rfl, vsF]
      refine ite2 (fun c => ?_) (fun c2 => ?_)
      · obtain rfl := tag_ff (of_decide_eq_true c)
        exact ⟨(by show 1 ≤ sizeLine; decide), fun p hp => q _ _ (Evl.Ex.new hp) (dp_tt (SqT.of upd_same))⟩
      refine ⟨_, rfl, rfl, _, rfl, ?_⟩
      rw [show V.str "equal" = V.str (FG.c .eq).s from rfl, vsF]
      refine ite2 (fun c => ?_) (fun c3 => ?_)
      · obtain ⟨t, u, rfl⟩ := tag_c (of_decide_eq_true c)
        exact ⟨_, rfl, (by show 2 ≤ sizeLine; decide), fun p hp => q _ _ (Evl.Ex.new hp) (dp_un (w := .not) upd_same (Dp.ex' hD (Evl.Ex.new hp)))⟩
      refine ⟨_, rfl, rfl, _, rfl, ?_⟩
      rw [show V.str "below" = V.str (FG.c .below).s from rfl, vsF]
      refine ite2 (fun c => ?_) (fun c4 => ?_)
      · obtain ⟨t, u, rfl⟩ := tag_c (of_decide_eq_true c)
        obtain ⟨x, y, rfl, hx, hy⟩ := DpAll.two hA
        exact ⟨_, rfl, a, _, 2, _, rfl, rfl, hS, atI_nat (j := 2) rfl, _, rfl, a, _, 1, _, rfl, rfl, hS, atI_nat (j := 1) rfl, (by show 3 ≤ sizeLine; decide), fun p hp => q _ _ (Evl.Ex.new hp) (dp_cmp (o := .upto) upd_same (Dp.ex' hy (Evl.Ex.new hp)) (Dp.ex' hx (Evl.Ex.new hp)))⟩
      refine ⟨_, rfl, rfl, _, rfl, ?_⟩
      rw [show V.str "upto" = V.str (FG.c .upto).s from rfl, vsF]
      refine ite2 (fun c => ?_) (fun c5 => ?_)
      · obtain ⟨t, u, rfl⟩ := tag_c (of_decide_eq_true c)
        obtain ⟨x, y, rfl, hx, hy⟩ := DpAll.two hA
        exact ⟨_, rfl, a, _, 2, _, rfl, rfl, hS, atI_nat (j := 2) rfl, _, rfl, a, _, 1, _, rfl, rfl, hS, atI_nat (j := 1) rfl, (by show 3 ≤ sizeLine; decide), fun p hp => q _ _ (Evl.Ex.new hp) (dp_cmp (o := .below) upd_same (Dp.ex' hy (Evl.Ex.new hp)) (Dp.ex' hx (Evl.Ex.new hp)))⟩
      refine ⟨_, rfl, rfl, _, rfl, ?_⟩
      rw [show V.str "not" = V.str (FG.u .not).s from rfl, vsF]
      refine ite2 (fun c => ?_) (fun c6 => ?_)
      · obtain ⟨g, rfl⟩ := tag_u (of_decide_eq_true c)
        obtain ⟨x, rfl, hx⟩ := DpAll.one hA
        exact ⟨_, rfl, a, _, 1, _, rfl, rfl, hS, atI_nat (j := 1) rfl, sP _ _ _ E0 g hx (dep_un hn) q⟩
      refine ⟨_, rfl, rfl, _, rfl, ?_⟩
      rw [show V.str "implies" = V.str (FG.b .imp).s from rfl, vsF]
      refine ite2 (fun c => ?_) (fun c7 => ?_)
      · obtain ⟨g, k, rfl⟩ := tag_b (of_decide_eq_true c)
        obtain ⟨x, y, rfl, hx, hy⟩ := DpAll.two hA
        refine ⟨_, rfl, a, _, 1, _, rfl, rfl, hS, atI_nat (j := 1) rfl, sP _ _ _ E0 g hx (dep_bin hn).1 fun x1 H1 e1 hx1 => ?_⟩
        refine ⟨_, rfl, a, _, 2, _, rfl, rfl, Evl.ex_t e1 hS, atI_nat (j := 2) rfl, sN _ _ _ E0 k (Dp.ex' hy e1) (dep_bin hn).2 fun y1 H2 e2 hy1 => ?_⟩
        exact ⟨(by show 3 ≤ sizeLine; decide), fun p hp => q _ _ ((e1.trans e2).trans (Evl.Ex.new hp)) (dp_bin (w := .and) upd_same (Dp.ex' hx1 (e2.trans (Evl.Ex.new hp))) (Dp.ex' hy1 (Evl.Ex.new hp)))⟩
      refine ⟨_, rfl, rfl, _, rfl, ?_⟩
      rw [show V.str "same" = V.str (FG.b .same).s from rfl, vsF]
      refine ite2 (fun c => ?_) (fun c8 => ?_)
      · obtain ⟨g, k, rfl⟩ := tag_b (of_decide_eq_true c)
        obtain ⟨x, y, rfl, hx, hy⟩ := DpAll.two hA
        refine ⟨_, rfl, a, _, 1, _, rfl, rfl, hS, atI_nat (j := 1) rfl, sN _ _ _ E0 g hx (dep_bin hn).1 fun x1 H1 e1 hx1 => ?_⟩
        refine ⟨_, rfl, a, _, 2, _, rfl, rfl, Evl.ex_t e1 hS, atI_nat (j := 2) rfl, sP _ _ _ E0 k (Dp.ex' hy e1) (dep_bin hn).2 fun y1 H2 e2 hy1 => ?_⟩
        exact ⟨(by show 3 ≤ sizeLine; decide), fun p hp => q _ _ ((e1.trans e2).trans (Evl.Ex.new hp)) (dp_bin (w := .same) upd_same (Dp.ex' hx1 (e2.trans (Evl.Ex.new hp))) (Dp.ex' hy1 (Evl.Ex.new hp)))⟩
      cases f with
      | tt => exact absurd rfl c1
      | ff => exact absurd rfl c2
      | cmp k =>
        obtain ⟨o, t, u⟩ := k
        cases o
        · exact absurd rfl c3
        · exact absurd rfl c4
        · exact absurd rfl c5
      | un o g =>
        have n1 : o ≠ .not := fun e => c6 (by rw [e]; rfl)
        refine ⟨_, rfl, _, _, _, rfl, rfl, dual_d T (dual_u n1), parts_gv (fs := [g]) sN rfl hS hA (fun f hf => ?_) (Nat.le_succ _) (fun _ => rfl) (fun _ => rfl) fun D H' ys e1 h1 h2 => ?_⟩
        · rw [List.mem_singleton.mp hf]; exact dep_un hn
        obtain ⟨y, rfl, hy⟩ := DpAll.one h2
        refine ⟨D, _, rfl, .inr (SqL.of h1), (by show 2 ≤ sizeLine; decide), fun p hp => q _ _ (e1.trans (Evl.Ex.new hp)) ?_⟩
        rw [ng_un n1]
        exact dp_un upd_same (Dp.ex' hy (Evl.Ex.new hp))
      | bin o g k =>
        have n1 : o ≠ .imp := fun e => c7 (by rw [e]; rfl)
        have n2 : o ≠ .same := fun e => c8 (by rw [e]; rfl)
        refine ⟨_, rfl, _, _, _, rfl, rfl, dual_d T (dual_b n1 n2), parts_gv (fs := [g, k]) sN rfl hS hA (fun f hf => ?_) (Nat.le_refl _) (fun _ => rfl) (fun _ => rfl) fun D H' ys e1 h1 h2 => ?_⟩
        · rcases List.mem_cons.mp hf with e | e
          · rw [e]; exact (dep_bin hn).1
          · rw [List.mem_singleton.mp e]; exact (dep_bin hn).2
        obtain ⟨y, z, rfl, hy, hz⟩ := DpAll.two h2
        refine ⟨D, _, rfl, .inr (SqL.of h1), (by show 3 ≤ sizeLine; decide), fun p hp => q _ _ (e1.trans (Evl.Ex.new hp)) ?_⟩
        rw [ng_bin n1 n2]
        exact dp_bin upd_same (Dp.ex' hy (Evl.Ex.new hp)) (Dp.ex' hz (Evl.Ex.new hp))
    · refine mkOk T.F_positive sc_positive (fun _ _ _ _ _ _ us hl => match us, hl with | [_], _ => rfl) (fun vs H Q E h => ?_) fun cdv A outer s H vs Q E hr h => ?_
      · obtain ⟨f, v, rfl, _⟩ := h
        rfl
      obtain ⟨f, v, rfl, hD, hn, q⟩ := h
      obtain ⟨a, xs, rfl, hS, hA⟩ := DF.out hD
      refine ⟨_, (pss_cons (ps_set (i := 1) sc_positive.nd rfl (.inl rfl) (pe_ix ix_tup (pv 0) pe_int (fun _ _ => rfl)))
      (pss_cons (ps_if (pt_cmpR op_eq (pv 1) pe_str (nomark _)) (pss_one (ps_ret (pc ih (hr.mono (by omega)) T.g_negated (pa_cons (pe_ix ix_tup (pv 0) pe_int (fun _ _ => rfl)) pa_nil)))) pss_nil)
      (pss_cons (ps_if (pt_cmpR op_eq (pv 1) pe_str (nomark _)) (pss_one (ps_ret (pe_tup (pa_cons pe_str (pa_cons (pc ih (hr.mono (by omega)) T.g_negated (pa_cons (pe_ix ix_tup (pv 0) pe_int (fun _ _ => rfl)) pa_nil)) (pa_cons (pc ih2 (hr.mono (by omega)) T.g_positive (pa_cons (pe_ix ix_tup (pv 0) pe_int (fun _ _ => rfl)) pa_nil)) pa_nil)))))) pss_nil)
      (pss_cons (ps_if (PW.pt (pw_or (pt_cmpR (op_in_kd T.kd) (pv 1) (pe_gl T.g_DUAL) (by rfl)) (pw_or1 (pt_cmpR op_eq (pv 1) pe_str (nomark _))))) (pss_one (ps_ret (pe_tup (pa_cons (pv 1) (StX.pa_star (pe_lc (own := [("part", 2)]) rfl sc_positive.nd (pi_tup (pe_slice sl_tupA (pv 0) (po_some pe_int) po_none)) (blkOk_by (own := [("part", 2)]) (N := nm_positive) (sc := defScope s_positive) (by decide +kernel)) (fun _ _ _ _ _ => (pg_name (i := 2) sc_positive.nd rfl (.inl rfl))) (fun _ _ _ _ _ => pts_nil) (fun _ _ _ _ _ => (pc ih2 (hr.mono (by omega)) T.g_positive (pa_cons (pv 2) pa_nil)))) pa_nil))))) pss_nil)
      (pss_one (ps_ret (pv 0))))))), ?_⟩
      refine ⟨_, rfl, a, _, 0, _, rfl, rfl, hS, atI_nat (j := 0) rfl, ?_⟩
      refine ⟨_, rfl, rfl, _, rfl, ?_⟩
      rw [show V.str "not" = V.str (FG.u .not).s from rfl, vsF]
      refine ite2 (fun c => ?_) (fun c6 => ?_)
      · obtain ⟨g, rfl⟩ := tag_u (of_decide_eq_true c)
        obtain ⟨x, rfl, hx⟩ := DpAll.one hA
        exact ⟨_, rfl, a, _, 1, _, rfl, rfl, hS, atI_nat (j := 1) rfl, sN _ _ _ E0 g hx (dep_un hn) q⟩
      refine ⟨_, rfl, rfl, _, rfl, ?_⟩
      rw [show V.str "implies" = V.str (FG.b .imp).s from rfl, vsF]
      refine ite2 (fun c => ?_) (fun c7 => ?_)
      · obtain ⟨g, k, rfl⟩ := tag_b (of_decide_eq_true c)
        obtain ⟨x, y, rfl, hx, hy⟩ := DpAll.two hA
        refine ⟨_, rfl, a, _, 1, _, rfl, rfl, hS, atI_nat (j := 1) rfl, sN _ _ _ E0 g hx (dep_bin hn).1 fun x1 H1 e1 hx1 => ?_⟩
        refine ⟨_, rfl, a, _, 2, _, rfl, rfl, Evl.ex_t e1 hS, atI_nat (j := 2) rfl, sP _ _ _ E0 k (Dp.ex' hy e1) (dep_bin hn).2 fun y1 H2 e2 hy1 => ?_⟩
        exact ⟨(by show 3 ≤ sizeLine; decide), fun p hp => q _ _ ((e1.trans e2).trans (Evl.Ex.new hp)) (dp_bin (w := .or) upd_same (Dp.ex' hx1 (e2.trans (Evl.Ex.new hp))) (Dp.ex' hy1 (Evl.Ex.new hp)))⟩
      have inn : ∀ {x y : Str}, (x, He.Dv.str y) ∈ dualVals → ∃ u, PySem.W.nsIn K (gA K "DUAL") x = some (some u) := fun h => let ⟨u, h1, _⟩ := T.dual _ h; ⟨u, h1⟩
      have unC : ∀ (o : UO) (g : Fm) (x : V), f = .un o g → xs = [x] → o ≠ .not → tLc (iTup K (tSl (rSlA K) (tVar 0) (tPart (tC (.int 1))) tNoPart)) (gName 2) tYes (tCall (spPN K ps n) [] E0 (tCons (tVar 2) tNil)) [2] [some (.ref a), some (.str f.tag.s), none] H fun v H1 => ∃ p ys, v = V.ref p ∧ (SqT K H1 p ys ∨ SqL K H1 p ys) ∧ (V.str f.tag.s :: (ys ++ [])).length ≤ sizeLine ∧ ∀ p, H1 p = none → Q (.ref p) (upd H1 p (.tup (V.str f.tag.s :: (ys ++ [])))) := by
        intro o g x ef ex no
        subst ef ex
        refine parts_gv (fs := [g]) sP rfl hS hA (fun f hf => ?_) (Nat.le_succ _) (fun _ => rfl) (fun _ => rfl) fun D H' ys e1 h1 h2 => ?_
        · rw [List.mem_singleton.mp hf]; exact dep_un hn
        obtain ⟨y, rfl, hy⟩ := DpAll.one h2
        refine ⟨D, _, rfl, .inr (SqL.of h1), (by show 2 ≤ sizeLine; decide), fun p hp => q _ _ (e1.trans (Evl.Ex.new hp)) ?_⟩
        rw [ps_un no]
        exact dp_un upd_same (Dp.ex' hy (Evl.Ex.new hp))
      have biC : ∀ (o : BO) (g k : Fm) (x y : V), f = .bin o g k → xs = [x, y] → o ≠ .imp → tLc (iTup K (tSl (rSlA K) (tVar 0) (tPart (tC (.int 1))) tNoPart)) (gName 2) tYes (tCall (spPN K ps n) [] E0 (tCons (tVar 2) tNil)) [2] [some (.ref a), some (.str f.tag.s), none] H fun v H1 => ∃ p ys, v = V.ref p ∧ (SqT K H1 p ys ∨ SqL K H1 p ys) ∧ (V.str f.tag.s :: (ys ++ [])).length ≤ sizeLine ∧ ∀ p, H1 p = none → Q (.ref p) (upd H1 p (.tup (V.str f.tag.s :: (ys ++ [])))) := by
        intro o g k x y ef ex no
        subst ef ex
        refine parts_gv (fs := [g, k]) sP rfl hS hA (fun f hf => ?_) (Nat.le_refl _) (fun _ => rfl) (fun _ => rfl) fun D H' ys e1 h1 h2 => ?_
        · rcases List.mem_cons.mp hf with e | e
          · rw [e]; exact (dep_bin hn).1
          · rw [List.mem_singleton.mp e]; exact (dep_bin hn).2
        obtain ⟨y, z, rfl, hy, hz⟩ := DpAll.two h2
        refine ⟨D, _, rfl, .inr (SqL.of h1), (by show 3 ≤ sizeLine; decide), fun p hp => q _ _ (e1.trans (Evl.Ex.new hp)) ?_⟩
        rw [ps_bin no]
        exact dp_bin upd_same (Dp.ex' hy (Evl.Ex.new hp)) (Dp.ex' hz (Evl.Ex.new hp))
      cases f with
      | tt =>
        refine ⟨_, rfl, "true", none, rfl, rfl, T.dualN _ (List.mem_of_getElem? (i := 0) rfl), _, rfl, iteF ⟨_, rfl, rfl, _, rfl, ?_⟩⟩
        rw [show V.str "same" = V.str (FG.b .same).s from rfl, vsF]
        exact ⟨_, rfl, q _ _ (Evl.Ex.refl _) hD⟩
      | ff =>
        refine ⟨_, rfl, "false", none, rfl, rfl, T.dualN _ (List.mem_of_getElem? (i := 1) rfl), _, rfl, iteF ⟨_, rfl, rfl, _, rfl, ?_⟩⟩
        rw [show V.str "same" = V.str (FG.b .same).s from rfl, vsF]
        exact ⟨_, rfl, q _ _ (Evl.Ex.refl _) hD⟩
      | cmp k =>
        have nn : PySem.W.nsIn K (gA K "DUAL") (FG.c k.o).s = some none := by
          obtain ⟨o, t, u⟩ := k
          cases o
          · exact T.dualN _ (List.mem_of_getElem? (i := 2) rfl)
          · exact T.dualN _ (List.mem_of_getElem? (i := 3) rfl)
          · exact T.dualN _ (List.mem_of_getElem? (i := 4) rfl)
        refine ⟨_, rfl, _, none, rfl, rfl, nn, _, rfl, iteF ⟨_, rfl, rfl, _, rfl, ?_⟩⟩
        rw [show V.str "same" = V.str (FG.b .same).s from rfl, vsF]
        exact ⟨_, rfl, q _ _ (Evl.Ex.refl _) hD⟩
      | un o g =>
        have n1 : o ≠ .not := fun e => c6 (by rw [e]; rfl)
        obtain ⟨x, rfl, hx⟩ := DpAll.one hA
        obtain ⟨u, hu⟩ := inn (dual_u n1)
        exact ⟨_, rfl, _, some u, rfl, rfl, hu, _, rfl, iteT ⟨_, rfl, unC o g x rfl rfl n1⟩⟩
      | bin o g k =>
        have n1 : o ≠ .imp := fun e => c7 (by rw [e]; rfl)
        obtain ⟨x, y, rfl, hx, hy⟩ := DpAll.two hA
        by_cases n2 : o = .same
        · subst n2
          refine ⟨_, rfl, _, none, rfl, rfl, T.dualN _ (List.mem_of_getElem? (i := 7) rfl), _, rfl, iteF ⟨_, rfl, rfl, _, rfl, ?_⟩⟩
          rw [show V.str "same" = V.str (FG.b .same).s from rfl, vsF]
          exact ⟨_, rfl, biC .same g k x y rfl rfl n1⟩
        · obtain ⟨u, hu⟩ := inn (dual_b n1 n2)
          exact ⟨_, rfl, _, some u, rfl, rfl, hu, _, rfl, iteT ⟨_, rfl, biC o g k x y rfl rfl n1⟩⟩
end
end W16
set_option Elab.async false
set_option linter.all false
set_option maxRecDepth 100000
set_option maxHeartbeats 4000000
namespace W16
open PySem PySem.Spec PyProof.Rows L2
open Evl (Ex)
/-! ### tests on words that are known -/
section
variable {σ : L2.St} {H : Hp} {i : Nat} {x y : Str} {D : Ends} {t u : TS} {K : PySem.W.Frag} {a : Addr} {xs : List V}
theorem tst_no (h : σ[i]? = some (some (.str x))) (e : decide (V.str x = V.str y) = false) (k : u D σ H) : tIfS (tTest (tOp rEq (tVar i) (tC (.str y)))) t u D σ H := by
  refine ⟨_, h, rfl, _, rfl, ?_⟩
  rw [e]
  exact iteF k
theorem tst_yes (h : σ[i]? = some (some (.str x))) (e : decide (V.str x = V.str y) = true) (k : t D σ H) : tIfS (tTest (tOp rEq (tVar i) (tC (.str y)))) t u D σ H := by
  refine ⟨_, h, rfl, _, rfl, ?_⟩
  rw [e]
  exact iteT k
theorem tst_no0 (h : σ[i]? = some (some (.ref a))) (hS : SqT K H a (.str x :: xs)) (e : decide (V.str x = V.str y) = false) (k : u D σ H) : tIfS (tTest (tOp rEq (tOp (rIxT K) (tVar i) (tC (.int 0))) (tC (.str y)))) t u D σ H := by
  refine ⟨_, h, a, _, 0, _, rfl, rfl, hS, atI_nat (j := 0) rfl, rfl, _, rfl, ?_⟩
  rw [e]
  exact iteF k
theorem tst_yes0 (h : σ[i]? = some (some (.ref a))) (hS : SqT K H a (.str x :: xs)) (e : decide (V.str x = V.str y) = true) (k : t D σ H) : tIfS (tTest (tOp rEq (tOp (rIxT K) (tVar i) (tC (.int 0))) (tC (.str y)))) t u D σ H := by
  refine ⟨_, h, a, _, 0, _, rfl, rfl, hS, atI_nat (j := 0) rfl, rfl, _, rfl, ?_⟩
  rw [e]
  exact iteT k
end
/-! ### environments -/
def envOf (ns : List Str) (zs : List Int) : Str → Int := fun w => (zs[ix ns w]?).getD 0
structure Env1 (ns : List Str) (zs : List Int) : Prop where
  len : ns.length = zs.length
  big : ∀ z ∈ zs, -(2 ^ 63) < z ∧ z < 2 ^ 63
theorem envOf_get {ns : List Str} {zs : List Int} (h : Env1 ns zs) {x : Str} (hx : x ∈ ns) : zs[ix ns x]? = some (envOf ns zs x) := by
  have h1 := ix_lt hx
  have h2 : ix ns x < zs.length := by rw [← h.len]; exact h1
  unfold envOf
  rw [List.getElem?_eq_getElem h2]
  rfl
theorem envOf_big {ns : List Str} {zs : List Int} (h : Env1 ns zs) {x : Str} (hx : x ∈ ns) : -(2 ^ 63) < envOf ns zs x ∧ envOf ns zs x < 2 ^ 63 := h.big _ (List.mem_of_getElem? (envOf_get h hx))
theorem tdep_pos (t : Tm) : 1 ≤ t.dep := by cases t <;> simp [Tm.dep]
theorem flat_strs (ns : List Str) : (ns.map V.str).all flatV = true := by
  rw [List.all_eq_true]
  intro x hx
  obtain ⟨n, _, rfl⟩ := List.mem_map.mp hx
  rfl
theorem flat_ints (ns : List Int) : (ns.map V.int).all flatV = true := by
  rw [List.all_eq_true]
  intro x hx
  obtain ⟨n, _, rfl⟩ := List.mem_map.mp hx
  rfl
theorem ix_cond {ns : List Str} {x : Str} (hx : x ∈ ns) : (ns.map V.str)[ix ns x]? = some (.str x) ∧ eqV (.str x) (.str x) = true ∧ ∀ (m : Nat) (z' : V), m < ix ns x → (ns.map V.str)[m]? = some z' → eqV z' (.str x) = false := by
  refine ⟨by rw [List.getElem?_map, ix_get hx]; rfl, by show (x == x) = true; simp, fun m z' hm hz => ?_⟩
  rw [List.getElem?_map] at hz
  cases q : ns[m]? with
  | none => rw [q] at hz; cases hz
  | some y =>
    rw [q] at hz
    have e : z' = .str y := (Option.some.inj hz).symm
    rw [e]
    show (y == x) = false
    exact beq_eq_false_iff_ne.mpr fun e => ix_first hm (by rw [q, e])
/-- what a value's reader is asked -/
structure TvPre (K : PySem.W.Frag) (H : Hp) (v : V) (t : Tm) (ns : List Str) (e : Str → Int) (n : Nat) : Prop where
  d : DT K H v t
  wf : t.wf ns
  big : ∀ x ∈ ns, -(2 ^ 63) < e x ∧ e x < 2 ^ 63
  dep : t.dep ≤ n
def spTV (K : PySem.W.Frag) (n : Nat) : Sp := fun vs H Q _ => ∃ t v d kvs e ns, vs = [v, .ref d] ∧ TvPre K H v t ns e n ∧ H d = some (.dK kvs) ∧ (∀ x ∈ ns, valV kvs (.inr x : Key) = some (.int (e x))) ∧ Q (.int (t.val e)) H
def spLV (K : PySem.W.Frag) (n : Nat) : Sp := fun vs H Q _ => ∃ t v an as ns zs, vs = [v, .ref an, .ref as] ∧ TvPre K H v t ns (envOf ns zs) n ∧ SqL K H an (ns.map V.str) ∧ SqT K H as (zs.map V.int) ∧ Env1 ns zs ∧ Q (.int (t.val (envOf ns zs))) H
section
variable {P : Program} {w : World} {K : PySem.W.Frag} {mg : Str → Option Value} {base : Heap}
abbrev nm_term_value : List Str := ["term", "values", "word", "first", "second"]
theorem sc_term_value : FnScope nm_term_value ["term", "values"] (defScope s_term_value) := ⟨rfl, rfl, rfl, by decide +kernel, rfl, by decide +kernel, by decide +kernel⟩
abbrev nm_comparison_truth : List Str := ["condition", "values", "first", "second"]
theorem sc_comparison_truth : FnScope nm_comparison_truth ["condition", "values"] (defScope s_comparison_truth) := ⟨rfl, rfl, rfl, by decide +kernel, rfl, by decide +kernel, by decide +kernel⟩
abbrev nm_condition_truth : List Str := ["condition", "values", "word", "first", "second"]
theorem sc_condition_truth : FnScope nm_condition_truth ["condition", "values"] (defScope s_condition_truth) := ⟨rfl, rfl, rfl, by decide +kernel, rfl, by decide +kernel, by decide +kernel⟩
abbrev nm_qvalue : List Str := ["_law_term_here", "_law_names_here", "_law_state", "_law_first", "_law_second"]
theorem sc_qvalue : FnScope nm_qvalue ["_law_term_here", "_law_names_here", "_law_state"] (defScope s_qvalue) := ⟨rfl, rfl, rfl, by decide +kernel, rfl, by decide +kernel, by decide +kernel⟩
abbrev nm_qholds : List Str := ["_law_comparison", "_law_names_here", "_law_state", "_law_first", "_law_second"]
theorem sc_qholds : FnScope nm_qholds ["_law_comparison", "_law_names_here", "_law_state"] (defScope s_qholds) := ⟨rfl, rfl, rfl, by decide +kernel, rfl, by decide +kernel, by decide +kernel⟩
theorem cmul_name {e : Str → Int} {x : Str} {j : Int} (h : -(2 ^ 63) < e x ∧ e x < 2 ^ 63) : CMul (e x) j := .inl ⟨by omega, by omega⟩
theorem ok_term_value (T : T16 K w mg) : ∀ n, Ok P w K mg base n (gA K "term_value") ["term", "values"] (spTV K n)
  | 0 => no_ok T.F_term_value (fun _ _ _ _ _ _ us hl => match us, hl with | [_, _], _ => rfl) (fun vs H Q E h => by
      obtain ⟨t, v, d, kvs, e, ns, _, h, _⟩ := h
      have h1 := h.dep
      have h2 := tdep_pos t
      omega)
  | n + 1 => by
    have ih : Ok P w K mg base n (gA K "term_value") ["term", "values"] (spTV K n) := ok_term_value T n
    refine mkOk T.F_term_value sc_term_value (fun _ _ _ _ _ _ us hl => match us, hl with | [_, _], _ => rfl) (fun vs H Q E h => ?_) fun cdv A outer s H vs Q E hr h => ?_
    · obtain ⟨t, v, d, kvs, e, ns, rfl, _⟩ := h
      rfl
    obtain ⟨t, v, d, kvs, e, ns, rfl, ⟨hD, hw, hb, hn⟩, hd, hk, q⟩ := h
    obtain ⟨a, xs, rfl, hS, hA⟩ := DT.out hD
    refine ⟨_, (pss_cons (ps_set (i := 2) sc_term_value.nd rfl (.inl rfl) (pe_ix ix_tup (pv 0) pe_int (fun _ _ => rfl)))
      (pss_cons (ps_if (pt_cmpR op_eq (pv 2) pe_str (nomark _)) (pss_one (ps_ret (pe_ix ix_tup (pv 0) pe_int (fun _ _ => rfl)))) pss_nil)
      (pss_cons (ps_if (pt_cmpR op_eq (pv 2) pe_str (nomark _)) (pss_one (ps_ret (pe_dget (hu_of hr) (pv 1) (pe_ix ix_tup (pv 0) pe_int (fun _ _ => rfl)) (fun _ _ => rfl)))) pss_nil)
      (pss_cons (ps_set (i := 3) sc_term_value.nd rfl (.inl rfl) (pc ih (hr.mono (by omega)) T.g_term_value (pa_cons (pe_ix ix_tup (pv 0) pe_int (fun _ _ => rfl)) (pa_cons (pv 1) pa_nil))))
      (pss_cons (ps_if (pt_cmpR op_eq (pv 2) pe_str (nomark _)) (pss_one (ps_ret (pe_un un_neg (pv 3)))) pss_nil)
      (pss_cons (ps_if (pt_cmpR op_eq (pv 2) pe_str (nomark _)) (pss_one (ps_ret (pe_op op_fdiv (pv 3) (pe_ix ix_tup (pv 0) pe_int (fun _ _ => rfl))))) pss_nil)
      (pss_cons (ps_if (pt_cmpR op_eq (pv 2) pe_str (nomark _)) (pss_one (ps_ret (pe_op op_mod (pv 3) (pe_ix ix_tup (pv 0) pe_int (fun _ _ => rfl))))) pss_nil)
      (pss_cons (ps_set (i := 4) sc_term_value.nd rfl (.inl rfl) (pc ih (hr.mono (by omega)) T.g_term_value (pa_cons (pe_ix ix_tup (pv 0) pe_int (fun _ _ => rfl)) (pa_cons (pv 1) pa_nil))))
      (pss_cons (ps_if (pt_cmpR op_eq (pv 2) pe_str (nomark _)) (pss_one (ps_ret (pe_op op_add (pv 3) (pv 4)))) pss_nil)
      (pss_cons (ps_if (pt_cmpR op_eq (pv 2) pe_str (nomark _)) (pss_one (ps_ret (pe_op op_sub (pv 3) (pv 4)))) pss_nil)
      (pss_cons (ps_if (pt_cmpR op_eq (pv 2) pe_str (nomark _)) (pss_one (ps_ret (pe_op op_mul (pv 3) (pv 4)))) pss_nil)
      (pss_cons (ps_if (pt_cmpR op_eq (pv 2) pe_str (nomark _)) (pss_one (ps_ret (pe_callB (call_min2 rfl) (by rfl) T.z_min (by decide +kernel) (pa_cons (pv 3) (pa_cons (pv 4) pa_nil))))) pss_nil)
      (pss_one (ps_ret (pe_callB (call_max2 rfl) (by rfl) T.z_max (by decide +kernel) (pa_cons (pv 3) (pa_cons (pv 4) pa_nil))))))))))))))))), ?_⟩
    refine ⟨_, rfl, a, _, 0, _, rfl, rfl, hS, atI_nat (j := 0) rfl, ?_⟩
    cases t with
    | num z =>
      obtain ⟨x, rfl, hx⟩ := DpAll.one hA
      obtain rfl := Dp.intO hx
      refine tst_yes rfl ((vsT _ .num).trans rfl) ?_
      exact ⟨_, rfl, a, _, 1, _, rfl, rfl, hS, atI_nat (j := 1) rfl, q⟩
    | nam z =>
      obtain ⟨x, rfl, hx⟩ := DpAll.one hA
      obtain rfl := Dp.strO hx
      refine tst_no rfl ((vsT _ .num).trans rfl) ?_
      refine tst_yes rfl ((vsT _ .nam).trans rfl) ?_
      have g := DGet.k (k := Sum.inr z) hd
      rw [hk z hw] at g
      exact ⟨_, rfl, _, rfl, a, _, 1, _, rfl, rfl, hS, atI_nat (j := 1) rfl, d, _, rfl, g, q⟩
    | neg t =>
      obtain ⟨x, rfl, hx⟩ := DpAll.one hA
      refine tst_no rfl ((vsT _ .num).trans rfl) ?_; refine tst_no rfl ((vsT _ .nam).trans rfl) ?_
      refine ⟨_, rfl, a, _, 1, _, rfl, rfl, hS, atI_nat (j := 1) rfl, _, rfl, t, x, d, kvs, e, ns, rfl, ⟨hx, hw, hb, by simp only [Tm.dep] at hn; omega⟩, hd, hk, ?_⟩
      refine tst_yes rfl ((vsT _ .neg).trans rfl) ?_
      exact ⟨_, rfl, _, rfl, q⟩
    | quo t k =>
      obtain ⟨x, y, rfl, hx, hy⟩ := DpAll.two hA
      obtain rfl := Dp.intO hy
      refine tst_no rfl ((vsT _ .num).trans rfl) ?_; refine tst_no rfl ((vsT _ .nam).trans rfl) ?_
      refine ⟨_, rfl, a, _, 1, _, rfl, rfl, hS, atI_nat (j := 1) rfl, _, rfl, t, x, d, kvs, e, ns, rfl, ⟨hx, hw.1, hb, by simp only [Tm.dep] at hn; omega⟩, hd, hk, ?_⟩
      refine tst_no rfl ((vsT _ .neg).trans rfl) ?_
      refine tst_yes rfl ((vsT _ .quo).trans rfl) ?_
      have h1 := hw.2.1
      have h2 := hw.2.2
      exact ⟨_, rfl, _, rfl, a, _, 2, _, rfl, rfl, hS, atI_nat (j := 2) rfl, _, _, rfl, rfl, ⟨h1, by omega⟩, q⟩
    | rem t k =>
      obtain ⟨x, y, rfl, hx, hy⟩ := DpAll.two hA
      obtain rfl := Dp.intO hy
      refine tst_no rfl ((vsT _ .num).trans rfl) ?_; refine tst_no rfl ((vsT _ .nam).trans rfl) ?_
      refine ⟨_, rfl, a, _, 1, _, rfl, rfl, hS, atI_nat (j := 1) rfl, _, rfl, t, x, d, kvs, e, ns, rfl, ⟨hx, hw.1, hb, by simp only [Tm.dep] at hn; omega⟩, hd, hk, ?_⟩
      refine tst_no rfl ((vsT _ .neg).trans rfl) ?_; refine tst_no rfl ((vsT _ .quo).trans rfl) ?_
      refine tst_yes rfl ((vsT _ .rem).trans rfl) ?_
      exact ⟨_, rfl, _, rfl, a, _, 2, _, rfl, rfl, hS, atI_nat (j := 2) rfl, _, _, rfl, rfl, hw.2.1, q⟩
    | plus t u =>
      obtain ⟨x, y, rfl, hx, hy⟩ := DpAll.two hA
      refine tst_no rfl ((vsT _ .num).trans rfl) ?_; refine tst_no rfl ((vsT _ .nam).trans rfl) ?_
      refine ⟨_, rfl, a, _, 1, _, rfl, rfl, hS, atI_nat (j := 1) rfl, _, rfl, t, x, d, kvs, e, ns, rfl, ⟨hx, hw.1, hb, by simp only [Tm.dep] at hn; omega⟩, hd, hk, ?_⟩
      refine tst_no rfl ((vsT _ .neg).trans rfl) ?_; refine tst_no rfl ((vsT _ .quo).trans rfl) ?_; refine tst_no rfl ((vsT _ .rem).trans rfl) ?_
      refine ⟨_, rfl, a, _, 2, _, rfl, rfl, hS, atI_nat (j := 2) rfl, _, rfl, u, y, d, kvs, e, ns, rfl, ⟨hy, hw.2, hb, by simp only [Tm.dep] at hn; omega⟩, hd, hk, ?_⟩
      refine tst_yes rfl ((vsT _ .plus).trans rfl) ?_
      exact ⟨_, rfl, _, rfl, _, _, rfl, rfl, q⟩
    | minus t u =>
      obtain ⟨x, y, rfl, hx, hy⟩ := DpAll.two hA
      refine tst_no rfl ((vsT _ .num).trans rfl) ?_; refine tst_no rfl ((vsT _ .nam).trans rfl) ?_
      refine ⟨_, rfl, a, _, 1, _, rfl, rfl, hS, atI_nat (j := 1) rfl, _, rfl, t, x, d, kvs, e, ns, rfl, ⟨hx, hw.1, hb, by simp only [Tm.dep] at hn; omega⟩, hd, hk, ?_⟩
      refine tst_no rfl ((vsT _ .neg).trans rfl) ?_; refine tst_no rfl ((vsT _ .quo).trans rfl) ?_; refine tst_no rfl ((vsT _ .rem).trans rfl) ?_
      refine ⟨_, rfl, a, _, 2, _, rfl, rfl, hS, atI_nat (j := 2) rfl, _, rfl, u, y, d, kvs, e, ns, rfl, ⟨hy, hw.2, hb, by simp only [Tm.dep] at hn; omega⟩, hd, hk, ?_⟩
      refine tst_no rfl ((vsT _ .plus).trans rfl) ?_
      refine tst_yes rfl ((vsT _ .minus).trans rfl) ?_
      exact ⟨_, rfl, _, rfl, _, _, rfl, rfl, q⟩
    | times t u =>
      obtain ⟨x, y, rfl, hx, hy⟩ := DpAll.two hA
      refine tst_no rfl ((vsT _ .num).trans rfl) ?_; refine tst_no rfl ((vsT _ .nam).trans rfl) ?_
      refine ⟨_, rfl, a, _, 1, _, rfl, rfl, hS, atI_nat (j := 1) rfl, _, rfl, t, x, d, kvs, e, ns, rfl, ⟨hx, hw.2.1, hb, by simp only [Tm.dep] at hn; omega⟩, hd, hk, ?_⟩
      refine tst_no rfl ((vsT _ .neg).trans rfl) ?_; refine tst_no rfl ((vsT _ .quo).trans rfl) ?_; refine tst_no rfl ((vsT _ .rem).trans rfl) ?_
      refine ⟨_, rfl, a, _, 2, _, rfl, rfl, hS, atI_nat (j := 2) rfl, _, rfl, u, y, d, kvs, e, ns, rfl, ⟨hy, hw.2.2, hb, by simp only [Tm.dep] at hn; omega⟩, hd, hk, ?_⟩
      refine tst_no rfl ((vsT _ .plus).trans rfl) ?_; refine tst_no rfl ((vsT _ .minus).trans rfl) ?_
      refine tst_yes rfl ((vsT _ .times).trans rfl) ?_
      obtain ⟨⟨z, rfl⟩, h1, h2⟩ := hw
      exact ⟨_, rfl, _, rfl, _, _, rfl, rfl, cmul_name (hb z h1), q⟩
    | least t u =>
      obtain ⟨x, y, rfl, hx, hy⟩ := DpAll.two hA
      refine tst_no rfl ((vsT _ .num).trans rfl) ?_; refine tst_no rfl ((vsT _ .nam).trans rfl) ?_
      refine ⟨_, rfl, a, _, 1, _, rfl, rfl, hS, atI_nat (j := 1) rfl, _, rfl, t, x, d, kvs, e, ns, rfl, ⟨hx, hw.1, hb, by simp only [Tm.dep] at hn; omega⟩, hd, hk, ?_⟩
      refine tst_no rfl ((vsT _ .neg).trans rfl) ?_; refine tst_no rfl ((vsT _ .quo).trans rfl) ?_; refine tst_no rfl ((vsT _ .rem).trans rfl) ?_
      refine ⟨_, rfl, a, _, 2, _, rfl, rfl, hS, atI_nat (j := 2) rfl, _, rfl, u, y, d, kvs, e, ns, rfl, ⟨hy, hw.2, hb, by simp only [Tm.dep] at hn; omega⟩, hd, hk, ?_⟩
      refine tst_no rfl ((vsT _ .plus).trans rfl) ?_; refine tst_no rfl ((vsT _ .minus).trans rfl) ?_; refine tst_no rfl ((vsT _ .times).trans rfl) ?_
      refine tst_yes rfl ((vsT _ .least).trans rfl) ?_
      exact ⟨_, rfl, _, rfl, _, _, rfl, q⟩
    | most t u =>
      obtain ⟨x, y, rfl, hx, hy⟩ := DpAll.two hA
      refine tst_no rfl ((vsT _ .num).trans rfl) ?_; refine tst_no rfl ((vsT _ .nam).trans rfl) ?_
      refine ⟨_, rfl, a, _, 1, _, rfl, rfl, hS, atI_nat (j := 1) rfl, _, rfl, t, x, d, kvs, e, ns, rfl, ⟨hx, hw.1, hb, by simp only [Tm.dep] at hn; omega⟩, hd, hk, ?_⟩
      refine tst_no rfl ((vsT _ .neg).trans rfl) ?_; refine tst_no rfl ((vsT _ .quo).trans rfl) ?_; refine tst_no rfl ((vsT _ .rem).trans rfl) ?_
      refine ⟨_, rfl, a, _, 2, _, rfl, rfl, hS, atI_nat (j := 2) rfl, _, rfl, u, y, d, kvs, e, ns, rfl, ⟨hy, hw.2, hb, by simp only [Tm.dep] at hn; omega⟩, hd, hk, ?_⟩
      refine tst_no rfl ((vsT _ .plus).trans rfl) ?_; refine tst_no rfl ((vsT _ .minus).trans rfl) ?_; refine tst_no rfl ((vsT _ .times).trans rfl) ?_; refine tst_no rfl ((vsT _ .least).trans rfl) ?_
      exact ⟨_, rfl, _, rfl, _, _, rfl, q⟩
/-! comparisons -/
def spCT (K : PySem.W.Frag) : Sp := fun vs H Q _ => ∃ c v d kvs e ns, vs = [v, .ref d] ∧ DC K H v c ∧ c.wf ns ∧ (∀ x ∈ ns, -(2 ^ 63) < e x ∧ e x < 2 ^ 63) ∧ H d = some (.dK kvs) ∧ (∀ x ∈ ns, valV kvs (.inr x : Key) = some (.int (e x))) ∧ Q (.bl (c.val e)) H
theorem ok_comparison_truth (T : T16 K w mg) : Ok P w K mg base 4 (gA K "comparison_truth") ["condition", "values"] (spCT K) := by
  refine mkOk T.F_comparison_truth sc_comparison_truth (fun _ _ _ _ _ _ us hl => match us, hl with | [_, _], _ => rfl) (fun vs H Q E h => ?_) fun cdv A outer s H vs Q E hr h => ?_
  · obtain ⟨c, v, d, kvs, e, ns, rfl, _⟩ := h
    rfl
  obtain ⟨c, v, d, kvs, e, ns, rfl, hD, hw, hb, hd, hk, q⟩ := h
  obtain ⟨a, x, y, rfl, hS, hx, hy⟩ := DC.out hD
  refine ⟨_, (pss_cons (ps_set (i := 2) sc_comparison_truth.nd rfl (.inl rfl) (pc (ok_term_value T 3) (hr.mono (by omega)) T.g_term_value (pa_cons (pe_ix ix_tup (pv 0) pe_int (fun _ _ => rfl)) (pa_cons (pv 1) pa_nil))))
      (pss_cons (ps_set (i := 3) sc_comparison_truth.nd rfl (.inl rfl) (pc (ok_term_value T 3) (hr.mono (by omega)) T.g_term_value (pa_cons (pe_ix ix_tup (pv 0) pe_int (fun _ _ => rfl)) (pa_cons (pv 1) pa_nil))))
      (pss_cons (ps_if (pt_cmpR op_eq (pe_ix ix_tup (pv 0) pe_int (fun _ _ => rfl)) pe_str (nomark _)) (pss_one (ps_ret (pe_cmpR op_eq (pv 2) (pv 3) (nomark _)))) pss_nil)
      (pss_cons (ps_if (pt_cmpR op_eq (pe_ix ix_tup (pv 0) pe_int (fun _ _ => rfl)) pe_str (nomark _)) (pss_one (ps_ret (pe_cmpR op_lt (pv 2) (pv 3) (nomark _)))) pss_nil)
      (pss_one (ps_ret (pe_cmpR op_le (pv 2) (pv 3) (nomark _)))))))), ?_⟩
  refine ⟨_, rfl, a, _, 1, _, rfl, rfl, hS, atI_nat (j := 1) rfl, _, rfl, c.t, x, d, kvs, e, ns, rfl, ⟨hx, hw.t, hb, hw.dt⟩, hd, hk, ?_⟩
  refine ⟨_, rfl, a, _, 2, _, rfl, rfl, hS, atI_nat (j := 2) rfl, _, rfl, c.u, y, d, kvs, e, ns, rfl, ⟨hy, hw.u, hb, hw.du⟩, hd, hk, ?_⟩
  obtain ⟨o, t, u⟩ := c
  cases o with
  | eq =>
    refine tst_yes0 rfl hS ((vsC _ .eq).trans rfl) ?_
    refine ⟨_, rfl, _, rfl, rfl, ?_⟩
    rw [show decide (V.int (Tm.val e t) = V.int (Tm.val e u)) = decide (Tm.val e t = Tm.val e u) from by rw [dec_int, Bool.beq_eq_decide_eq]]
    exact q
  | below =>
    refine tst_no0 rfl hS ((vsC _ .eq).trans rfl) ?_
    refine tst_yes0 rfl hS ((vsC _ .below).trans rfl) ?_
    exact ⟨_, rfl, _, rfl, _, _, rfl, rfl, q⟩
  | upto =>
    refine tst_no0 rfl hS ((vsC _ .eq).trans rfl) ?_; refine tst_no0 rfl hS ((vsC _ .below).trans rfl) ?_
    exact ⟨_, rfl, _, rfl, _, _, rfl, rfl, q⟩
theorem ok_condition_truth (T : T16 K w mg) : Ok P w K mg base 5 (gA K "condition_truth") ["condition", "values"] (spCT K) := by
  refine mkOk T.F_condition_truth sc_condition_truth (fun _ _ _ _ _ _ us hl => match us, hl with | [_, _], _ => rfl) (fun vs H Q E h => ?_) fun cdv A outer s H vs Q E hr h => ?_
  · obtain ⟨c, v, d, kvs, e, ns, rfl, _⟩ := h
    rfl
  obtain ⟨c, v, d, kvs, e, ns, rfl, hD, hw, hb, hd, hk, q⟩ := h
  obtain ⟨a, x, y, rfl, hS, hx, hy⟩ := DC.out hD
  have no1 : ∀ f : FG, (∀ o, f ≠ .c o) → decide (V.str c.o.s = V.str f.s) = false := fun f h => (vsF (.c c.o) f).trans (decide_eq_false fun z => h _ z.symm)
  refine ⟨_, (pss_cons (ps_set (i := 2) sc_condition_truth.nd rfl (.inl rfl) (pe_ix ix_tup (pv 0) pe_int (fun _ _ => rfl)))
      (pss_cons (ps_if (PW.pt (pw_or (pt_cmpR op_eq (pv 2) pe_str (nomark _)) (pw_or1 (pt_cmpR op_eq (pv 2) pe_str (nomark _))))) (pss_one (ps_ret (pe_cmpR op_eq (pv 2) pe_str (nomark _)))) pss_nil)
      (pss_cons (ps_if (PW.pt (pw_or (pt_cmpR op_eq (pv 2) pe_str (nomark _)) (pw_or (pt_cmpR op_eq (pv 2) pe_str (nomark _)) (pw_or1 (pt_cmpR op_eq (pv 2) pe_str (nomark _)))))) (pss_one (ps_ret (pc (ok_comparison_truth T) (hr.mono (by omega)) T.g_comparison_truth (pa_cons (pv 0) (pa_cons (pv 1) pa_nil))))) pss_nil)
      pss_never))), ?_⟩
  refine ⟨_, rfl, a, _, 0, _, rfl, rfl, hS, atI_nat (j := 0) rfl, ?_⟩
  refine ⟨_, rfl, rfl, _, rfl, ?_⟩
  rw [show decide (V.str c.o.s = V.str "true") = false from no1 .tt fun o z => by cases z]
  refine iteF ⟨_, rfl, rfl, _, rfl, ?_⟩
  rw [show decide (V.str c.o.s = V.str "false") = false from no1 .ff fun o z => by cases z]
  refine iteF ?_
  have fin : tRet (tCall (spCT K) [] E0 (tCons (tVar 0) (tCons (tVar 1) tNil))) { nx := fun _ H' => False, rt := Q } [some (.ref a), some (.ref d), some (.str c.o.s), none, none] H :=
    ⟨_, rfl, _, rfl, c, _, d, kvs, e, ns, rfl, hD, hw, hb, hd, hk, q⟩
  refine ⟨_, rfl, rfl, _, rfl, ?_⟩
  rw [show V.str "equal" = V.str CO.eq.s from rfl, vsC]
  refine ite2 (fun c1 => fin) (fun c1 => ?_)
  refine ⟨_, rfl, rfl, _, rfl, ?_⟩
  rw [show V.str "below" = V.str CO.below.s from rfl, vsC]
  refine ite2 (fun c2 => fin) (fun c2 => ?_)
  refine ⟨_, rfl, rfl, _, rfl, ?_⟩
  rw [show V.str "upto" = V.str CO.upto.s from rfl, vsC]
  refine ite2 (fun c3 => fin) (fun c3 => ?_)
  obtain ⟨o, t, u⟩ := c
  cases o
  · exact absurd rfl c1
  · exact absurd rfl c2
  · exact absurd rfl c3
/-! the law's own -/
theorem ok__law_value (T : T16 K w mg) : ∀ n, Ok P w K mg base n (gA K "_law_value") ["_law_term_here", "_law_names_here", "_law_state"] (spLV K n)
  | 0 => no_ok T.F__law_value (fun _ _ _ _ _ _ us hl => match us, hl with | [_, _, _], _ => rfl) (fun vs H Q E h => by
      obtain ⟨t, v, an, as, ns, zs, _, h, _⟩ := h
      have h1 := h.dep
      have h2 := tdep_pos t
      omega)
  | n + 1 => by
    have ih : Ok P w K mg base n (gA K "_law_value") ["_law_term_here", "_law_names_here", "_law_state"] (spLV K n) := ok__law_value T n
    refine mkOk T.F__law_value sc_qvalue (fun _ _ _ _ _ _ us hl => match us, hl with | [_, _, _], _ => rfl) (fun vs H Q E h => ?_) fun cdv A outer s H vs Q E hr h => ?_
    · obtain ⟨t, v, an, as, ns, zs, rfl, _⟩ := h
      rfl
    obtain ⟨t, v, an, as, ns, zs, rfl, ⟨hD, hw, hb, hn⟩, hN, hZ, hE, q⟩ := h
    obtain ⟨a, xs, rfl, hS, hA⟩ := DT.out hD
    refine ⟨_, (pss_cons (ps_if (pt_cmpR op_eq (pe_ix ix_tup (pv 0) pe_int (fun _ _ => rfl)) pe_str (nomark _)) (pss_one (ps_ret (pe_ix ix_tup (pv 0) pe_int (fun _ _ => rfl)))) pss_nil)
      (pss_cons (ps_if (pt_cmpR op_eq (pe_ix ix_tup (pv 0) pe_int (fun _ _ => rfl)) pe_str (nomark _)) (pss_one (ps_ret (pe_ix ix_tup (pv 2) (pe_bm PySem.F.plainAttrs_list PySem.F.slot_list_index PySem.F.type_list_index mt_index (pv 1) (pa_cons (pe_ix ix_tup (pv 0) pe_int (fun _ _ => rfl)) pa_nil)) (fun _ _ => rfl)))) pss_nil)
      (pss_cons (ps_set (i := 3) sc_qvalue.nd rfl (.inl rfl) (pc ih (hr.mono (by omega)) T.g__law_value (pa_cons (pe_ix ix_tup (pv 0) pe_int (fun _ _ => rfl)) (pa_cons (pv 1) (pa_cons (pv 2) pa_nil)))))
      (pss_cons (ps_if (pt_cmpR op_eq (pe_ix ix_tup (pv 0) pe_int (fun _ _ => rfl)) pe_str (nomark _)) (pss_one (ps_ret (pe_op op_sub pe_int (pv 3)))) pss_nil)
      (pss_cons (ps_if (pt_cmpR op_eq (pe_ix ix_tup (pv 0) pe_int (fun _ _ => rfl)) pe_str (nomark _)) (pss_one (ps_ret (pe_op op_fdiv (pv 3) (pe_ix ix_tup (pv 0) pe_int (fun _ _ => rfl))))) pss_nil)
      (pss_cons (ps_if (pt_cmpR op_eq (pe_ix ix_tup (pv 0) pe_int (fun _ _ => rfl)) pe_str (nomark _)) (pss_one (ps_ret (pe_op op_sub (pv 3) (pe_op op_mul (pe_op op_fdiv (pv 3) (pe_ix ix_tup (pv 0) pe_int (fun _ _ => rfl))) (pe_ix ix_tup (pv 0) pe_int (fun _ _ => rfl)))))) pss_nil)
      (pss_cons (ps_set (i := 4) sc_qvalue.nd rfl (.inl rfl) (pc ih (hr.mono (by omega)) T.g__law_value (pa_cons (pe_ix ix_tup (pv 0) pe_int (fun _ _ => rfl)) (pa_cons (pv 1) (pa_cons (pv 2) pa_nil)))))
      (pss_cons (ps_if (pt_cmpR op_eq (pe_ix ix_tup (pv 0) pe_int (fun _ _ => rfl)) pe_str (nomark _)) (pss_one (ps_ret (pe_op op_add (pv 3) (pv 4)))) pss_nil)
      (pss_cons (ps_if (pt_cmpR op_eq (pe_ix ix_tup (pv 0) pe_int (fun _ _ => rfl)) pe_str (nomark _)) (pss_one (ps_ret (pe_op op_sub (pv 3) (pv 4)))) pss_nil)
      (pss_cons (ps_if (pt_cmpR op_eq (pe_ix ix_tup (pv 0) pe_int (fun _ _ => rfl)) pe_str (nomark _)) (pss_one (ps_ret (pe_op op_mul (pv 3) (pv 4)))) pss_nil)
      (pss_cons (ps_if (pt_cmpR op_eq (pe_ix ix_tup (pv 0) pe_int (fun _ _ => rfl)) pe_str (nomark _)) (pss_one (ps_ret (pe_callB (call_min2 rfl) (by rfl) T.z_min (by decide +kernel) (pa_cons (pv 3) (pa_cons (pv 4) pa_nil))))) pss_nil)
      (pss_one (ps_ret (pe_callB (call_max2 rfl) (by rfl) T.z_max (by decide +kernel) (pa_cons (pv 3) (pa_cons (pv 4) pa_nil)))))))))))))))), ?_⟩
    cases t with
    | num z =>
      obtain ⟨x, rfl, hx⟩ := DpAll.one hA
      obtain rfl := Dp.intO hx
      refine tst_yes0 rfl hS ((vsT _ .num).trans rfl) ?_
      exact ⟨_, rfl, a, _, 1, _, rfl, rfl, hS, atI_nat (j := 1) rfl, q⟩
    | nam z =>
      obtain ⟨x, rfl, hx⟩ := DpAll.one hA
      obtain rfl := Dp.strO hx
      refine tst_no0 rfl hS ((vsT _ .num).trans rfl) ?_
      refine tst_yes0 rfl hS ((vsT _ .nam).trans rfl) ?_
      obtain ⟨c1, c2, c3⟩ := ix_cond (show z ∈ ns from hw)
      refine ⟨_, rfl, _, rfl, .inl ⟨rfl, _, hN⟩, _, rfl, a, _, 1, _, rfl, rfl, hS, atI_nat (j := 1) rfl, an, _, _, _, _, rfl, rfl, hN, rfl, flat_strs ns, c1, c2, c3, ?_⟩
      refine ⟨as, _, _, _, rfl, rfl, hZ, atI_nat (j := ix ns z) ?_, q⟩
      rw [List.getElem?_map, envOf_get hE hw]
      rfl
    | neg t =>
      obtain ⟨x, rfl, hx⟩ := DpAll.one hA
      refine tst_no0 rfl hS ((vsT _ .num).trans rfl) ?_; refine tst_no0 rfl hS ((vsT _ .nam).trans rfl) ?_
      refine ⟨_, rfl, a, _, 1, _, rfl, rfl, hS, atI_nat (j := 1) rfl, _, rfl, _, rfl, t, x, an, as, ns, zs, rfl, ⟨hx, hw, hb, by simp only [Tm.dep] at hn; omega⟩, hN, hZ, hE, ?_⟩
      refine tst_yes0 rfl hS ((vsT _ .neg).trans rfl) ?_
      refine ⟨_, rfl, _, _, rfl, rfl, ?_⟩
      show Q (.int (0 - Tm.val (envOf ns zs) t)) H
      rw [Int.zero_sub]
      exact q
    | quo t k =>
      obtain ⟨x, y, rfl, hx, hy⟩ := DpAll.two hA
      obtain rfl := Dp.intO hy
      refine tst_no0 rfl hS ((vsT _ .num).trans rfl) ?_; refine tst_no0 rfl hS ((vsT _ .nam).trans rfl) ?_
      refine ⟨_, rfl, a, _, 1, _, rfl, rfl, hS, atI_nat (j := 1) rfl, _, rfl, _, rfl, t, x, an, as, ns, zs, rfl, ⟨hx, hw.1, hb, by simp only [Tm.dep] at hn; omega⟩, hN, hZ, hE, ?_⟩
      refine tst_no0 rfl hS ((vsT _ .neg).trans rfl) ?_
      refine tst_yes0 rfl hS ((vsT _ .quo).trans rfl) ?_
      have h1 := hw.2.1
      have h2 := hw.2.2
      exact ⟨_, rfl, _, rfl, a, _, 2, _, rfl, rfl, hS, atI_nat (j := 2) rfl, _, _, rfl, rfl, ⟨h1, by omega⟩, q⟩
    | rem t k =>
      obtain ⟨x, y, rfl, hx, hy⟩ := DpAll.two hA
      obtain rfl := Dp.intO hy
      refine tst_no0 rfl hS ((vsT _ .num).trans rfl) ?_; refine tst_no0 rfl hS ((vsT _ .nam).trans rfl) ?_
      refine ⟨_, rfl, a, _, 1, _, rfl, rfl, hS, atI_nat (j := 1) rfl, _, rfl, _, rfl, t, x, an, as, ns, zs, rfl, ⟨hx, hw.1, hb, by simp only [Tm.dep] at hn; omega⟩, hN, hZ, hE, ?_⟩
      refine tst_no0 rfl hS ((vsT _ .neg).trans rfl) ?_; refine tst_no0 rfl hS ((vsT _ .quo).trans rfl) ?_
      refine tst_yes0 rfl hS ((vsT _ .rem).trans rfl) ?_
      have h1 := hw.2.1
      have h2 := hw.2.2
      refine ⟨_, rfl, _, rfl, _, rfl, a, _, 2, _, rfl, rfl, hS, atI_nat (j := 2) rfl, _, _, rfl, rfl, ⟨h1, by omega⟩, _, rfl, a, _, 2, _, rfl, rfl, hS, atI_nat (j := 2) rfl, _, _, rfl, rfl, .inr ⟨by omega, by omega⟩, _, _, rfl, rfl, ?_⟩
      show Q (.int (Tm.val (envOf ns zs) t - Tm.val (envOf ns zs) t / k * k)) H
      rw [show Tm.val (envOf ns zs) t - Tm.val (envOf ns zs) t / k * k = Tm.val (envOf ns zs) t % k from by rw [Int.emod_def, Int.mul_comm]]
      exact q
    | plus t u =>
      obtain ⟨x, y, rfl, hx, hy⟩ := DpAll.two hA
      refine tst_no0 rfl hS ((vsT _ .num).trans rfl) ?_; refine tst_no0 rfl hS ((vsT _ .nam).trans rfl) ?_
      refine ⟨_, rfl, a, _, 1, _, rfl, rfl, hS, atI_nat (j := 1) rfl, _, rfl, _, rfl, t, x, an, as, ns, zs, rfl, ⟨hx, hw.1, hb, by simp only [Tm.dep] at hn; omega⟩, hN, hZ, hE, ?_⟩
      refine tst_no0 rfl hS ((vsT _ .neg).trans rfl) ?_; refine tst_no0 rfl hS ((vsT _ .quo).trans rfl) ?_; refine tst_no0 rfl hS ((vsT _ .rem).trans rfl) ?_
      refine ⟨_, rfl, a, _, 2, _, rfl, rfl, hS, atI_nat (j := 2) rfl, _, rfl, _, rfl, u, y, an, as, ns, zs, rfl, ⟨hy, hw.2, hb, by simp only [Tm.dep] at hn; omega⟩, hN, hZ, hE, ?_⟩
      refine tst_yes0 rfl hS ((vsT _ .plus).trans rfl) ?_
      exact ⟨_, rfl, _, rfl, _, _, rfl, rfl, q⟩
    | minus t u =>
      obtain ⟨x, y, rfl, hx, hy⟩ := DpAll.two hA
      refine tst_no0 rfl hS ((vsT _ .num).trans rfl) ?_; refine tst_no0 rfl hS ((vsT _ .nam).trans rfl) ?_
      refine ⟨_, rfl, a, _, 1, _, rfl, rfl, hS, atI_nat (j := 1) rfl, _, rfl, _, rfl, t, x, an, as, ns, zs, rfl, ⟨hx, hw.1, hb, by simp only [Tm.dep] at hn; omega⟩, hN, hZ, hE, ?_⟩
      refine tst_no0 rfl hS ((vsT _ .neg).trans rfl) ?_; refine tst_no0 rfl hS ((vsT _ .quo).trans rfl) ?_; refine tst_no0 rfl hS ((vsT _ .rem).trans rfl) ?_
      refine ⟨_, rfl, a, _, 2, _, rfl, rfl, hS, atI_nat (j := 2) rfl, _, rfl, _, rfl, u, y, an, as, ns, zs, rfl, ⟨hy, hw.2, hb, by simp only [Tm.dep] at hn; omega⟩, hN, hZ, hE, ?_⟩
      refine tst_no0 rfl hS ((vsT _ .plus).trans rfl) ?_
      refine tst_yes0 rfl hS ((vsT _ .minus).trans rfl) ?_
      exact ⟨_, rfl, _, rfl, _, _, rfl, rfl, q⟩
    | times t u =>
      obtain ⟨x, y, rfl, hx, hy⟩ := DpAll.two hA
      refine tst_no0 rfl hS ((vsT _ .num).trans rfl) ?_; refine tst_no0 rfl hS ((vsT _ .nam).trans rfl) ?_
      refine ⟨_, rfl, a, _, 1, _, rfl, rfl, hS, atI_nat (j := 1) rfl, _, rfl, _, rfl, t, x, an, as, ns, zs, rfl, ⟨hx, hw.2.1, hb, by simp only [Tm.dep] at hn; omega⟩, hN, hZ, hE, ?_⟩
      refine tst_no0 rfl hS ((vsT _ .neg).trans rfl) ?_; refine tst_no0 rfl hS ((vsT _ .quo).trans rfl) ?_; refine tst_no0 rfl hS ((vsT _ .rem).trans rfl) ?_
      refine ⟨_, rfl, a, _, 2, _, rfl, rfl, hS, atI_nat (j := 2) rfl, _, rfl, _, rfl, u, y, an, as, ns, zs, rfl, ⟨hy, hw.2.2, hb, by simp only [Tm.dep] at hn; omega⟩, hN, hZ, hE, ?_⟩
      refine tst_no0 rfl hS ((vsT _ .plus).trans rfl) ?_; refine tst_no0 rfl hS ((vsT _ .minus).trans rfl) ?_
      refine tst_yes0 rfl hS ((vsT _ .times).trans rfl) ?_
      obtain ⟨⟨z, rfl⟩, h1, h2⟩ := hw
      exact ⟨_, rfl, _, rfl, _, _, rfl, rfl, cmul_name (hb z h1), q⟩
    | least t u =>
      obtain ⟨x, y, rfl, hx, hy⟩ := DpAll.two hA
      refine tst_no0 rfl hS ((vsT _ .num).trans rfl) ?_; refine tst_no0 rfl hS ((vsT _ .nam).trans rfl) ?_
      refine ⟨_, rfl, a, _, 1, _, rfl, rfl, hS, atI_nat (j := 1) rfl, _, rfl, _, rfl, t, x, an, as, ns, zs, rfl, ⟨hx, hw.1, hb, by simp only [Tm.dep] at hn; omega⟩, hN, hZ, hE, ?_⟩
      refine tst_no0 rfl hS ((vsT _ .neg).trans rfl) ?_; refine tst_no0 rfl hS ((vsT _ .quo).trans rfl) ?_; refine tst_no0 rfl hS ((vsT _ .rem).trans rfl) ?_
      refine ⟨_, rfl, a, _, 2, _, rfl, rfl, hS, atI_nat (j := 2) rfl, _, rfl, _, rfl, u, y, an, as, ns, zs, rfl, ⟨hy, hw.2, hb, by simp only [Tm.dep] at hn; omega⟩, hN, hZ, hE, ?_⟩
      refine tst_no0 rfl hS ((vsT _ .plus).trans rfl) ?_; refine tst_no0 rfl hS ((vsT _ .minus).trans rfl) ?_; refine tst_no0 rfl hS ((vsT _ .times).trans rfl) ?_
      refine tst_yes0 rfl hS ((vsT _ .least).trans rfl) ?_
      exact ⟨_, rfl, _, rfl, _, _, rfl, q⟩
    | most t u =>
      obtain ⟨x, y, rfl, hx, hy⟩ := DpAll.two hA
      refine tst_no0 rfl hS ((vsT _ .num).trans rfl) ?_; refine tst_no0 rfl hS ((vsT _ .nam).trans rfl) ?_
      refine ⟨_, rfl, a, _, 1, _, rfl, rfl, hS, atI_nat (j := 1) rfl, _, rfl, _, rfl, t, x, an, as, ns, zs, rfl, ⟨hx, hw.1, hb, by simp only [Tm.dep] at hn; omega⟩, hN, hZ, hE, ?_⟩
      refine tst_no0 rfl hS ((vsT _ .neg).trans rfl) ?_; refine tst_no0 rfl hS ((vsT _ .quo).trans rfl) ?_; refine tst_no0 rfl hS ((vsT _ .rem).trans rfl) ?_
      refine ⟨_, rfl, a, _, 2, _, rfl, rfl, hS, atI_nat (j := 2) rfl, _, rfl, _, rfl, u, y, an, as, ns, zs, rfl, ⟨hy, hw.2, hb, by simp only [Tm.dep] at hn; omega⟩, hN, hZ, hE, ?_⟩
      refine tst_no0 rfl hS ((vsT _ .plus).trans rfl) ?_; refine tst_no0 rfl hS ((vsT _ .minus).trans rfl) ?_; refine tst_no0 rfl hS ((vsT _ .times).trans rfl) ?_; refine tst_no0 rfl hS ((vsT _ .least).trans rfl) ?_
      exact ⟨_, rfl, _, rfl, _, _, rfl, q⟩
def spLH (K : PySem.W.Frag) : Sp := fun vs H Q _ => ∃ c v an as ns zs, vs = [v, .ref an, .ref as] ∧ DC K H v c ∧ c.wf ns ∧ SqL K H an (ns.map V.str) ∧ SqT K H as (zs.map V.int) ∧ Env1 ns zs ∧ Q (.bl (c.val (envOf ns zs))) H
theorem ok__law_holds (T : T16 K w mg) : Ok P w K mg base 4 (gA K "_law_holds") ["_law_comparison", "_law_names_here", "_law_state"] (spLH K) := by
  refine mkOk T.F__law_holds sc_qholds (fun _ _ _ _ _ _ us hl => match us, hl with | [_, _, _], _ => rfl) (fun vs H Q E h => ?_) fun cdv A outer s H vs Q E hr h => ?_
  · obtain ⟨c, v, an, as, ns, zs, rfl, _⟩ := h
    rfl
  obtain ⟨c, v, an, as, ns, zs, rfl, hD, hw, hN, hZ, hE, q⟩ := h
  obtain ⟨a, x, y, rfl, hS, hx, hy⟩ := DC.out hD
  refine ⟨_, (pss_cons (ps_set (i := 3) sc_qholds.nd rfl (.inl rfl) (pc (ok__law_value T 3) (hr.mono (by omega)) T.g__law_value (pa_cons (pe_ix ix_tup (pv 0) pe_int (fun _ _ => rfl)) (pa_cons (pv 1) (pa_cons (pv 2) pa_nil)))))
      (pss_cons (ps_set (i := 4) sc_qholds.nd rfl (.inl rfl) (pc (ok__law_value T 3) (hr.mono (by omega)) T.g__law_value (pa_cons (pe_ix ix_tup (pv 0) pe_int (fun _ _ => rfl)) (pa_cons (pv 1) (pa_cons (pv 2) pa_nil)))))
      (pss_cons (ps_if (pt_cmpR op_eq (pe_ix ix_tup (pv 0) pe_int (fun _ _ => rfl)) pe_str (nomark _)) (pss_one (ps_ret (pe_cmpR op_eq (pv 3) (pv 4) (nomark _)))) pss_nil)
      (pss_cons (ps_if (pt_cmpR op_eq (pe_ix ix_tup (pv 0) pe_int (fun _ _ => rfl)) pe_str (nomark _)) (pss_one (ps_ret (pe_cmpR op_lt (pv 3) (pv 4) (nomark _)))) pss_nil)
      (pss_one (ps_ret (pe_cmpR op_le (pv 3) (pv 4) (nomark _)))))))), ?_⟩
  refine ⟨_, rfl, a, _, 1, _, rfl, rfl, hS, atI_nat (j := 1) rfl, _, rfl, _, rfl, c.t, x, an, as, ns, zs, rfl, ⟨hx, hw.t, fun x hx => envOf_big hE hx, hw.dt⟩, hN, hZ, hE, ?_⟩
  refine ⟨_, rfl, a, _, 2, _, rfl, rfl, hS, atI_nat (j := 2) rfl, _, rfl, _, rfl, c.u, y, an, as, ns, zs, rfl, ⟨hy, hw.u, fun x hx => envOf_big hE hx, hw.du⟩, hN, hZ, hE, ?_⟩
  obtain ⟨o, t, u⟩ := c
  cases o with
  | eq =>
    refine tst_yes0 rfl hS ((vsC _ .eq).trans rfl) ?_
    refine ⟨_, rfl, _, rfl, rfl, ?_⟩
    rw [show decide (V.int (Tm.val (envOf ns zs) t) = V.int (Tm.val (envOf ns zs) u)) = decide (Tm.val (envOf ns zs) t = Tm.val (envOf ns zs) u) from by rw [dec_int, Bool.beq_eq_decide_eq]]
    exact q
  | below =>
    refine tst_no0 rfl hS ((vsC _ .eq).trans rfl) ?_
    refine tst_yes0 rfl hS ((vsC _ .below).trans rfl) ?_
    exact ⟨_, rfl, _, rfl, _, _, rfl, rfl, q⟩
  | upto =>
    refine tst_no0 rfl hS ((vsC _ .eq).trans rfl) ?_; refine tst_no0 rfl hS ((vsC _ .below).trans rfl) ?_
    exact ⟨_, rfl, _, rfl, _, _, rfl, rfl, q⟩
end
end W16
set_option Elab.async false
set_option linter.all false
set_option maxRecDepth 100000
set_option maxHeartbeats 4000000
namespace W16
open PySem PySem.Spec PyProof.Rows L2
open Evl (Ex)
/-! ### lists of truths -/
def bls (n : Nat) (f : Nat → Bool) : List V := (List.range n).map fun k => V.bl (f k)
theorem bls_len (n : Nat) (f : Nat → Bool) : (bls n f).length = n := by unfold bls; rw [List.length_map, List.length_range]
theorem bls_get {n : Nat} (f : Nat → Bool) {k : Nat} (h : k < n) : (bls n f)[k]? = some (.bl (f k)) := by
  unfold bls
  rw [List.getElem?_map, List.getElem?_range h]
  rfl
theorem bls_at {n : Nat} (f : Nat → Bool) {k : Nat} (h : k < n) : atI (bls n f) (k : Int) = some (.bl (f k)) := atI_nat (bls_get f h)
theorem bls_congr {n : Nat} {f g : Nat → Bool} (h : ∀ k, k < n → f k = g k) : bls n f = bls n g := by
  unfold bls
  exact List.map_congr_left fun k hk => by rw [h k (List.mem_range.mp hk)]
section
variable {J : It} {n : Nat} {G : Hp → Prop} {Y : Nat → Hp → V → Hp → Prop} {te : TE} {vs : List Nat} {σ : L2.St} {H1 : Hp} {j : Nat} {Qv : VK} {K : PySem.W.Frag} {a : Addr} {xs : List V}
/-- [.. for i in range(n)], truths -/
theorem lcBr (f : Nat → Bool) (hn : n < 100000) (hw : ∀ x, wipe ((wipe σ vs).set j (some x)) vs = wipe σ vs)
    (elem : ∀ i H, i < n → Ex H1 H → Gv te ((wipe σ vs).set j (some (.int (i : Int)))) H (fun y _ => y = .bl (f i)))
    (hd : ∀ D H', H1 D = none → Ex H1 H' → H' D = some (.lst (bls n f)) → Qv (.ref D) H') :
    ∀ D, H1 D = none → ∃ W : Nat → Nat → Hp → Prop, (∃ m, W 0 m (upd H1 D (.lst []))) ∧ ∀ i m H, W i m H →
      ((Itr 0 n).stop i H ∧ Qv (.ref D) H) ∨ ((Itr 0 n).go i H ∧ ∃ Nx : Hp → Prop, (∀ H', Nx H' → ∃ m', m' < m ∧ W (i + 1) m' H') ∧ ∀ x H', (Itr 0 n).yld i H x H' → gName j x (wipe σ vs) H' fun σ2 H2 => wipe σ2 vs = wipe σ vs ∧ tYes σ2 H2 fun b H3 =>
        if b = true then te σ2 H3 fun y H4 => ∃ acc, H4 D = some (.lst acc) ∧ acc.length < sizeLine ∧ Nx (upd H4 D (.lst (acc ++ [y]))) else Nx H3) := by
  refine lcN (walk_range (lo := 0) (n := n)) (fun i y _ => y = .bl (f i)) (fun _ _ _ _ _ h => h) (fun _ _ => trivial) hn hw (fun i x H H' hi e hy => ?_) (fun D H' ys hD e h1 h2 h3 => hd D H' hD e ?_)
  · obtain ⟨rfl, rfl⟩ := hy
    refine ⟨Evl.Ex.refl _, ?_⟩
    have h := elem i _ hi e
    rw [← Int.zero_add (i : Int)] at h
    exact h
  · rw [h1, eq_mapR h2 (fun k => V.bl (f k)) h3]
    rfl
/-- [.. for x in xs], truths -/
theorem lcBl (f : Nat → Bool) (hn : xs.length < 100000) (hS : SqL K H1 a xs) (hw : ∀ x, wipe ((wipe σ vs).set j (some x)) vs = wipe σ vs)
    (elem : ∀ i x H, xs[i]? = some x → Ex H1 H → Gv te ((wipe σ vs).set j (some x)) H (fun y _ => y = .bl (f i)))
    (hd : ∀ D H', H1 D = none → Ex H1 H' → H' D = some (.lst (bls xs.length f)) → Qv (.ref D) H') :
    ∀ D, H1 D = none → ∃ W : Nat → Nat → Hp → Prop, (∃ m, W 0 m (upd H1 D (.lst []))) ∧ ∀ i m H, W i m H →
      ((Itl K a).stop i H ∧ Qv (.ref D) H) ∨ ((Itl K a).go i H ∧ ∃ Nx : Hp → Prop, (∀ H', Nx H' → ∃ m', m' < m ∧ W (i + 1) m' H') ∧ ∀ x H', (Itl K a).yld i H x H' → gName j x (wipe σ vs) H' fun σ2 H2 => wipe σ2 vs = wipe σ vs ∧ tYes σ2 H2 fun b H3 =>
        if b = true then te σ2 H3 fun y H4 => ∃ acc, H4 D = some (.lst acc) ∧ acc.length < sizeLine ∧ Nx (upd H4 D (.lst (acc ++ [y]))) else Nx H3) := by
  refine lcN (walk_list (K := K) (a := a) (xs := xs)) (fun i y _ => y = .bl (f i)) (fun _ _ _ _ _ h => h) (fun _ e => Evl.ex_l e hS) hn hw (fun i x H H' hi e hy => ?_) (fun D H' ys hD e h1 h2 h3 => hd D H' hD e ?_)
  · obtain ⟨rfl, hx⟩ := hy
    exact ⟨Evl.Ex.refl _, elem i x _ hx e⟩
  · rw [h1, eq_mapR h2 (fun k => V.bl (f k)) h3]
    rfl
end

section
variable {K : PySem.W.Frag} {te : TE} {vs : List Nat} {σ : L2.St} {H : Hp} {j m n : Nat} {Q : VK} {xs : List V} {a : Addr}
def RetB (n : Nat) (f : Nat → Bool) (H : Hp) (Q : VK) : Prop := ∀ D H', H D = none → Ex H H' → H' D = some (.lst (bls n f)) → Q (.ref D) H'
theorem tRngB (f : Nat → Bool) (hm : σ[m]? = some (some (.int (n : Int)))) (hn : n ≤ 1000) (hw : ∀ x, wipe ((wipe σ vs).set j (some x)) vs = wipe σ vs)
    (elem : ∀ i H', i < n → Ex H H' → Gv te ((wipe σ vs).set j (some (.int (i : Int)))) H' (fun y _ => y = .bl (f i))) (q : RetB n f H Q) : tLc (iRng1 (tCons (tVar m) tNil)) (gName j) tYes te vs σ H Q :=
  ⟨_, hm, (n : Int), rfl, by omega, by omega, lcBr f (by omega) hw elem q⟩
theorem tLstB (f : Nat → Bool) (hm : σ[m]? = some (some (.ref a))) (hS : SqL K H a xs) (hn : xs.length ≤ 1000) (hw : ∀ x, wipe ((wipe σ vs).set j (some x)) vs = wipe σ vs)
    (elem : ∀ i x H', xs[i]? = some x → Ex H H' → Gv te ((wipe σ vs).set j (some x)) H' (fun y _ => y = .bl (f i))) (q : RetB xs.length f H Q) : tLc (iList K (tVar m)) (gName j) tYes te vs σ H Q :=
  ⟨_, hm, a, rfl, ⟨xs, hS⟩, lcBl f (by omega) hS hw elem q⟩
/-- over a list of truths -/
theorem tLstB2 (g f : Nat → Bool) (hm : σ[m]? = some (some (.ref a))) (hS : SqL K H a (bls n g)) (hn : n ≤ 1000) (hw : ∀ x, wipe ((wipe σ vs).set j (some x)) vs = wipe σ vs)
    (elem : ∀ i H', i < n → Ex H H' → Gv te ((wipe σ vs).set j (some (.bl (g i)))) H' (fun y _ => y = .bl (f i))) (q : RetB n f H Q) : tLc (iList K (tVar m)) (gName j) tYes te vs σ H Q := by
  refine tLstB f hm hS (by rw [bls_len]; exact hn) hw (fun i x H' hx e => ?_) (by rw [bls_len]; exact q)
  have hi : i < n := by
    have h := (List.getElem?_eq_some_iff.mp hx).1
    rwa [bls_len] at h
  rw [bls_get g hi] at hx
  rw [← Option.some.inj hx]
  exact elem i H' hi e
end
def spAft : Sp := fun vs H Q _ => ∃ k b n : Nat, vs = [.int k, .int b, .int n] ∧ Q (.int (aft n b k : Nat)) H
def spWalk (K : PySem.W.Frag) : Sp := fun vs H Q _ => ∃ (k back n : Nat) (a1 a2 : Addr) (b a : Nat → Bool) (e : Bool), vs = [.int k, .int back, .ref a1, .ref a2, .bl e] ∧ k < n ∧ back < n ∧ n ≤ 1000 ∧ SqL K H a1 (bls n b) ∧ SqL K H a2 (bls n a) ∧ Q (.bl (W (aft n back) b a e n k)) H
def spTempo (K : PySem.W.Frag) : Sp := fun vs H Q _ => ∃ (r : Rn) (w : BO) (a1 a2 : Addr) (f g : Nat → Bool), vs = [.str w.s, .ref a1, .ref a2, .int r.back] ∧ (w = .til ∨ w = .rel ∨ w = .unl ∨ w = .strong) ∧ r.back < r.n ∧ r.n ≤ 1000 ∧ SqL K H a1 (bls r.n f) ∧ SqL K H a2 (bls r.n g) ∧ RetB r.n (tempo r w f g) H Q
section
variable {P : Program} {w : World} {K : PySem.W.Frag} {mg : Str → Option Value} {base : Heap}
abbrev nm_qafter : List Str := ["_law_place", "_law_back", "_law_many_here"]
theorem sc_qafter : FnScope nm_qafter ["_law_place", "_law_back", "_law_many_here"] (defScope s_qafter) := ⟨rfl, rfl, rfl, by decide +kernel, rfl, by decide +kernel, by decide +kernel⟩
theorem ok__law_after (T : T16 K w mg) : Ok P w K mg base 1 (gA K "_law_after") ["_law_place", "_law_back", "_law_many_here"] spAft := by
  refine mkOk T.F__law_after sc_qafter (fun _ _ _ _ _ _ us hl => match us, hl with | [_, _, _], _ => rfl) (fun vs H Q E h => ?_) fun cdv A outer s H vs Q E hr h => ?_
  · obtain ⟨k, b, n, rfl, _⟩ := h
    rfl
  obtain ⟨k, b, n, rfl, q⟩ := h
  refine ⟨_, (pss_cons (ps_if (pt_cmpR op_lt (pe_op op_add (pv 0) pe_int) (pv 2) (nomark _)) (pss_one (ps_ret (pe_op op_add (pv 0) pe_int))) pss_nil)
      (pss_one (ps_ret (pv 1)))), ?_⟩
  refine ⟨_, rfl, _, _, rfl, rfl, _, rfl, _, _, rfl, rfl, _, rfl, ite2 (fun c => ?_) (fun c => ?_)⟩
  · have c' : (k : Int) + 1 < n := of_decide_eq_true c
    have e : ((aft n b k : Nat) : Int) = (k : Int) + 1 := by unfold aft; rw [if_pos (by omega)]; omega
    rw [e] at q
    exact ⟨_, rfl, _, _, rfl, rfl, q⟩
  · have c' : ¬ (k : Int) + 1 < n := fun z => c (decide_eq_true z)
    have e : aft n b k = b := by unfold aft; rw [if_neg (by omega)]
    rw [e] at q
    exact ⟨_, rfl, q⟩
abbrev nm_qwalk : List Str := ["_law_place", "_law_back", "_law_first", "_law_second", "_law_end", "_law_step"]
theorem sc_qwalk : FnScope nm_qwalk ["_law_place", "_law_back", "_law_first", "_law_second", "_law_end"] (defScope s_qwalk) := ⟨rfl, rfl, rfl, by decide +kernel, rfl, by decide +kernel, by decide +kernel⟩
theorem ok__law_walk (T : T16 K w mg) : Ok P w K mg base 2 (gA K "_law_walk") ["_law_place", "_law_back", "_law_first", "_law_second", "_law_end"] (spWalk K) := by
  refine mkOk T.F__law_walk sc_qwalk (fun _ _ _ _ _ _ us hl => match us, hl with | [_, _, _, _, _], _ => rfl) (fun vs H Q E h => ?_) fun cdv A outer s H vs Q E hr h => ?_
  · obtain ⟨k, back, n, a1, a2, b, a, e, rfl, _⟩ := h
    rfl
  obtain ⟨k, back, n, a1, a2, b, a, e, rfl, hk, hb, hn, h1, h2, q⟩ := h
  refine ⟨_, (pss_cons (ps_for PassesOwn.never rfl (pi_range1 (by rfl) T.z_range (pa_cons (pe_callB call_len (by rfl) T.z_len (by decide +kernel) (pa_cons (pv 2) pa_nil)) pa_nil)) (pg_name (i := 5) sc_qwalk.nd rfl (.inl rfl)) (pss_cons (ps_if (pt_val (pe_ix ix_list (pv 3) (pv 0) (fun _ _ => rfl))) (pss_one (ps_ret pe_bl)) pss_nil)
      (pss_cons (ps_if (pt_not (pt_val (pe_ix ix_list (pv 2) (pv 0) (fun _ _ => rfl)))) (pss_one (ps_ret pe_bl)) pss_nil)
      (pss_one (ps_set (i := 0) sc_qwalk.nd rfl (.inl rfl) (pc (ok__law_after T) (hr.mono (by omega)) T.g__law_after (pa_cons (pv 0) (pa_cons (pv 1) (pa_cons (pe_callB call_len (by rfl) T.z_len (by decide +kernel) (pa_cons (pv 2) pa_nil)) pa_nil)))))))))
      (pss_one (ps_ret (pv 4)))), ?_⟩
  refine ⟨_, rfl, _, n, rfl, .inl ⟨_, h1, (bls_len n b).symm⟩, (n : Int), rfl, by omega, by omega, for_range (lo := 0) (n := n) (fun i σ H' => H' = H ∧ ∃ p y, σ = [some (.int (p : Nat)), some (.int back), some (.ref a1), some (.ref a2), some (.bl e), y] ∧ p < n ∧ W (aft n back) b a e n k = W (aft n back) b a e (n - i) p) ⟨rfl, k, none, rfl, hk, rfl⟩ ?_ ?_⟩
  · rintro i σ H' hi ⟨rfl, p, y, rfl, hp, hw⟩
    have ei : n - i = (n - (i + 1)) + 1 := by omega
    rw [ei, W_succ] at hw
    refine ⟨_, rfl, _, rfl, a2, _, _, _, rfl, rfl, h2, bls_at a hp, _, rfl, ite2 (fun c => ?_) (fun c => ?_)⟩
    · have e1 : W (aft n back) b a e n k = true := by rw [hw]; unfold stp; rw [if_pos c]
      rw [e1] at q
      exact q
    refine ⟨_, rfl, _, rfl, a1, _, _, _, rfl, rfl, h1, bls_at b hp, _, rfl, ?_⟩
    refine ite2 (fun c2 => ?_) (fun c2 => ?_)
    · have e1 : W (aft n back) b a e n k = false := by rw [hw]; unfold stp; rw [if_neg c, if_pos c2]
      rw [e1] at q
      exact q
    have e1 : W (aft n back) b a e n k = W (aft n back) b a e (n - (i + 1)) (aft n back p) := by rw [hw]; unfold stp; rw [if_neg c, if_neg c2]
    refine ⟨_, rfl, _, rfl, _, rfl, _, n, rfl, .inl ⟨_, h1, (bls_len n b).symm⟩, p, back, n, rfl, rfl, aft n back p, _, rfl, aft_lt hb, e1⟩
  · rintro σ H' ⟨rfl, p, y, rfl, hp, hw⟩
    rw [Nat.sub_self] at hw
    have e1 : W (aft n back) b a e n k = e := hw
    rw [e1] at q
    exact ⟨_, rfl, q⟩
abbrev nm_qtemporal : List Str := ["_law_word", "_law_first", "_law_second", "_law_back", "_law_many_here", "_law_both", "_law_no_first", "_law_no_second", "_law_k", "_law_bit"]
theorem sc_qtemporal : FnScope nm_qtemporal ["_law_word", "_law_first", "_law_second", "_law_back"] (defScope s_qtemporal) := ⟨rfl, rfl, rfl, by decide +kernel, rfl, by decide +kernel, by decide +kernel⟩
theorem ok__law_temporal (T : T16 K w mg) : Ok P w K mg base 3 (gA K "_law_temporal") ["_law_word", "_law_first", "_law_second", "_law_back"] (spTempo K) := by
  refine mkOk T.F__law_temporal sc_qtemporal (fun _ _ _ _ _ _ us hl => match us, hl with | [_, _, _, _], _ => rfl) (fun vs H Q E h => ?_) fun cdv A outer s H vs Q E hr h => ?_
  · obtain ⟨r, o, a1, a2, f, g, rfl, _⟩ := h
    rfl
  obtain ⟨r, o, a1, a2, f, g, rfl, ho, hb, hn, h1, h2, q⟩ := h
  refine ⟨_, (pss_cons (ps_set (i := 4) sc_qtemporal.nd rfl (.inl rfl) (pe_callB call_len (by rfl) T.z_len (by decide +kernel) (pa_cons (pv 1) pa_nil)))
      (pss_cons (ps_if (pt_cmpR op_eq (pv 0) pe_str (nomark _)) (pss_one (ps_ret (pe_lc (own := [("_law_k", 8)]) rfl sc_qtemporal.nd (pi_range1 (by rfl) T.z_range (pa_cons (pv 4) pa_nil)) (blkOk_by (own := [("_law_k", 8)]) (N := nm_qtemporal) (sc := defScope s_qtemporal) (by decide +kernel)) (fun _ _ _ _ _ => (pg_name (i := 8) sc_qtemporal.nd rfl (.inl rfl))) (fun _ _ _ _ _ => pts_nil) (fun _ _ _ _ _ => (pc (ok__law_walk T) (hr.mono (by omega)) T.g__law_walk (pa_cons (pv 8) (pa_cons (pv 3) (pa_cons (pv 1) (pa_cons (pv 2) (pa_cons pe_bl pa_nil)))))))))) pss_nil)
      (pss_cons (ps_if (pt_cmpR op_eq (pv 0) pe_str (nomark _)) (pss_one (ps_ret (pe_lc (own := [("_law_k", 8)]) rfl sc_qtemporal.nd (pi_range1 (by rfl) T.z_range (pa_cons (pv 4) pa_nil)) (blkOk_by (own := [("_law_k", 8)]) (N := nm_qtemporal) (sc := defScope s_qtemporal) (by decide +kernel)) (fun _ _ _ _ _ => (pg_name (i := 8) sc_qtemporal.nd rfl (.inl rfl))) (fun _ _ _ _ _ => pts_nil) (fun _ _ _ _ _ => (pc (ok__law_walk T) (hr.mono (by omega)) T.g__law_walk (pa_cons (pv 8) (pa_cons (pv 3) (pa_cons (pv 1) (pa_cons (pv 2) (pa_cons pe_bl pa_nil)))))))))) pss_nil)
      (pss_cons (ps_if (pt_cmpR op_eq (pv 0) pe_str (nomark _)) (pss_cons (ps_set (i := 5) sc_qtemporal.nd rfl (.inr rfl) (pe_lc (own := [("_law_k", 8)]) rfl sc_qtemporal.nd (pi_range1 (by rfl) T.z_range (pa_cons (pv 4) pa_nil)) (blkOk_by (own := [("_law_k", 8)]) (N := nm_qtemporal) (sc := defScope s_qtemporal) (by decide +kernel)) (fun _ _ _ _ _ => (pg_name (i := 8) sc_qtemporal.nd rfl (.inl rfl))) (fun _ _ _ _ _ => pts_nil) (fun _ _ _ _ _ => (pe_and (pe_ix (show IxR _ (rIxL K) from ix_list) (pv 1) (pv 8) (fun _ _ => rfl)) (pe_one (pe_ix (show IxR _ (rIxL K) from ix_list) (pv 2) (pv 8) (fun _ _ => rfl)))))))
      (pss_one (ps_ret (pe_lc (own := [("_law_k", 8)]) rfl sc_qtemporal.nd (pi_range1 (by rfl) T.z_range (pa_cons (pv 4) pa_nil)) (blkOk_by (own := [("_law_k", 8)]) (N := nm_qtemporal) (sc := defScope s_qtemporal) (by decide +kernel)) (fun _ _ _ _ _ => (pg_name (i := 8) sc_qtemporal.nd rfl (.inl rfl))) (fun _ _ _ _ _ => pts_nil) (fun _ _ _ _ _ => (pc (ok__law_walk T) (hr.mono (by omega)) T.g__law_walk (pa_cons (pv 8) (pa_cons (pv 3) (pa_cons (pv 2) (pa_cons (pv 5) (pa_cons pe_bl pa_nil))))))))))) pss_nil)
      (pss_cons (ps_set (i := 6) sc_qtemporal.nd rfl (.inr rfl) (pe_lc (own := [("_law_bit", 9)]) rfl sc_qtemporal.nd (pi_list (pv 1)) (blkOk_by (own := [("_law_bit", 9)]) (N := nm_qtemporal) (sc := defScope s_qtemporal) (by decide +kernel)) (fun _ _ _ _ _ => (pg_name (i := 9) sc_qtemporal.nd rfl (.inl rfl))) (fun _ _ _ _ _ => pts_nil) (fun _ _ _ _ _ => (pe_not (pv 9)))))
      (pss_cons (ps_set (i := 7) sc_qtemporal.nd rfl (.inr rfl) (pe_lc (own := [("_law_bit", 9)]) rfl sc_qtemporal.nd (pi_list (pv 2)) (blkOk_by (own := [("_law_bit", 9)]) (N := nm_qtemporal) (sc := defScope s_qtemporal) (by decide +kernel)) (fun _ _ _ _ _ => (pg_name (i := 9) sc_qtemporal.nd rfl (.inl rfl))) (fun _ _ _ _ _ => pts_nil) (fun _ _ _ _ _ => (pe_not (pv 9)))))
      (pss_one (ps_ret (pe_lc (own := [("_law_k", 8)]) rfl sc_qtemporal.nd (pi_range1 (by rfl) T.z_range (pa_cons (pv 4) pa_nil)) (blkOk_by (own := [("_law_k", 8)]) (N := nm_qtemporal) (sc := defScope s_qtemporal) (by decide +kernel)) (fun _ _ _ _ _ => (pg_name (i := 8) sc_qtemporal.nd rfl (.inl rfl))) (fun _ _ _ _ _ => pts_nil) (fun _ _ _ _ _ => (pe_not (pc (ok__law_walk T) (hr.mono (by omega)) T.g__law_walk (pa_cons (pv 8) (pa_cons (pv 3) (pa_cons (pv 6) (pa_cons (pv 7) (pa_cons pe_bl pa_nil))))))))))))))))), ?_⟩
  refine ⟨_, rfl, _, r.n, rfl, .inl ⟨_, h1, (bls_len _ _).symm⟩, ?_⟩
  have gW : ∀ {σ : L2.St} {H' : Hp} {b1 b2 : Addr} {b a : Nat → Bool} {e : Bool} {i j1 j2 : Nat}, i < r.n → σ[8]? = some (some (.int (i : Int))) → σ[3]? = some (some (.int (r.back : Int))) → σ[j1]? = some (some (.ref b1)) → σ[j2]? = some (some (.ref b2)) → SqL K H' b1 (bls r.n b) → SqL K H' b2 (bls r.n a) →
      Gv (tCall (spWalk K) [] E0 (tCons (tVar 8) (tCons (tVar 3) (tCons (tVar j1) (tCons (tVar j2) (tCons (tC (.bl e)) tNil)))))) σ H' (fun y _ => y = .bl (r.W b a e i)) :=
    fun {σ H' b1 b2 b a e i j1 j2} hi e1 e2 e3 e4 s1 s2 Q' hQ => ⟨_, e1, _, e2, _, e3, _, e4, i, r.back, r.n, b1, b2, b, a, e, rfl, hi, hb, hn, s1, s2, hQ _ _ (Evl.Ex.refl _) rfl⟩
  refine ⟨_, rfl, rfl, _, rfl, ?_⟩
  rw [show V.str "until" = V.str BO.til.s from rfl, vsB]
  refine ite2 (fun c => ?_) (fun c1 => ?_)
  · have eo : o = .til := of_decide_eq_true c
    subst eo
    exact tRngB _ rfl hn (fun _ => rfl) (fun i H' hi e => gW hi rfl rfl rfl rfl (Evl.ex_l e h1) (Evl.ex_l e h2)) q
  refine ⟨_, rfl, rfl, _, rfl, ?_⟩
  rw [show V.str "unless" = V.str BO.unl.s from rfl, vsB]
  refine ite2 (fun c => ?_) (fun c2 => ?_)
  · have eo : o = .unl := of_decide_eq_true c
    subst eo
    exact tRngB _ rfl hn (fun _ => rfl) (fun i H' hi e => gW hi rfl rfl rfl rfl (Evl.ex_l e h1) (Evl.ex_l e h2)) q
  refine ⟨_, rfl, rfl, _, rfl, ?_⟩
  rw [show V.str "strong" = V.str BO.strong.s from rfl, vsB]
  refine ite2 (fun c => ?_) (fun c3 => ?_)
  · have eo : o = .strong := of_decide_eq_true c
    subst eo
    dsimp only [tSeq, tAsg, tNext, tRet]
    refine tRngB (fun k => f k && g k) rfl hn (fun _ => rfl) (fun i H' hi e Q' hQ => ?_) fun D H1 hD e1 hB => ?_
    · refine ⟨_, rfl, _, rfl, a1, _, _, _, rfl, rfl, Evl.ex_l e h1, bls_at f hi, _, rfl, ite2 (fun c => ?_) (fun c => ?_)⟩
      · exact ⟨_, rfl, _, rfl, a2, _, _, _, rfl, rfl, Evl.ex_l e h2, bls_at g hi, hQ _ _ (Evl.Ex.refl _) (by rw [c]; rfl)⟩
      · exact hQ _ _ (Evl.Ex.refl _) (by rw [eq_false_of_ne_true c]; rfl)
    dsimp only [gName]
    exact tRngB _ rfl hn (fun _ => rfl) (fun i H' hi e => gW hi rfl rfl rfl rfl (Evl.ex_l (e1.trans e) h2) (Evl.ex_l e (SqL.of hB))) fun D H2 hD e2 => q D H2 (by
      cases z : H D with
      | none => rfl
      | some o => rw [e1 _ _ z] at hD; cases hD) (e1.trans e2)
  have eo : o = .rel := by
    rcases ho with e | e | e | e
    · exact absurd (decide_eq_true e) c1
    · exact e
    · exact absurd (decide_eq_true e) c2
    · exact absurd (decide_eq_true e) c3
  subst eo
  dsimp only [tSeq, tAsg, tNext, tRet]
  refine tLstB2 f (fun k => !f k) rfl h1 hn (fun _ => rfl) (fun i H' hi e Q' hQ => ⟨_, rfl, _, rfl, hQ _ _ (Evl.Ex.refl _) rfl⟩) fun D1 H1 hD1 e1 hB1 => ?_
  dsimp only [gName, tSeq, tAsg, tRet]
  refine tLstB2 g (fun k => !g k) rfl (Evl.ex_l e1 h2) hn (fun _ => rfl) (fun i H' hi e Q' hQ => ⟨_, rfl, _, rfl, hQ _ _ (Evl.Ex.refl _) rfl⟩) fun D2 H2 hD2 e2 hB2 => ?_
  refine tRngB _ rfl hn (fun _ => rfl) (fun i H' hi e Q' hQ => gW hi rfl rfl rfl rfl (Evl.ex_l (e2.trans e) (SqL.of hB1)) (Evl.ex_l e (SqL.of hB2)) _ fun y H4 e4 hy => ⟨_, hy, hQ _ _ e4 rfl⟩) fun D H3 hD e3 => q D H3 ?_ ((e1.trans e2).trans e3)
  cases z : H D with
  | none => rfl
  | some o => rw [e2 _ _ (e1 _ _ z)] at hD; cases hD
end
end W16
set_option Elab.async false
set_option linter.all false
set_option maxRecDepth 100000
set_option maxHeartbeats 4000000
namespace W16
open PySem PySem.Spec PyProof.Rows L2
open Evl (Ex)
/-! ### runs -/
structure RunOk (K : PySem.W.Frag) (H : Hp) (ns : List Str) (r : Rn) (xs : List V) : Prop where
  len : xs.length = r.n
  hn : r.n ≤ 100
  hb : r.back < r.n
  st : ∀ i x, xs[i]? = some x → ∃ a zs, x = .ref a ∧ SqT K H a (zs.map V.int) ∧ Env1 ns zs ∧ r.env i = envOf ns zs
theorem RunOk.ex {K : PySem.W.Frag} {H H' : Hp} {ns : List Str} {r : Rn} {xs : List V} (h : RunOk K H ns r xs) (e : Ex H H') : RunOk K H' ns r xs :=
  ⟨h.len, h.hn, h.hb, fun i x hx => let ⟨a, zs, h1, h2, h3, h4⟩ := h.st i x hx; ⟨a, zs, h1, Evl.ex_t e h2, h3, h4⟩⟩
def spAlong (K : PySem.W.Frag) (n : Nat) : Sp := fun vs H Q _ => ∃ (f : Fm) (v : V) (an ar : Addr) (ns : List Str) (r : Rn) (xs : List V), vs = [v, .ref an, .ref ar, .int r.back] ∧ DF K H v f ∧ f.wf ns ∧ f.dep ≤ n ∧ SqL K H an (ns.map V.str) ∧ SqL K H ar xs ∧ RunOk K H ns r xs ∧ RetB r.n (ho r f) H Q
theorem wf_un {ns : List Str} {w : UO} {f : Fm} (h : (Fm.un w f).wf ns) : f.wf ns := h
theorem wf_bin {ns : List Str} {w : BO} {f g : Fm} (h : (Fm.bin w f g).wf ns) : f.wf ns ∧ g.wf ns := ⟨fun c hc => h c (List.mem_append_left _ hc), fun c hc => h c (List.mem_append_right _ hc)⟩
theorem RetB.ex {n : Nat} {f : Nat → Bool} {H H1 : Hp} {Q : VK} (q : RetB n f H Q) (e : Ex H H1) : RetB n f H1 Q := fun D H' hD e' hB => q D H' (by
  cases z : H D with
  | none => rfl
  | some o => rw [e _ _ z] at hD; cases hD) (e.trans e') hB
/-! ### is a word among some -/
def tStrs : List Str → TA
  | [] => tNil
  | w :: r => tCons (tC (.str w)) (tStrs r)
theorem tStrs_run {σ : L2.St} {H : Hp} : ∀ (ws : List Str) {R : List V → Hp → Prop}, R (ws.map V.str) H → tStrs ws σ H R
  | [], _, h => h
  | w :: r, R, h => tStrs_run r (R := fun xs H1 => R (.str w :: xs) H1) h
theorem inV_strs (x : Str) : ∀ ws : List Str, inV (.str x) (ws.map V.str) = decide (x ∈ ws)
  | [] => by simp [inV]
  | w :: r => by
    have h := inV_strs x r
    unfold inV at h ⊢
    rw [List.map_cons, List.any_cons, h]
    show ((w == x) || _) = _
    by_cases e : w = x
    · rw [e]; simp
    · rw [beq_eq_false_iff_ne.mpr e, Bool.false_or]
      have e' : ¬ x = w := fun z => e z.symm
      simp [e']
theorem tst_in {K : PySem.W.Frag} {te : TE} {t u : TS} {D : Ends} {σ : L2.St} {H : Hp} {x : Str} (ws : List Str) (hz : ws.length ≤ sizeLine) (he : ∀ R : VK, R (.str x) H → te σ H R) (k : ∀ H1, Ex H H1 → if decide (x ∈ ws) = true then t D σ H1 else u D σ H1) :
    tIfS (tTest (tOp (rIn K false) te (tTup (tStrs ws)))) t u D σ H := by
  refine he _ (tStrs_run ws ⟨by rw [List.length_map]; exact hz, fun p hp => ⟨p, _, rfl, .inr (SqT.of upd_same), rfl, flat_strs ws, _, rfl, ?_⟩⟩)
  show if inV (.str x) (ws.map V.str) = true then _ else _
  rw [inV_strs]
  exact k _ (Evl.Ex.new hp)
theorem nxt {D : Ends} {σ : L2.St} {H : Hp} (h : D.nx σ H) : tNext D σ H := h
theorem cmp_in (g : FG) : decide (g.s ∈ (["equal", "below", "upto"] : List Str)) = g.isCmp := by
  cases g with
  | tt => decide +kernel
  | ff => decide +kernel
  | c o => cases o <;> decide +kernel
  | u o => cases o <;> decide +kernel
  | b o => cases o <;> decide +kernel
section
variable {P : Program} {w : World} {K : PySem.W.Frag} {mg : Str → Option Value} {base : Heap}
abbrev nm_qalong : List Str := ["_law_tree", "_law_names_here", "_law_run", "_law_back", "_law_word", "_law_many_here", "_law_first", "_law_second", "_law_state", "_law_bit", "_law_k"]
theorem sc_qalong : FnScope nm_qalong ["_law_tree", "_law_names_here", "_law_run", "_law_back"] (defScope s_qalong) := ⟨rfl, rfl, rfl, by decide +kernel, rfl, by decide +kernel, by decide +kernel⟩
theorem ok__law_along (T : T16 K w mg) : ∀ n, Ok P w K mg base (n + 5) (gA K "_law_along") ["_law_tree", "_law_names_here", "_law_run", "_law_back"] (spAlong K n)
  | 0 => (no_ok T.F__law_along (fun _ _ _ _ _ _ us hl => match us, hl with | [_, _, _, _], _ => rfl) (fun vs H Q E h => by
      obtain ⟨f, v, an, ar, ns, r, xs, _, _, _, h, _⟩ := h
      have h2 := W16.dep_pos f
      omega)).mono (Nat.zero_le _)
  | n + 1 => by
    have ih : Ok P w K mg base (n + 5) (gA K "_law_along") ["_law_tree", "_law_names_here", "_law_run", "_law_back"] (spAlong K n) := ok__law_along T n
    refine mkOk T.F__law_along sc_qalong (fun _ _ _ _ _ _ us hl => match us, hl with | [_, _, _, _], _ => rfl) (fun vs H Q E h => ?_) fun cdv A outer s H vs Q E hr h => ?_
    · obtain ⟨f, v, an, ar, ns, r, xs, rfl, _⟩ := h
      rfl
    obtain ⟨f, v, an, ar, ns, r, xs, rfl, hD, hw, hdp, hN, hR, hO, q⟩ := h
    obtain ⟨a, ys, rfl, hS, hA⟩ := DF.out hD
    refine ⟨_, (pss_cons (ps_set (i := 4) sc_qalong.nd rfl (.inr rfl) (pe_ix ix_tup (pv 0) pe_int (fun _ _ => rfl)))
      (pss_cons (ps_set (i := 5) sc_qalong.nd rfl (.inr rfl) (pe_callB call_len (by rfl) T.z_len (by decide +kernel) (pa_cons (pv 2) pa_nil)))
      (pss_cons (ps_if (PW.pt (pw_or (pt_cmpR op_eq (pv 4) pe_str (nomark _)) (pw_or1 (pt_cmpR op_eq (pv 4) pe_str (nomark _))))) (pss_one (ps_ret (pe_lc (own := [("_law_state", 8)]) rfl sc_qalong.nd (pi_list (pv 2)) (blkOk_by (own := [("_law_state", 8)]) (N := nm_qalong) (sc := defScope s_qalong) (by decide +kernel)) (fun _ _ _ _ _ => (pg_name (i := 8) sc_qalong.nd rfl (.inl rfl))) (fun _ _ _ _ _ => pts_nil) (fun _ _ _ _ _ => (pe_cmpR op_eq (pv 4) pe_str (nomark _)))))) pss_nil)
      (pss_cons (ps_if (pt_cmpR op_in_seq (pv 4) (pe_tup (pa_cons pe_str (pa_cons pe_str (pa_cons pe_str pa_nil)))) (by rfl)) (pss_one (ps_ret (pe_lc (own := [("_law_state", 8)]) rfl sc_qalong.nd (pi_list (pv 2)) (blkOk_by (own := [("_law_state", 8)]) (N := nm_qalong) (sc := defScope s_qalong) (by decide +kernel)) (fun _ _ _ _ _ => (pg_name (i := 8) sc_qalong.nd rfl (.inl rfl))) (fun _ _ _ _ _ => pts_nil) (fun _ _ _ _ _ => (pc (ok__law_holds T) (hr.mono (by omega)) T.g__law_holds (pa_cons (pv 0) (pa_cons (pv 1) (pa_cons (pv 8) pa_nil)))))))) pss_nil)
      (pss_cons (ps_set (i := 6) sc_qalong.nd rfl (.inr rfl) (pc ih (hr.mono (by omega)) T.g__law_along (pa_cons (pe_ix ix_tup (pv 0) pe_int (fun _ _ => rfl)) (pa_cons (pv 1) (pa_cons (pv 2) (pa_cons (pv 3) pa_nil))))))
      (pss_cons (ps_if (pt_cmpR op_eq (pv 4) pe_str (nomark _)) (pss_one (ps_ret (pe_lc (own := [("_law_bit", 9)]) rfl sc_qalong.nd (pi_list (pv 6)) (blkOk_by (own := [("_law_bit", 9)]) (N := nm_qalong) (sc := defScope s_qalong) (by decide +kernel)) (fun _ _ _ _ _ => (pg_name (i := 9) sc_qalong.nd rfl (.inl rfl))) (fun _ _ _ _ _ => pts_nil) (fun _ _ _ _ _ => (pe_not (pv 9)))))) pss_nil)
      (pss_cons (ps_if (pt_cmpR op_eq (pv 4) pe_str (nomark _)) (pss_one (ps_ret (pe_lc (own := [("_law_k", 10)]) rfl sc_qalong.nd (pi_range1 (by rfl) T.z_range (pa_cons (pv 5) pa_nil)) (blkOk_by (own := [("_law_k", 10)]) (N := nm_qalong) (sc := defScope s_qalong) (by decide +kernel)) (fun _ _ _ _ _ => (pg_name (i := 10) sc_qalong.nd rfl (.inl rfl))) (fun _ _ _ _ _ => pts_nil) (fun _ _ _ _ _ => (pe_ix (show IxR _ (rIxL K) from ix_list) (pv 6) (pc (ok__law_after T) (hr.mono (by omega)) T.g__law_after (pa_cons (pv 10) (pa_cons (pv 3) (pa_cons (pv 5) pa_nil)))) (fun _ _ => rfl)))))) pss_nil)
      (pss_cons (ps_if (pt_cmpR op_eq (pv 4) pe_str (nomark _)) (pss_one (ps_ret (pe_lc (own := [("_law_k", 10)]) rfl sc_qalong.nd (pi_range1 (by rfl) T.z_range (pa_cons (pv 5) pa_nil)) (blkOk_by (own := [("_law_k", 10)]) (N := nm_qalong) (sc := defScope s_qalong) (by decide +kernel)) (fun _ _ _ _ _ => (pg_name (i := 10) sc_qalong.nd rfl (.inl rfl))) (fun _ _ _ _ _ => pts_nil) (fun _ _ _ _ _ => (pc (ok__law_walk T) (hr.mono (by omega)) T.g__law_walk (pa_cons (pv 10) (pa_cons (pv 3) (pa_cons (pe_lc (own := [("_law_bit", 9)]) rfl sc_qalong.nd (show PI _ _ _ (iList K _) from (pi_list (pv 6))) (blkOk_by (own := [("_law_bit", 9)]) (by kernel_rfl)) (fun _ _ _ _ _ => (pg_name (i := 9) sc_qalong.nd rfl (.inl rfl))) (fun _ _ _ _ _ => pts_nil) (fun _ _ _ _ _ => pe_bl)) (pa_cons (pv 6) (pa_cons pe_bl pa_nil)))))))))) pss_nil)
      (pss_cons (ps_if (pt_cmpR op_eq (pv 4) pe_str (nomark _)) (pss_one (ps_ret (pe_lc (own := [("_law_k", 10)]) rfl sc_qalong.nd (pi_range1 (by rfl) T.z_range (pa_cons (pv 5) pa_nil)) (blkOk_by (own := [("_law_k", 10)]) (N := nm_qalong) (sc := defScope s_qalong) (by decide +kernel)) (fun _ _ _ _ _ => (pg_name (i := 10) sc_qalong.nd rfl (.inl rfl))) (fun _ _ _ _ _ => pts_nil) (fun _ _ _ _ _ => (pc (ok__law_walk T) (hr.mono (by omega)) T.g__law_walk (pa_cons (pv 10) (pa_cons (pv 3) (pa_cons (pv 6) (pa_cons (pe_lc (own := [("_law_bit", 9)]) rfl sc_qalong.nd (show PI _ _ _ (iList K _) from (pi_list (pv 6))) (blkOk_by (own := [("_law_bit", 9)]) (by kernel_rfl)) (fun _ _ _ _ _ => (pg_name (i := 9) sc_qalong.nd rfl (.inl rfl))) (fun _ _ _ _ _ => pts_nil) (fun _ _ _ _ _ => pe_bl)) (pa_cons pe_bl pa_nil)))))))))) pss_nil)
      (pss_cons (ps_set (i := 7) sc_qalong.nd rfl (.inr rfl) (pc ih (hr.mono (by omega)) T.g__law_along (pa_cons (pe_ix ix_tup (pv 0) pe_int (fun _ _ => rfl)) (pa_cons (pv 1) (pa_cons (pv 2) (pa_cons (pv 3) pa_nil))))))
      (pss_cons (ps_if (pt_cmpR op_eq (pv 4) pe_str (nomark _)) (pss_one (ps_ret (pe_lc (own := [("_law_k", 10)]) rfl sc_qalong.nd (pi_range1 (by rfl) T.z_range (pa_cons (pv 5) pa_nil)) (blkOk_by (own := [("_law_k", 10)]) (N := nm_qalong) (sc := defScope s_qalong) (by decide +kernel)) (fun _ _ _ _ _ => (pg_name (i := 10) sc_qalong.nd rfl (.inl rfl))) (fun _ _ _ _ _ => pts_nil) (fun _ _ _ _ _ => (pe_and (pe_ix (show IxR _ (rIxL K) from ix_list) (pv 6) (pv 10) (fun _ _ => rfl)) (pe_one (pe_ix (show IxR _ (rIxL K) from ix_list) (pv 7) (pv 10) (fun _ _ => rfl)))))))) pss_nil)
      (pss_cons (ps_if (pt_cmpR op_eq (pv 4) pe_str (nomark _)) (pss_one (ps_ret (pe_lc (own := [("_law_k", 10)]) rfl sc_qalong.nd (pi_range1 (by rfl) T.z_range (pa_cons (pv 5) pa_nil)) (blkOk_by (own := [("_law_k", 10)]) (N := nm_qalong) (sc := defScope s_qalong) (by decide +kernel)) (fun _ _ _ _ _ => (pg_name (i := 10) sc_qalong.nd rfl (.inl rfl))) (fun _ _ _ _ _ => pts_nil) (fun _ _ _ _ _ => (pe_or (pe_ix (show IxR _ (rIxL K) from ix_list) (pv 6) (pv 10) (fun _ _ => rfl)) (pe_one (pe_ix (show IxR _ (rIxL K) from ix_list) (pv 7) (pv 10) (fun _ _ => rfl)))))))) pss_nil)
      (pss_cons (ps_if (pt_cmpR op_eq (pv 4) pe_str (nomark _)) (pss_one (ps_ret (pe_lc (own := [("_law_k", 10)]) rfl sc_qalong.nd (pi_range1 (by rfl) T.z_range (pa_cons (pv 5) pa_nil)) (blkOk_by (own := [("_law_k", 10)]) (N := nm_qalong) (sc := defScope s_qalong) (by decide +kernel)) (fun _ _ _ _ _ => (pg_name (i := 10) sc_qalong.nd rfl (.inl rfl))) (fun _ _ _ _ _ => pts_nil) (fun _ _ _ _ _ => (pe_or (pe_not (pe_ix (show IxR _ (rIxL K) from ix_list) (pv 6) (pv 10) (fun _ _ => rfl))) (pe_one (pe_ix (show IxR _ (rIxL K) from ix_list) (pv 7) (pv 10) (fun _ _ => rfl)))))))) pss_nil)
      (pss_cons (ps_if (pt_cmpR op_eq (pv 4) pe_str (nomark _)) (pss_one (ps_ret (pe_lc (own := [("_law_k", 10)]) rfl sc_qalong.nd (pi_range1 (by rfl) T.z_range (pa_cons (pv 5) pa_nil)) (blkOk_by (own := [("_law_k", 10)]) (N := nm_qalong) (sc := defScope s_qalong) (by decide +kernel)) (fun _ _ _ _ _ => (pg_name (i := 10) sc_qalong.nd rfl (.inl rfl))) (fun _ _ _ _ _ => pts_nil) (fun _ _ _ _ _ => (pe_cmpR op_eq (pe_ix (show IxR _ (rIxL K) from ix_list) (pv 6) (pv 10) (fun _ _ => rfl)) (pe_ix (show IxR _ (rIxL K) from ix_list) (pv 7) (pv 10) (fun _ _ => rfl)) (nomark _)))))) pss_nil)
      (pss_one (ps_ret (pc (ok__law_temporal T) (hr.mono (by omega)) T.g__law_temporal (pa_cons (pv 4) (pa_cons (pv 6) (pa_cons (pv 7) (pa_cons (pv 3) pa_nil))))))))))))))))))))), ?_⟩
    refine ⟨_, rfl, a, _, 0, _, rfl, rfl, hS, atI_nat (j := 0) rfl, ?_⟩
    refine ⟨_, rfl, _, r.n, rfl, .inl ⟨_, hR, hO.len.symm⟩, ?_⟩
    have hn : xs.length ≤ 1000 := by have h1 := hO.hn; have h2 := hO.len; omega
    have hrn : r.n ≤ 1000 := by have h1 := hO.hn; omega
    have hb := hO.hb
    have tf : ∀ (x y : FG), decide (V.str x.s = V.str y.s) = decide (x = y) := vsF
    have gW : ∀ {σ : L2.St} {H' : Hp} {b a : Nat → Bool} {e : Bool} {i : Nat} {t1 t2 : TE}, i < r.n → σ[10]? = some (some (.int (i : Int))) → σ[3]? = some (some (.int (r.back : Int))) →
        (∀ R : VK, (∀ b1 H2, Ex H' H2 → SqL K H2 b1 (bls r.n b) → R (.ref b1) H2) → t1 σ H' R) → (∀ H1 (R : VK), Ex H' H1 → (∀ b2 H2, Ex H1 H2 → SqL K H2 b2 (bls r.n a) → R (.ref b2) H2) → t2 σ H1 R) →
        Gv (tCall (spWalk K) [] E0 (tCons (tVar 10) (tCons (tVar 3) (tCons t1 (tCons t2 (tCons (tC (.bl e)) tNil)))))) σ H' (fun y _ => y = .bl (r.W b a e i)) :=
      fun {σ H' b a e i t1 t2} hi e1 e2 k1 k2 Q' hQ => ⟨_, e1, _, e2, k1 _ fun c1 H2 ex2 s1 => k2 H2 _ ex2 fun c2 H3 ex3 s2 => ⟨i, r.back, r.n, c1, c2, b, a, e, rfl, hi, hb, hrn, Evl.ex_l ex3 s1, s2, hQ _ _ (ex2.trans ex3) rfl⟩⟩
    cases f with
    | tt =>
      refine ⟨_, rfl, rfl, _, rfl, ?_⟩
      rw [show decide (V.str (Fm.tt).tag.s = V.str "true") = true from (tf .tt .tt).trans rfl]
      refine iteT (tLstB (fun _ => true) rfl hR hn (fun _ => rfl) (fun i x H' hx e Q' hQ => ⟨_, rfl, rfl, hQ _ _ (Evl.Ex.refl _) ?_⟩) (by rw [hO.len]; exact q))
      exact congrArg V.bl ((tf .tt .tt).trans rfl)
    | ff =>
      refine ⟨_, rfl, rfl, _, rfl, ?_⟩
      rw [show decide (V.str (Fm.ff).tag.s = V.str "true") = false from (tf .ff .tt).trans rfl]
      refine iteF ⟨_, rfl, rfl, _, rfl, ?_⟩
      rw [show decide (V.str (Fm.ff).tag.s = V.str "false") = true from (tf .ff .ff).trans rfl]
      refine iteT (tLstB (fun _ => false) rfl hR hn (fun _ => rfl) (fun i x H' hx e Q' hQ => ⟨_, rfl, rfl, hQ _ _ (Evl.Ex.refl _) ?_⟩) (by rw [hO.len]; exact q))
      exact congrArg V.bl ((tf .ff .tt).trans rfl)
    | cmp c =>
      refine ⟨_, rfl, rfl, _, rfl, ?_⟩
      rw [show decide (V.str (Fm.cmp c).tag.s = V.str "true") = false from (tf (.c c.o) .tt).trans rfl]
      refine iteF ⟨_, rfl, rfl, _, rfl, ?_⟩
      rw [show decide (V.str (Fm.cmp c).tag.s = V.str "false") = false from (tf (.c c.o) .ff).trans rfl]
      refine iteF (nxt ?_)
      dsimp only [tSeq]
      refine tst_in (K := K) (te := tVar 4) ["equal", "below", "upto"] (by decide) (fun R h => ⟨_, rfl, h⟩) fun H1 e1 => ?_
      rw [show decide ((Fm.cmp c).tag.s ∈ (["equal", "below", "upto"] : List Str)) = true from (cmp_in (.c c.o)).trans rfl]
      refine iteT (tLstB (fun k => c.val (r.env k)) rfl (Evl.ex_l e1 hR) hn (fun _ => rfl) (fun i x H' hx e Q' hQ => ?_) (by rw [hO.len]; exact q.ex e1))
      obtain ⟨b, zs, rfl, h1, h2, h3⟩ := hO.st i x hx
      refine ⟨_, rfl, _, rfl, _, rfl, c, _, an, b, ns, zs, rfl, Dp.ex' hD (e1.trans e), hw c (List.mem_singleton.mpr rfl), Evl.ex_l (e1.trans e) hN, Evl.ex_t (e1.trans e) h1, h2, ?_⟩
      rw [← h3]
      exact hQ _ _ (Evl.Ex.refl _) rfl
    | un o g =>
      obtain ⟨x, rfl, hx⟩ := DpAll.one hA
      refine ⟨_, rfl, rfl, _, rfl, ?_⟩
      rw [show decide (V.str (Fm.un o g).tag.s = V.str "true") = false from (tf (.u o) .tt).trans rfl]
      refine iteF ⟨_, rfl, rfl, _, rfl, ?_⟩
      rw [show decide (V.str (Fm.un o g).tag.s = V.str "false") = false from (tf (.u o) .ff).trans rfl]
      refine iteF (nxt ?_)
      dsimp only [tSeq]
      refine tst_in (K := K) (te := tVar 4) ["equal", "below", "upto"] (by decide) (fun R h => ⟨_, rfl, h⟩) fun H1 e1 => ?_
      rw [show decide ((Fm.un o g).tag.s ∈ (["equal", "below", "upto"] : List Str)) = false from (cmp_in (.u o)).trans rfl]
      refine iteF (nxt ⟨_, rfl, a, _, 1, _, rfl, rfl, Evl.ex_t e1 hS, atI_nat (j := 1) rfl, _, rfl, _, rfl, _, rfl, g, x, an, ar, ns, r, xs, rfl, Dp.ex' hx e1, hw, by simp only [Fm.dep] at hdp; omega, Evl.ex_l e1 hN, Evl.ex_l e1 hR, hO.ex e1, fun D H2 hD2 e2 hB => ?_⟩)
      have q := (q.ex e1).ex e2
      have hF := SqL.of (K := K) hB
      have hg : ∀ {j : Nat}, j < r.n → atI (bls r.n (ho r g)) (j : Int) = some (.bl (ho r g j)) := fun h => bls_at _ h
      dsimp only [gName]
      cases o with
      | not =>
        refine tst_yes rfl ((vsF _ (.u .not)).trans rfl) ?_
        exact tLstB2 (ho r g) (fun k => !ho r g k) rfl hF hrn (fun _ => rfl) (fun i H' hi e Q' hQ => ⟨_, rfl, _, rfl, hQ _ _ (Evl.Ex.refl _) rfl⟩) q
      | next =>
        refine tst_no rfl ((vsF _ (.u .not)).trans rfl) ?_
        refine tst_yes rfl ((vsF _ (.u .next)).trans rfl) ?_
        exact tRngB (fun k => ho r g (r.a k)) rfl hrn (fun _ => rfl) (fun i H' hi e Q' hQ => ⟨_, rfl, _, rfl, _, rfl, _, rfl, i, r.back, r.n, rfl, D, _, _, _, rfl, rfl, Evl.ex_l e hF, bls_at _ (aft_lt hb), hQ _ _ (Evl.Ex.refl _) rfl⟩) q
      | ev =>
        refine tst_no rfl ((vsF _ (.u .not)).trans rfl) ?_; refine tst_no rfl ((vsF _ (.u .next)).trans rfl) ?_
        refine tst_yes rfl ((vsF _ (.u .ev)).trans rfl) ?_
        refine tRngB (fun k => r.W (fun _ => true) (ho r g) false k) rfl hrn (fun _ => rfl) (fun i H' hi e => gW hi rfl rfl (fun R h => ?_) (fun H3 R e3 h => ⟨_, rfl, h _ _ (Evl.Ex.refl _) (Evl.ex_l (e.trans e3) hF)⟩)) q
        exact tLstB2 (ho r g) (fun _ => true) rfl (Evl.ex_l e hF) hrn (fun _ => rfl) (fun i H' hi e Q' hQ => hQ _ _ (Evl.Ex.refl _) rfl) fun D2 H4 hD4 e4 hB4 => h _ _ e4 (SqL.of hB4)
      | alw =>
        refine tst_no rfl ((vsF _ (.u .not)).trans rfl) ?_; refine tst_no rfl ((vsF _ (.u .next)).trans rfl) ?_; refine tst_no rfl ((vsF _ (.u .ev)).trans rfl) ?_
        refine tst_yes rfl ((vsF _ (.u .alw)).trans rfl) ?_
        refine tRngB (fun k => r.W (ho r g) (fun _ => false) true k) rfl hrn (fun _ => rfl) (fun i H' hi e => gW hi rfl rfl (fun R h => ⟨_, rfl, h _ _ (Evl.Ex.refl _) (Evl.ex_l e hF)⟩) (fun H3 R e3 h => ?_)) q
        exact tLstB2 (ho r g) (fun _ => false) rfl (Evl.ex_l (e.trans e3) hF) hrn (fun _ => rfl) (fun i H' hi e Q' hQ => hQ _ _ (Evl.Ex.refl _) rfl) fun D2 H4 hD4 e4 hB4 => h _ _ e4 (SqL.of hB4)
    | bin o g k =>
      obtain ⟨x, y, rfl, hx, hy⟩ := DpAll.two hA
      refine ⟨_, rfl, rfl, _, rfl, ?_⟩
      rw [show decide (V.str (Fm.bin o g k).tag.s = V.str "true") = false from (tf (.b o) .tt).trans rfl]
      refine iteF ⟨_, rfl, rfl, _, rfl, ?_⟩
      rw [show decide (V.str (Fm.bin o g k).tag.s = V.str "false") = false from (tf (.b o) .ff).trans rfl]
      refine iteF (nxt ?_)
      dsimp only [tSeq]
      refine tst_in (K := K) (te := tVar 4) ["equal", "below", "upto"] (by decide) (fun R h => ⟨_, rfl, h⟩) fun H1 e1 => ?_
      rw [show decide ((Fm.bin o g k).tag.s ∈ (["equal", "below", "upto"] : List Str)) = false from (cmp_in (.b o)).trans rfl]
      have hdg : g.dep ≤ n ∧ k.dep ≤ n := by simp only [Fm.dep] at hdp; exact ⟨by omega, by omega⟩
      refine iteF (nxt ⟨_, rfl, a, _, 1, _, rfl, rfl, Evl.ex_t e1 hS, atI_nat (j := 1) rfl, _, rfl, _, rfl, _, rfl, g, x, an, ar, ns, r, xs, rfl, Dp.ex' hx e1, (wf_bin hw).1, hdg.1, Evl.ex_l e1 hN, Evl.ex_l e1 hR, hO.ex e1, fun D H2 hD2 e2 hB => ?_⟩)
      dsimp only [gName]
      refine tst_no rfl ((vsF _ (.u .not)).trans rfl) ?_; refine tst_no rfl ((vsF _ (.u .next)).trans rfl) ?_; refine tst_no rfl ((vsF _ (.u .ev)).trans rfl) ?_; refine tst_no rfl ((vsF _ (.u .alw)).trans rfl) ?_
      have e12 := e1.trans e2
      refine ⟨_, rfl, a, _, 2, _, rfl, rfl, Evl.ex_t e12 hS, atI_nat (j := 2) rfl, _, rfl, _, rfl, _, rfl, k, y, an, ar, ns, r, xs, rfl, Dp.ex' hy e12, (wf_bin hw).2, hdg.2, Evl.ex_l e12 hN, Evl.ex_l e12 hR, hO.ex e12, fun D2 H3 hD3 e3 hB2 => ?_⟩
      dsimp only [gName]
      have q := q.ex (e12.trans e3)
      have hF := Evl.ex_l e3 (SqL.of (K := K) hB)
      have hG := SqL.of (K := K) hB2
      have tmp : (o = .til ∨ o = .rel ∨ o = .unl ∨ o = .strong) → tRet (tCall (spTempo K) [] E0 (tCons (tVar 4) (tCons (tVar 6) (tCons (tVar 7) (tCons (tVar 3) tNil))))) { nx := fun _ H' => Q .non H', rt := Q }
          ((((start nm_qalong [V.ref a, V.ref an, V.ref ar, V.int r.back]).set 4 (some (.str o.s))).set 5 (some (.int r.n))).set 6 (some (.ref D)) |>.set 7 (some (.ref D2))) H3 :=
        fun ho' => ⟨_, rfl, _, rfl, _, rfl, _, rfl, r, o, D, D2, ho r g, ho r k, rfl, ho', hb, hrn, hF, hG, q⟩
      cases o with
      | and =>
        refine tst_yes rfl ((vsF _ (.b .and)).trans rfl) ?_
        refine tRngB (fun j => ho r g j && ho r k j) rfl hrn (fun _ => rfl) (fun i H' hi e Q' hQ => ⟨_, rfl, _, rfl, D, _, _, _, rfl, rfl, Evl.ex_l e hF, bls_at _ hi, _, rfl, ite2 (fun c => ?_) (fun c => ?_)⟩) q
        · exact ⟨_, rfl, _, rfl, D2, _, _, _, rfl, rfl, Evl.ex_l e hG, bls_at _ hi, hQ _ _ (Evl.Ex.refl _) (by rw [c]; rfl)⟩
        · exact hQ _ _ (Evl.Ex.refl _) (by rw [eq_false_of_ne_true c]; rfl)
      | or =>
        refine tst_no rfl ((vsF _ (.b .and)).trans rfl) ?_
        refine tst_yes rfl ((vsF _ (.b .or)).trans rfl) ?_
        refine tRngB (fun j => ho r g j || ho r k j) rfl hrn (fun _ => rfl) (fun i H' hi e Q' hQ => ⟨_, rfl, _, rfl, D, _, _, _, rfl, rfl, Evl.ex_l e hF, bls_at _ hi, _, rfl, ite2 (fun c => ?_) (fun c => ?_)⟩) q
        · exact hQ _ _ (Evl.Ex.refl _) (by rw [c]; rfl)
        · exact ⟨_, rfl, _, rfl, D2, _, _, _, rfl, rfl, Evl.ex_l e hG, bls_at _ hi, hQ _ _ (Evl.Ex.refl _) (by rw [eq_false_of_ne_true c]; rfl)⟩
      | imp =>
        refine tst_no rfl ((vsF _ (.b .and)).trans rfl) ?_; refine tst_no rfl ((vsF _ (.b .or)).trans rfl) ?_
        refine tst_yes rfl ((vsF _ (.b .imp)).trans rfl) ?_
        refine tRngB (fun j => !ho r g j || ho r k j) rfl hrn (fun _ => rfl) (fun i H' hi e Q' hQ => ⟨_, rfl, _, rfl, D, _, _, _, rfl, rfl, Evl.ex_l e hF, bls_at _ hi, _, rfl, _, rfl, ite2 (fun c => ?_) (fun c => ?_)⟩) q
        · exact hQ _ _ (Evl.Ex.refl _) (by rw [c]; rfl)
        · exact ⟨_, rfl, _, rfl, D2, _, _, _, rfl, rfl, Evl.ex_l e hG, bls_at _ hi, hQ _ _ (Evl.Ex.refl _) (by rw [eq_false_of_ne_true c]; rfl)⟩
      | same =>
        refine tst_no rfl ((vsF _ (.b .and)).trans rfl) ?_; refine tst_no rfl ((vsF _ (.b .or)).trans rfl) ?_; refine tst_no rfl ((vsF _ (.b .imp)).trans rfl) ?_
        refine tst_yes rfl ((vsF _ (.b .same)).trans rfl) ?_
        refine tRngB (fun j => ho r g j == ho r k j) rfl hrn (fun _ => rfl) (fun i H' hi e Q' hQ => ⟨_, rfl, _, rfl, D, _, _, _, rfl, rfl, Evl.ex_l e hF, bls_at _ hi, _, rfl, _, rfl, D2, _, _, _, rfl, rfl, Evl.ex_l e hG, bls_at _ hi, rfl, hQ _ _ (Evl.Ex.refl _) ?_⟩) q
        cases ho r g i <;> cases ho r k i <;> rfl
      | til =>
        refine tst_no rfl ((vsF _ (.b .and)).trans rfl) ?_; refine tst_no rfl ((vsF _ (.b .or)).trans rfl) ?_; refine tst_no rfl ((vsF _ (.b .imp)).trans rfl) ?_; refine tst_no rfl ((vsF _ (.b .same)).trans rfl) ?_
        exact tmp (.inl rfl)
      | rel =>
        refine tst_no rfl ((vsF _ (.b .and)).trans rfl) ?_; refine tst_no rfl ((vsF _ (.b .or)).trans rfl) ?_; refine tst_no rfl ((vsF _ (.b .imp)).trans rfl) ?_; refine tst_no rfl ((vsF _ (.b .same)).trans rfl) ?_
        exact tmp (.inr (.inl rfl))
      | unl =>
        refine tst_no rfl ((vsF _ (.b .and)).trans rfl) ?_; refine tst_no rfl ((vsF _ (.b .or)).trans rfl) ?_; refine tst_no rfl ((vsF _ (.b .imp)).trans rfl) ?_; refine tst_no rfl ((vsF _ (.b .same)).trans rfl) ?_
        exact tmp (.inr (.inr (.inl rfl)))
      | strong =>
        refine tst_no rfl ((vsF _ (.b .and)).trans rfl) ?_; refine tst_no rfl ((vsF _ (.b .or)).trans rfl) ?_; refine tst_no rfl ((vsF _ (.b .imp)).trans rfl) ?_; refine tst_no rfl ((vsF _ (.b .same)).trans rfl) ?_
        exact tmp (.inr (.inr (.inr rfl)))
end
end W16
set_option Elab.async false
set_option linter.all false
set_option maxRecDepth 100000
set_option maxHeartbeats 4000000
namespace W16
open PySem PySem.Spec PyProof.Rows L2
open Evl (Ex)
/-! ### the program's truths of a row -/
def stG (w : RG) (f g x : Bool) : Bool := match w with
  | .u .ev => f || x
  | .u .alw => f && x
  | .b .til => g || (f && x)
  | .b .unl => g || (f && x)
  | _ => g && (f || x)
def grG (w : RG) : Bool := match w with
  | .u .alw => true
  | .b .rel => true
  | .b .unl => true
  | _ => false
def plG (w : RG) (f g : Bool) : Bool := match w with
  | .u .not => !f
  | .b .and => f && g
  | .b .or => f || g
  | .b .imp => !f || g
  | _ => f == g
def isPl (w : RG) : Bool := match w with
  | .u .not => true
  | .b .and => true
  | .b .or => true
  | .b .imp => true
  | .b .same => true
  | _ => false
def rowG (n back : Nat) (w : RG) (f g : Nat → Bool) (k : Nat) : Bool := if w = .u .next then f (aft n back k) else if isPl w then plG w (f k) (g k) else spr (fun j x => stG w (f j) (g j) x) n back (grG w) k
theorem rowG_u (r : Rn) (hb : r.back < r.n) (o : UO) (f : Nat → Bool) {k : Nat} (hk : k < r.n) : rowG r.n r.back (.u o) f f k = unary r o f k := by
  cases o with
  | not => rfl
  | next => rfl
  | ev => exact sprU r hb .ev (.inl rfl) f hk
  | alw => exact sprU r hb .alw (.inr rfl) f hk
theorem rowG_b (r : Rn) (hb : r.back < r.n) (o : BO) (f g : Nat → Bool) {k : Nat} (hk : k < r.n) : rowG r.n r.back (.b o) f g k = tempo r o f g k := by
  cases o with
  | and => rfl
  | or => rfl
  | imp => rfl
  | same => rfl
  | til => exact sprB r hb .til (.inl rfl) f g hk
  | rel => exact sprB r hb .rel (.inr (.inl rfl)) f g hk
  | unl => exact sprB r hb .unl (.inr (.inr (.inl rfl))) f g hk
  | strong => exact sprB r hb .strong (.inr (.inr (.inr rfl))) f g hk
theorem gr_in (w : RG) : decide (w.s ∈ (["always", "release", "unless"] : List Str)) = grG w := by
  cases w with
  | tt => decide +kernel
  | ff => decide +kernel
  | fact => decide +kernel
  | u o => cases o <;> decide +kernel
  | b o => cases o <;> decide +kernel
theorem pl_in (w : RG) : decide (w.s ∈ (["not", "and", "or", "implies", "same"] : List Str)) = isPl w := by
  cases w with
  | tt => decide +kernel
  | ff => decide +kernel
  | fact => decide +kernel
  | u o => cases o <;> decide +kernel
  | b o => cases o <;> decide +kernel
section
variable {ta tb : TE} {σ : L2.St} {H : Hp} {a b : Bool} {Q : VK}
theorem orG (ha : ∀ R : VK, R (.bl a) H → ta σ H R) (hb : ∀ R : VK, R (.bl b) H → tb σ H R) (q : Q (.bl (a || b)) H) : tOrV ta tb σ H Q := by
  refine ha _ ⟨a, rfl, ?_⟩
  cases a with
  | true => exact iteT q
  | false => exact iteF (hb _ q)
theorem andG (ha : ∀ R : VK, R (.bl a) H → ta σ H R) (hb : ∀ R : VK, R (.bl b) H → tb σ H R) (q : Q (.bl (a && b)) H) : tAndV ta tb σ H Q := by
  refine ha _ ⟨a, rfl, ?_⟩
  cases a with
  | true => exact iteT (hb _ q)
  | false => exact iteF q
theorem notG (ha : ∀ R : VK, R (.bl a) H → ta σ H R) (q : Q (.bl (!a)) H) : tNotV ta σ H Q := ha _ ⟨a, rfl, q⟩
end
/-! lists of truths, changed -/
theorem bls_set {n p : Nat} (f : Nat → Bool) (b : Bool) (hp : p < n) : (bls n f).set p (.bl b) = bls n (fun k => if k = p then b else f k) := by
  refine eq_mapR (by rw [List.length_set, bls_len]) (fun k => V.bl (if k = p then b else f k)) fun i y h => ?_
  have hi : i < n := by
    have q := (List.getElem?_eq_some_iff.mp h).1
    rwa [List.length_set, bls_len] at q
  rw [List.getElem?_set, bls_len] at h
  by_cases e : p = i
  · subst e
    rw [if_pos rfl, if_pos hp] at h
    rw [if_pos rfl]
    exact (Option.some.inj h).symm
  · rw [if_neg e, bls_get f hi] at h
    rw [if_neg fun z => e z.symm]
    exact (Option.some.inj h).symm
theorem cut_tail (x : V) (xs : List V) : cutV (x :: xs) (some 1) none = xs := by
  unfold cutV
  rw [show HT.sIx (x :: xs).length 0 (some 1) = min 1 (x :: xs).length from HT.sIx_nat _ 0 1, HT.sIx_none, List.length_cons, Nat.min_eq_left (by omega)]
  show xs.take (xs.length + 1 - 1) = xs
  rw [Nat.add_sub_cancel, List.take_length]
theorem bls_shift {n back : Nat} (f : Nat → Bool) (hb : back < n) : cutV (bls n f) (some 1) none ++ [.bl (f back)] = bls n (fun k => f (aft n back k)) := by
  obtain ⟨m, rfl⟩ : ∃ m, n = m + 1 := ⟨n - 1, by omega⟩
  have e : bls (m + 1) f = V.bl (f 0) :: bls m (fun k => f (k + 1)) := by
    unfold bls
    rw [List.range_succ_eq_map, List.map_cons, List.map_map]
    rfl
  rw [e, cut_tail]
  refine eq_mapR (by rw [List.length_append, bls_len]; rfl) (fun k => V.bl (f (aft (m + 1) back k))) fun i y h => ?_
  by_cases hi : i < m
  · rw [List.getElem?_append_left (by rw [bls_len]; exact hi), bls_get _ hi] at h
    rw [← Option.some.inj h]
    show V.bl (f (i + 1)) = V.bl (f (aft (m + 1) back i))
    unfold aft
    rw [if_pos (by omega)]
  · have q := (List.getElem?_eq_some_iff.mp h).1
    rw [List.length_append, bls_len] at q
    have ei : i = m := by simp at q; omega
    subst ei
    rw [List.getElem?_append_right (by rw [bls_len]; exact Nat.le_refl _), bls_len, Nat.sub_self] at h
    rw [← Option.some.inj h]
    unfold aft
    rw [if_neg (by omega)]
def passes (st : Nat → Bool → Bool) (n back : Nat) (e : Bool) : Nat → Nat → Bool
  | 0 => fun _ => e
  | j + 1 => pass st n back (passes st n back e j)
def midT (st : Nat → Bool → Bool) (n back : Nat) (t : Nat → Bool) (i k : Nat) : Bool := if n ≤ k + i then pass st n back t k else t k
theorem midT_step {st : Nat → Bool → Bool} {n back i : Nat} {t : Nat → Bool} (hi : i < n) (hb : back < n) : st (n - 1 - i) (if n - 1 - i < n - 1 then midT st n back t i (n - 1 - i + 1) else midT st n back t i back) = pass st n back t (n - 1 - i) := by
  by_cases h : n - 1 - i < n - 1
  · rw [if_pos h]
    unfold midT
    rw [if_pos (by omega)]
    unfold pass
    rw [show n - (n - 1 - i) = (n - (n - 1 - i + 1)) + 1 by omega]
    rfl
  · rw [if_neg h]
    have e : i = 0 := by omega
    subst e
    unfold midT
    rw [if_neg (by omega)]
    unfold pass
    rw [show n - (n - 1 - 0) = 0 + 1 by omega]
    rfl
theorem midT_set {st : Nat → Bool → Bool} {n back i : Nat} {t : Nat → Bool} (hi : i < n) (hb : back < n) {b : Bool} (e : b = pass st n back t (n - 1 - i)) : (bls n (midT st n back t i)).set (n - 1 - i) (.bl b) = bls n (midT st n back t (i + 1)) := by
  rw [bls_set _ _ (by omega)]
  refine bls_congr fun k hk => ?_
  by_cases h : k = n - 1 - i
  · rw [if_pos h, e, h]
    unfold midT
    rw [if_pos (by omega)]
  · rw [if_neg h]
    unfold midT
    by_cases q : n ≤ k + i
    · rw [if_pos q, if_pos (by omega)]
    · rw [if_neg q, if_neg (by omega)]
def spStep : Sp := fun vs H Q _ => ∃ (w : RG) (f g x : Bool), vs = [.str w.s, .bl f, .bl g, .bl x] ∧ Q (.bl (stG w f g x)) H
def spPl : Sp := fun vs H Q _ => ∃ (w : RG) (f g : Bool), vs = [.str w.s, .bl f, .bl g] ∧ isPl w = true ∧ Q (.bl (plG w f g)) H
def spSpread (K : PySem.W.Frag) : Sp := fun vs H Q _ => ∃ (w : RG) (a1 a2 : Addr) (n back : Nat) (f g : Nat → Bool), vs = [.str w.s, .ref a1, .ref a2, .int back] ∧ back < n ∧ n ≤ 1000 ∧ SqL K H a1 (bls n f) ∧ SqL K H a2 (bls n g) ∧ RetB n (spr (fun j x => stG w (f j) (g j) x) n back (grG w)) H Q
def spRow (K : PySem.W.Frag) : Sp := fun vs H Q _ => ∃ (w : RG) (a1 a2 : Addr) (n back : Nat) (f g : Nat → Bool), vs = [.str w.s, .ref a1, .ref a2, .int back] ∧ back < n ∧ n ≤ 1000 ∧ SqL K H a1 (bls n f) ∧ SqL K H a2 (bls n g) ∧ RetB n (rowG n back w f g) H Q
section
variable {P : Program} {w : World} {K : PySem.W.Frag} {mg : Str → Option Value} {base : Heap}
abbrev nm_step_truth : List Str := ["word", "first", "second", "following"]
theorem sc_step_truth : FnScope nm_step_truth ["word", "first", "second", "following"] (defScope s_step_truth) := ⟨rfl, rfl, rfl, by decide +kernel, rfl, by decide +kernel, by decide +kernel⟩
theorem ok_step_truth (T : T16 K w mg) : Ok P w K mg base 1 (gA K "step_truth") ["word", "first", "second", "following"] spStep := by
  refine mkOk T.F_step_truth sc_step_truth (fun _ _ _ _ _ _ us hl => match us, hl with | [_, _, _, _], _ => rfl) (fun vs H Q E h => ?_) fun cdv A outer s H vs Q E hr h => ?_
  · obtain ⟨w, f, g, x, rfl, _⟩ := h
    rfl
  obtain ⟨o, f, g, x, rfl, q⟩ := h
  have v1 : ∀ {y : Bool} {i : Nat} {σ : L2.St} {H : Hp} (h : σ[i]? = some (some (.bl y))) (R : VK), R (.bl y) H → tVar i σ H R := fun h R r => ⟨_, h, r⟩
  refine ⟨_, (pss_cons (ps_if (pt_cmpR op_eq (pv 0) pe_str (nomark _)) (pss_one (ps_ret (pe_or (pv 1) (pe_one (pv 3))))) pss_nil)
      (pss_cons (ps_if (pt_cmpR op_eq (pv 0) pe_str (nomark _)) (pss_one (ps_ret (pe_and (pv 1) (pe_one (pv 3))))) pss_nil)
      (pss_cons (ps_if (PW.pt (pw_or (pt_cmpR op_eq (pv 0) pe_str (nomark _)) (pw_or1 (pt_cmpR op_eq (pv 0) pe_str (nomark _))))) (pss_one (ps_ret (pe_or (pv 2) (pe_one (pe_and (pv 1) (pe_one (pv 3))))))) pss_nil)
      (pss_one (ps_ret (pe_and (pv 2) (pe_one (pe_or (pv 1) (pe_one (pv 3)))))))))), ?_⟩
  refine ⟨_, rfl, rfl, _, rfl, ?_⟩
  rw [show V.str "eventually" = V.str (RG.u .ev).s from rfl, vsR]
  refine ite2 (fun c => ?_) (fun c1 => ?_)
  · obtain rfl : o = .u .ev := of_decide_eq_true c
    exact orG (v1 rfl) (v1 rfl) q
  refine ⟨_, rfl, rfl, _, rfl, ?_⟩
  rw [show V.str "always" = V.str (RG.u .alw).s from rfl, vsR]
  refine ite2 (fun c => ?_) (fun c2 => ?_)
  · obtain rfl : o = .u .alw := of_decide_eq_true c
    exact andG (v1 rfl) (v1 rfl) q
  refine ⟨_, rfl, rfl, _, rfl, ?_⟩
  rw [show V.str "until" = V.str (RG.b .til).s from rfl, vsR]
  refine ite2 (fun c => ?_) (fun c3 => ?_)
  · obtain rfl : o = .b .til := of_decide_eq_true c
    exact orG (v1 rfl) (fun R => andG (v1 rfl) (v1 rfl)) q
  refine ⟨_, rfl, rfl, _, rfl, ?_⟩
  rw [show V.str "unless" = V.str (RG.b .unl).s from rfl, vsR]
  refine ite2 (fun c => ?_) (fun c4 => ?_)
  · obtain rfl : o = .b .unl := of_decide_eq_true c
    exact orG (v1 rfl) (fun R => andG (v1 rfl) (v1 rfl)) q
  have e : stG o f g x = (g && (f || x)) := by
    cases o with
    | tt => rfl
    | ff => rfl
    | fact => rfl
    | u o => cases o <;> first | rfl | (exact absurd rfl c1) | (exact absurd rfl c2)
    | b o => cases o <;> first | rfl | (exact absurd rfl c3) | (exact absurd rfl c4)
  rw [e] at q
  exact andG (v1 rfl) (fun R => orG (v1 rfl) (v1 rfl)) q
abbrev nm_plain_truth : List Str := ["word", "first", "second"]
theorem sc_plain_truth : FnScope nm_plain_truth ["word", "first", "second"] (defScope s_plain_truth) := ⟨rfl, rfl, rfl, by decide +kernel, rfl, by decide +kernel, by decide +kernel⟩
theorem ok_plain_truth (T : T16 K w mg) : Ok P w K mg base 1 (gA K "plain_truth") ["word", "first", "second"] spPl := by
  refine mkOk T.F_plain_truth sc_plain_truth (fun _ _ _ _ _ _ us hl => match us, hl with | [_, _, _], _ => rfl) (fun vs H Q E h => ?_) fun cdv A outer s H vs Q E hr h => ?_
  · obtain ⟨w, f, g, rfl, _⟩ := h
    rfl
  obtain ⟨o, f, g, rfl, ho, q⟩ := h
  have v1 : ∀ {y : Bool} {i : Nat} {σ : L2.St} {H : Hp} (h : σ[i]? = some (some (.bl y))) (R : VK), R (.bl y) H → tVar i σ H R := fun h R r => ⟨_, h, r⟩
  refine ⟨_, (pss_cons (ps_if (pt_cmpR op_eq (pv 0) pe_str (nomark _)) (pss_one (ps_ret (pe_not (pv 1)))) pss_nil)
      (pss_cons (ps_if (pt_cmpR op_eq (pv 0) pe_str (nomark _)) (pss_one (ps_ret (pe_and (pv 1) (pe_one (pv 2))))) pss_nil)
      (pss_cons (ps_if (pt_cmpR op_eq (pv 0) pe_str (nomark _)) (pss_one (ps_ret (pe_or (pv 1) (pe_one (pv 2))))) pss_nil)
      (pss_cons (ps_if (pt_cmpR op_eq (pv 0) pe_str (nomark _)) (pss_one (ps_ret (pe_or (pe_not (pv 1)) (pe_one (pv 2))))) pss_nil)
      (pss_one (ps_ret (pe_cmpR op_eq (pv 1) (pv 2) (nomark _)))))))), ?_⟩
  refine ⟨_, rfl, rfl, _, rfl, ?_⟩
  rw [show V.str "not" = V.str (RG.u .not).s from rfl, vsR]
  refine ite2 (fun c => ?_) (fun c1 => ?_)
  · obtain rfl : o = .u .not := of_decide_eq_true c
    exact notG (v1 rfl) q
  refine ⟨_, rfl, rfl, _, rfl, ?_⟩
  rw [show V.str "and" = V.str (RG.b .and).s from rfl, vsR]
  refine ite2 (fun c => ?_) (fun c2 => ?_)
  · obtain rfl : o = .b .and := of_decide_eq_true c
    exact andG (v1 rfl) (v1 rfl) q
  refine ⟨_, rfl, rfl, _, rfl, ?_⟩
  rw [show V.str "or" = V.str (RG.b .or).s from rfl, vsR]
  refine ite2 (fun c => ?_) (fun c3 => ?_)
  · obtain rfl : o = .b .or := of_decide_eq_true c
    exact orG (v1 rfl) (v1 rfl) q
  refine ⟨_, rfl, rfl, _, rfl, ?_⟩
  rw [show V.str "implies" = V.str (RG.b .imp).s from rfl, vsR]
  refine ite2 (fun c => ?_) (fun c4 => ?_)
  · obtain rfl : o = .b .imp := of_decide_eq_true c
    exact orG (fun R => notG (v1 rfl)) (v1 rfl) q
  have e : plG o f g = (f == g) := by
    cases o with
    | tt => rfl
    | ff => rfl
    | fact => rfl
    | u o => cases o <;> first | rfl | (exact absurd rfl c1)
    | b o => cases o <;> first | rfl | (exact absurd rfl c2) | (exact absurd rfl c3) | (exact absurd rfl c4)
  rw [e] at q
  refine ⟨_, rfl, _, rfl, rfl, ?_⟩
  rw [show decide (V.bl f = V.bl g) = (f == g) from by cases f <;> cases g <;> rfl]
  exact q
abbrev nm_spread : List Str := ["word", "first", "second", "back", "last", "truths", "_", "place", "following"]
theorem sc_spread : FnScope nm_spread ["word", "first", "second", "back"] (defScope s_spread) := ⟨rfl, rfl, rfl, by decide +kernel, rfl, by decide +kernel, by decide +kernel⟩
theorem ok_spread (T : T16 K w mg) : Ok P w K mg base 2 (gA K "spread") ["word", "first", "second", "back"] (spSpread K) := by
  refine mkOk T.F_spread sc_spread (fun _ _ _ _ _ _ us hl => match us, hl with | [_, _, _, _], _ => rfl) (fun vs H Q E h => ?_) fun cdv A outer s H vs Q E hr h => ?_
  · obtain ⟨w, a1, a2, n, back, f, g, rfl, _⟩ := h
    rfl
  obtain ⟨o, a1, a2, n, back, f, g, rfl, hb, hn, h1, h2, q⟩ := h
  refine ⟨_, (pss_cons (ps_set (i := 4) sc_spread.nd rfl (.inl rfl) (pe_op op_sub (pe_callB call_len (by rfl) T.z_len (by decide +kernel) (pa_cons (pv 1) pa_nil)) pe_int))
      (pss_cons (ps_setLc (i := 5) (own := [("_", 6)]) rfl sc_spread.nd rfl rfl (sw_true rfl rfl rfl (by decide +kernel)) (pi_list (pv 1)) (blkOk_by (own := [("_", 6)]) (N := nm_spread) (sc := defScope s_spread) (by decide +kernel)) (fun _ _ _ _ _ => (pg_name (i := 6) sc_spread.nd rfl (.inl rfl))) (fun _ _ _ _ _ => pts_nil) (fun _ _ _ _ _ => (pe_cmpR (show OpR _ _ (rIn K false) from op_in_seq) (pv 0) (pe_gl T.g_GREATEST) (by rfl))))
      (pss_cons (ps_for PassesOwn.never rfl (pi_range1 (by rfl) T.z_range (pa_cons pe_int pa_nil)) (pg_name (i := 6) sc_spread.nd rfl (.inl rfl)) (pss_one (ps_for PassesOwn.never rfl (pi_range3 (by rfl) T.z_range (pa_cons (pv 4) (pa_cons (pe_un un_neg pe_int) (pa_cons (pe_un un_neg pe_int) pa_nil)))) (pg_name (i := 7) sc_spread.nd rfl (.inl rfl)) (pss_cons (ps_set (i := 8) sc_spread.nd rfl (.inl rfl) (pe_ix ix_list (pv 5) (pv 3) (fun _ _ => rfl)))
      (pss_cons (ps_if (pt_cmpR op_lt (pv 7) (pv 4) (nomark _)) (pss_one (ps_set (i := 8) sc_spread.nd rfl (.inl rfl) (pe_ix ix_list (pv 5) (pe_op op_add (pv 7) pe_int) (fun _ _ => rfl)))) pss_nil)
      (pss_one (ps_asg (pc (ok_step_truth T) (hr.mono (by omega)) T.g_step_truth (pa_cons (pv 0) (pa_cons (pe_ix ix_list (pv 1) (pv 7) (fun _ _ => rfl)) (pa_cons (pe_ix ix_list (pv 2) (pv 7) (fun _ _ => rfl)) (pa_cons (pv 8) pa_nil))))) (pg_sub (pv 5) (pv 7) set_list))))))))
      (pss_one (ps_ret (pv 5)))))), ?_⟩
  have rg : RgC ((n : Int) - 1) (-1) (-1) n := by
    have z := RgC.neg (i := (n : Int) - 1) (j := -1) (by omega) (by omega) (by omega) (by omega)
    rwa [show ((n : Int) - 1 - -1).toNat = n by omega] at z
  refine ⟨_, rfl, _, n, rfl, .inl ⟨_, h1, (bls_len _ _).symm⟩, _, _, rfl, rfl, ?_⟩
  dsimp only [gName, tSeq, tAsg]
  refine tLstB2 f (fun _ => grG o) rfl h1 hn (fun _ => rfl) (fun i H' hi e Q' hQ => ⟨_, rfl, _, _, rfl, .inr (T.c_GREATEST _), rfl, rfl, hQ _ _ (Evl.Ex.refl _) ?_⟩) fun D H1 hD e1 hB => ?_
  · show V.bl (inV (.str o.s) ((["always", "release", "unless"] : List Str).map V.str)) = _
    rw [inV_strs, gr_in]
  refine ⟨2, rfl, by decide, by decide, for_range (lo := 0) (n := 2) (fun j σ H' => Ex H H' ∧ H' D = some (.lst (bls n (passes (fun j x => stG o (f j) (g j) x) n back (grG o) j))) ∧ ∃ x6 x7 x8, σ = [some (.str o.s), some (.ref a1), some (.ref a2), some (.int back), some (.int ((n : Int) - 1)), some (.ref D), x6, x7, x8]) ⟨e1, hB, _, _, _, rfl⟩ ?_ ?_⟩
  · rintro j σ H2 hj ⟨e2, hB2, x6, x7, x8, rfl⟩
    refine ⟨_, rfl, _, rfl, _, rfl, (n : Int) - 1, -1, -1, n, rfl, rg, for_rangeC (fun i σ H' => Ex H H' ∧ H' D = some (.lst (bls n (midT (fun j x => stG o (f j) (g j) x) n back (passes (fun j x => stG o (f j) (g j) x) n back (grG o) j) i))) ∧ ∃ x6 x7 x8, σ = [some (.str o.s), some (.ref a1), some (.ref a2), some (.int back), some (.int ((n : Int) - 1)), some (.ref D), x6, x7, x8]) ⟨e2, ?_, _, _, _, rfl⟩ ?_ ?_⟩
    · rw [hB2]
      refine congrArg (fun z => some (HO.lst z)) (bls_congr fun k hk => ?_)
      unfold midT
      rw [if_neg (by omega)]
    · rintro i σ H3 hi ⟨e3, hB3, x6, x7, x8, rfl⟩
      have ep : ((n : Int) - 1 + (i : Int) * -1) = ((n - 1 - i : Nat) : Int) := by omega
      rw [ep]
      have hp : n - 1 - i < n := by omega
      refine ⟨_, rfl, _, rfl, D, _, _, _, rfl, rfl, SqL.of hB3, bls_at _ hb, ?_⟩
      refine ⟨_, rfl, _, rfl, _, _, rfl, rfl, _, rfl, ?_⟩
      have fin : ∀ (b : Bool) (x6 x7 : Option V), (b = if n - 1 - i < n - 1 then midT (fun j x => stG o (f j) (g j) x) n back (passes (fun j x => stG o (f j) (g j) x) n back (grG o) j) i (n - 1 - i + 1) else midT (fun j x => stG o (f j) (g j) x) n back (passes (fun j x => stG o (f j) (g j) x) n back (grG o) j) i back) → ∀ {N : L2.St → Hp → Prop},
          (∀ σ H', (Ex H H' ∧ H' D = some (.lst (bls n (midT (fun j x => stG o (f j) (g j) x) n back (passes (fun j x => stG o (f j) (g j) x) n back (grG o) j) (i + 1)))) ∧ ∃ x6 x7 x8, σ = [some (.str o.s), some (.ref a1), some (.ref a2), some (.int back), some (.int ((n : Int) - 1)), some (.ref D), x6, x7, x8]) → N σ H') →
          tCall spStep [] E0 (tCons (tVar 0) (tCons (tOp (rIxL K) (tVar 1) (tVar 7)) (tCons (tOp (rIxL K) (tVar 2) (tVar 7)) (tCons (tVar 8) tNil)))) [some (.str o.s), some (.ref a1), some (.ref a2), some (.int back), some (.int ((n : Int) - 1)), some (.ref D), x6, some (.int ((n - 1 - i : Nat) : Int)), some (.bl b)] H3 fun v H4 => gSub (tVar 5) (tVar 7) rSetL v [some (.str o.s), some (.ref a1), some (.ref a2), some (.int back), some (.int ((n : Int) - 1)), some (.ref D), x6, some (.int ((n - 1 - i : Nat) : Int)), some (.bl b)] H4 N := by
        intro b x6 x7 eb N hN
        refine ⟨_, rfl, _, rfl, _, rfl, a1, _, _, _, rfl, rfl, Evl.ex_l e3 h1, bls_at f hp, _, rfl, _, rfl, a2, _, _, _, rfl, rfl, Evl.ex_l e3 h2, bls_at g hp, _, rfl, o, f (n - 1 - i), g (n - 1 - i), b, rfl, ?_⟩
        refine ⟨_, rfl, _, rfl, D, _, _, n - 1 - i, rfl, rfl, hB3, ?_, hN _ _ ⟨Evl.Ex.mut e3 hD, ?_, _, _, _, rfl⟩⟩
        · rw [bls_len]; exact Evl.ixN_nat hp
        rw [upd_same, midT_set hi hb ((congrArg (stG o (f (n - 1 - i)) (g (n - 1 - i))) eb).trans (midT_step (st := fun j x => stG o (f j) (g j) x) hi hb))]
      refine ite2 (fun c => ?_) (fun c => ?_)
      · have c' : n - 1 - i < n - 1 := by
          have z : ((n - 1 - i : Nat) : Int) < (n : Int) - 1 := of_decide_eq_true c
          omega
        refine ⟨_, rfl, _, rfl, _, _, rfl, rfl, D, _, _, _, rfl, rfl, SqL.of hB3, bls_at _ (show n - 1 - i + 1 < n by omega), ?_⟩
        exact fin _ _ none (by rw [if_pos c']) fun σ H' h => h
      · have c' : ¬ n - 1 - i < n - 1 := fun z => c (decide_eq_true (by omega))
        exact fin _ _ none (by rw [if_neg c']) fun σ H' h => h
    · rintro σ H3 ⟨e3, hB3, x6, x7, x8, rfl⟩
      refine ⟨e3, ?_, _, _, _, rfl⟩
      rw [hB3]
      refine congrArg (fun z => some (HO.lst z)) (bls_congr fun k hk => ?_)
      unfold midT
      rw [if_pos (by omega)]
      rfl
  · rintro σ H2 ⟨e2, hB2, x6, x7, x8, rfl⟩
    exact ⟨_, rfl, q D H2 hD e2 hB2⟩
abbrev nm_row_truths : List Str := ["word", "first", "second", "back", "a", "b"]
theorem sc_row_truths : FnScope nm_row_truths ["word", "first", "second", "back"] (defScope s_row_truths) := ⟨rfl, rfl, rfl, by decide +kernel, rfl, by decide +kernel, by decide +kernel⟩
theorem ok_row_truths (T : T16 K w mg) : Ok P w K mg base 3 (gA K "row_truths") ["word", "first", "second", "back"] (spRow K) := by
  refine mkOk T.F_row_truths sc_row_truths (fun _ _ _ _ _ _ us hl => match us, hl with | [_, _, _, _], _ => rfl) (fun vs H Q E h => ?_) fun cdv A outer s H vs Q E hr h => ?_
  · obtain ⟨w, a1, a2, n, back, f, g, rfl, _⟩ := h
    rfl
  obtain ⟨o, a1, a2, n, back, f, g, rfl, hb, hn, h1, h2, q⟩ := h
  refine ⟨_, (pss_cons (ps_if (pt_cmpR op_eq (pv 0) pe_str (nomark _)) (pss_one (ps_ret (pe_op op_cat (pe_slice sl_list (pv 1) (po_some pe_int) po_none) (pe_lst (pa_cons (pe_ix ix_list (pv 1) (pv 3) (fun _ _ => rfl)) pa_nil))))) pss_nil)
      (pss_cons (ps_if (pt_cmpR op_in_seq (pv 0) (pe_tup (pa_cons pe_str (pa_cons pe_str (pa_cons pe_str (pa_cons pe_str (pa_cons pe_str pa_nil)))))) (by rfl)) (pss_one (ps_ret (pe_lc (own := [("a", 4), ("b", 5)]) rfl sc_row_truths.nd (pi_zip (by rfl) T.z_zip (pa_cons (pv 1) (pa_cons (pv 2) pa_nil))) (blkOk_by (own := [("a", 4), ("b", 5)]) (N := nm_row_truths) (sc := defScope s_row_truths) (by decide +kernel)) (fun _ _ _ _ _ => (show PG _ _ (gTup K 2 _) from pg_tup rfl (pgs_cons (pg_name (i := 4) sc_row_truths.nd rfl (.inl rfl)) (pgs_cons (pg_name (i := 5) sc_row_truths.nd rfl (.inl rfl)) pgs_nil)))) (fun _ _ _ _ _ => pts_nil) (fun _ _ _ _ _ => (pc (ok_plain_truth T) (hr.mono (by omega)) T.g_plain_truth (pa_cons (pv 0) (pa_cons (pv 4) (pa_cons (pv 5) pa_nil)))))))) pss_nil)
      (pss_one (ps_ret (pc (ok_spread T) (hr.mono (by omega)) T.g_spread (pa_cons (pv 0) (pa_cons (pv 1) (pa_cons (pv 2) (pa_cons (pv 3) pa_nil))))))))), ?_⟩
  refine ⟨_, rfl, rfl, _, rfl, ?_⟩
  rw [show V.str "next" = V.str (RG.u .next).s from rfl, vsR]
  refine ite2 (fun c => ?_) (fun c1 => ?_)
  · obtain rfl : o = .u .next := of_decide_eq_true c
    refine ⟨_, rfl, 1, rfl, a1, _, rfl, h1, fun p hp => ?_⟩
    have e1 := Evl.Ex.new hp (o := HO.lst (cutV (bls n f) (some 1) none))
    refine ⟨_, rfl, _, rfl, a1, _, _, _, rfl, rfl, Evl.ex_l e1 h1, bls_at f hb, (by show 1 ≤ sizeLine; decide), fun p2 hp2 => ?_⟩
    have hp1 : H p = none := hp
    have e2 : Ex H (upd (upd H p (.lst (cutV (bls n f) (some 1) none))) p2 (.lst [.bl (f back)])) := e1.trans (Evl.Ex.new hp2)
    have g1 : upd (upd H p (.lst (cutV (bls n f) (some 1) none))) p2 (.lst [.bl (f back)]) p = some (.lst (cutV (bls n f) (some 1) none)) := Evl.Ex.new hp2 _ _ upd_same
    have hl : (cutV (bls n f) (some 1) none).length + 1 ≤ sizeLine := by
      have z := cutV_length (bls n f) (some 1) none
      rw [bls_len] at z
      have z2 : 2000 ≤ sizeLine := by decide
      omega
    refine ⟨p, p2, _, _, rfl, rfl, g1, upd_same, hl, fun p3 hp3 => q p3 _ ?_ (e2.trans (Evl.Ex.new hp3)) ?_⟩
    · cases z : H p3 with
      | none => rfl
      | some o => rw [e2 _ _ z] at hp3; cases hp3
    · rw [upd_same, bls_shift f hb]
      refine congrArg (fun z => some (HO.lst z)) (bls_congr fun k hk => ?_)
      unfold rowG
      rw [if_pos rfl]
  refine nxt ?_
  dsimp only [tSeq]
  refine tst_in (K := K) (te := tVar 0) ["not", "and", "or", "implies", "same"] (by decide) (fun R h => ⟨_, rfl, h⟩) fun H1 e1 => ?_
  rw [pl_in]
  have c1' : o ≠ .u .next := fun z => c1 (decide_eq_true z)
  refine ite2 (fun c => ?_) (fun c2 => ?_)
  · refine ⟨_, rfl, _, rfl, a1, a2, _, _, rfl, Evl.ex_l e1 h1, Evl.ex_l e1 h2, fun D hD => ?_⟩
    refine lc_it (walk_zip (K := K) (a := a1) (b := a2) (xs := bls n f) (ys := bls n g) (n := n) (by rw [bls_len, bls_len, Nat.min_self])) (fun i H' => Ex H1 H' ∧ H' D = some (.lst (bls i fun k => plG o (f k) (g k)))) ⟨Evl.Ex.new hD, by rw [upd_same]; rfl⟩ (fun i H' _ z => ⟨Evl.ex_l (e1.trans z.1) h1, Evl.ex_l (e1.trans z.1) h2⟩) ?_ ?_
    · rintro i x H2 H3 hi ⟨e2, hB⟩ ⟨Tp, x1, y1, rfl, hT, rfl, hx, hy⟩
      have hx : (bls n f)[i]? = some x1 := hx
      have hy : (bls n g)[i]? = some y1 := hy
      rw [bls_get f hi] at hx
      rw [bls_get g hi] at hy
      obtain rfl := Option.some.inj hx
      obtain rfl := Option.some.inj hy
      refine ⟨Tp, [_, _], rfl, SqT.of upd_same, rfl, _, _, rfl, _, _, rfl, rfl, rfl, ?_⟩
      dsimp only [tYes]
      refine iteT ⟨_, rfl, _, rfl, _, rfl, o, f i, g i, rfl, c, bls i (fun k => plG o (f k) (g k)), Evl.Ex.new hT _ _ hB, ?_, Evl.Ex.mut (e2.trans (Evl.Ex.new hT)) hD, ?_⟩
      · rw [bls_len]; exact Evl.sz_lt (by omega)
      · rw [upd_same]
        unfold bls
        rw [List.range_succ, List.map_append]
        rfl
    · rintro H2 ⟨e2, hB⟩
      refine q D H2 ?_ (e1.trans e2) ?_
      · cases z : H D with
        | none => rfl
        | some o => rw [e1 _ _ z] at hD; cases hD
      · rw [hB]
        refine congrArg (fun z => some (HO.lst z)) (bls_congr fun k hk => ?_)
        unfold rowG
        rw [if_neg c1', if_pos c]
  · refine nxt ⟨_, rfl, _, rfl, _, rfl, _, rfl, o, a1, a2, n, back, f, g, rfl, hb, hn, Evl.ex_l e1 h1, Evl.ex_l e1 h2, ?_⟩
    have e : rowG n back o f g = spr (fun j x => stG o (f j) (g j) x) n back (grG o) := funext fun k => by
      unfold rowG
      rw [if_neg c1', if_neg c2]
    rw [← e]
    exact q.ex e1
end
end W16
set_option Elab.async false
set_option linter.all false
set_option maxRecDepth 100000
set_option maxHeartbeats 4000000
namespace W16
open PySem PySem.Spec PyProof.Rows L2
open Evl (Ex)
/-! ### tuples stay -/
def TEx (K : PySem.W.Frag) (H H' : Hp) : Prop := ∀ a xs, SqT K H a xs → SqT K H' a xs
mutual
theorem dp_tex {K : PySem.W.Frag} {H H' : Hp} (e : TEx K H H') : ∀ (d : PyData) (v : V), noL d = true → Dp K H v d → Dp K H' v d
  | .none, _, _, h => by cases h; exact .non
  | .bool b, _, _, h => by cases h; exact .bl b
  | .int i, _, _, h => by cases h; exact .int i
  | .str x, _, _, h => by cases h; exact .str x
  | .list ds, _, hl, h => by simp [noL] at hl
  | .tuple ds, _, hl, h => by
    cases h with
    | tup hs ha => exact .tup (e _ _ hs) (dpa_tex e ds _ (by simpa [noL] using hl) ha)
  | .dict _, _, hl, h => by cases h
theorem dpa_tex {K : PySem.W.Frag} {H H' : Hp} (e : TEx K H H') : ∀ (ds : List PyData) (vs : List V), noLs ds = true → DpAll K H vs ds → DpAll K H' vs ds
  | [], _, _, h => by cases h; exact .nil
  | d :: ds, _, hl, h => by
    simp only [noLs, Bool.and_eq_true] at hl
    cases h with
    | cons h1 h2 => exact .cons (dp_tex e d _ hl.1 h1) (dpa_tex e ds _ hl.2 h2)
end
theorem cDs_noL : ∀ fs : List Cm, noLs (fs.map cD) = true
  | [] => by simp [noLs]
  | c :: r => by rw [List.map_cons, noLs, cD_noL, cDs_noL r]; rfl
/-- all but three things stay -/
def Kp (x y z : Addr) (H H' : Hp) : Prop := ∀ b o, b ≠ x → b ≠ y → b ≠ z → H b = some o → H' b = some o
section
variable {x y z : Addr} {H H1 H2 : Hp}
theorem Kp.refl : Kp x y z H H := fun _ _ _ _ _ h => h
theorem Kp.trans (a : Kp x y z H H1) (b : Kp x y z H1 H2) : Kp x y z H H2 := fun c o h1 h2 h3 h => b c o h1 h2 h3 (a c o h1 h2 h3 h)
theorem Kp.of (e : Ex H H1) : Kp x y z H H1 := fun b o _ _ _ h => e b o h
theorem Kp.ux {o : HO} : Kp x y z H (upd H x o) := fun b u h _ _ e => by rw [upd_ne h]; exact e
theorem Kp.uy {o : HO} : Kp x y z H (upd H y o) := fun b u _ h _ e => by rw [upd_ne h]; exact e
theorem Kp.uz {o : HO} : Kp x y z H (upd H z o) := fun b u _ _ h e => by rw [upd_ne h]; exact e
/-- what was there before the three were made -/
theorem Kp.ex {H0 : Hp} (k : Kp x y z H H1) (e : Ex H0 H) (hx : H0 x = none) (hy : H0 y = none) (hz : H0 z = none) : Ex H0 H1 := fun b o h => k b o (fun q => by rw [q, hx] at h; cases h) (fun q => by rw [q, hy] at h; cases h) (fun q => by rw [q, hz] at h; cases h) (e b o h)
end
/-! ### rows as keys -/
def rowK (r : Row) : List Key := [.inr r.1, .inl r.2.1, .inl r.2.2]
def rowV (r : Row) : List V := [.str r.1, .int r.2.1, .int r.2.2]
theorem rowK_v (r : Row) : (rowK r).map kV = rowV r := rfl
theorem rowK_inj {r q : Row} (h : rowK r = rowK q) : r = q := by
  obtain ⟨a, b, c⟩ := r
  obtain ⟨a', b', c'⟩ := q
  have h1 : (Sum.inr a : Key) = Sum.inr a' := congrArg (fun l : List Key => l.headD (.inl 0)) h
  have h2 : (Sum.inl b : Key) = Sum.inl b' := congrArg (fun l : List Key => l.tail.headD (.inl 0)) h
  have h3 : (Sum.inl c : Key) = Sum.inl c' := congrArg (fun l : List Key => l.tail.tail.headD (.inl 0)) h
  rw [Sum.inr.inj h1, Sum.inl.inj h2, Sum.inl.inj h3]
def kvsFrom : Nat → List Row → List (List Key × V)
  | _, [] => []
  | n, r :: rest => (rowK r, V.int (n : Nat)) :: kvsFrom (n + 1) rest
def kvsOf (rows : List Row) : List (List Key × V) := kvsFrom 0 rows
theorem kvsFrom_len : ∀ (n : Nat) (rows : List Row), (kvsFrom n rows).length = rows.length
  | _, [] => rfl
  | n, r :: rest => congrArg (· + 1) (kvsFrom_len (n + 1) rest)
theorem kvsOf_len (rows : List Row) : (kvsOf rows).length = rows.length := kvsFrom_len 0 rows
theorem kvsFrom_snoc (r : Row) : ∀ (n : Nat) (rows : List Row), kvsFrom n (rows ++ [r]) = kvsFrom n rows ++ [(rowK r, .int ((n + rows.length : Nat) : Int))]
  | n, [] => rfl
  | n, q :: rest => by
    show (rowK q, V.int (n : Nat)) :: kvsFrom (n + 1) (rest ++ [r]) = (rowK q, V.int (n : Nat)) :: (kvsFrom (n + 1) rest ++ _)
    rw [kvsFrom_snoc r (n + 1) rest, show n + 1 + rest.length = n + (q :: rest).length from by rw [List.length_cons]; omega]
theorem kvsOf_snoc (rows : List Row) (r : Row) : kvsOf (rows ++ [r]) = kvsOf rows ++ [(rowK r, .int (rows.length : Nat))] := by
  unfold kvsOf
  rw [kvsFrom_snoc, Nat.zero_add]
theorem kvsFrom_val (r : Row) : ∀ (n : Nat) (rows : List Row), valV (kvsFrom n rows) (rowK r) = if r ∈ rows then some (.int ((n + ix rows r : Nat) : Int)) else none
  | n, [] => by simp [kvsFrom, valV_nil]
  | n, q :: rest => by
    unfold kvsFrom ix
    by_cases h : q = r
    · subst h
      rw [valV_pos rfl, if_pos List.mem_cons_self, if_pos rfl]
      all_goals rfl
    · rw [valV_neg (p := (rowK q, V.int (n : Nat))) fun e => h (rowK_inj e), kvsFrom_val r (n + 1) rest, if_neg h]
      by_cases hm : r ∈ rest
      · rw [if_pos hm, if_pos (List.mem_cons_of_mem _ hm), show n + 1 + ix rest r = n + (ix rest r + 1) by omega]
      · rw [if_neg hm, if_neg fun z => (List.mem_cons.mp z).elim (fun e => h e.symm) hm]
theorem kvs_val (rows : List Row) (r : Row) : valV (kvsOf rows) (rowK r) = if r ∈ rows then some (.int (ix rows r : Nat)) else none := by
  unfold kvsOf
  rw [kvsFrom_val, Nat.zero_add]
def RowsAt (H : Hp) (vs : List V) (rows : List Row) : Prop := vs.length = rows.length ∧ ∀ (i : Nat) (r : Row), rows[i]? = some r → ∃ p, vs[i]? = some (V.ref p) ∧ H p = some (.tup (rowV r))
theorem RowsAt.snoc {H : Hp} {vs : List V} {rows : List Row} {r : Row} {p : Addr} (h : RowsAt H vs rows) (hp : H p = some (.tup (rowV r))) : RowsAt H (vs ++ [V.ref p]) (rows ++ [r]) := by
  refine ⟨by rw [List.length_append, List.length_append, h.1, List.length_singleton, List.length_singleton], fun i q hi => ?_⟩
  by_cases hlt : i < rows.length
  · rw [List.getElem?_append_left hlt] at hi
    rw [List.getElem?_append_left (by rw [h.1]; exact hlt)]
    exact h.2 i q hi
  · rw [List.getElem?_append_right (by omega)] at hi
    rw [List.getElem?_append_right (by rw [h.1]; omega), h.1]
    have e : i - rows.length = 0 := by
      have z := (List.getElem?_eq_some_iff.mp hi).1
      simp at z
      omega
    rw [e] at hi ⊢
    have e2 : q = r := (Option.some.inj hi).symm
    rw [e2]
    exact ⟨p, rfl, hp⟩
theorem RowsAt.map {H H' : Hp} {vs : List V} {rows : List Row} (h : RowsAt H vs rows) (e : ∀ b xs, H b = some (.tup xs) → H' b = some (.tup xs)) : RowsAt H' vs rows := ⟨h.1, fun i r hi => let ⟨p, h1, h2⟩ := h.2 i r hi; ⟨p, h1, e _ _ h2⟩⟩
structure Bk (K : PySem.W.Frag) (H : Hp) (a dx lf lr dn : Addr) (fs : List Cm) (rows : List Row) : Prop where
  ins : H a = some (.ins (gA K "RowBook") dx [("facts", .ref lf), ("rows", .ref lr), ("_numbers", .ref dn)])
  ne : lf ≠ lr
  facts : ∃ vs, H lf = some (.lst vs) ∧ DpAll K H vs (fs.map cD)
  rws : ∃ vs, H lr = some (.lst vs) ∧ RowsAt H vs rows
  dict : H dn = some (.dT (kvsOf rows))
section
variable {K : PySem.W.Frag} {H H' : Hp} {a dx lf lr dn : Addr} {fs : List Cm} {rows : List Row} {v : V} {f : Fm} {c : Cm}
theorem Bk.tex (B : Bk K H a dx lf lr dn fs rows) (k : Kp lf lr dn H H') : TEx K H H' := fun b xs h => by
  obtain ⟨vf, hf, _⟩ := B.facts
  obtain ⟨vr, hr, _⟩ := B.rws
  have go : ∀ o, H b = some o → (∀ l, o ≠ .lst l) → (∀ l, o ≠ .dT l) → H' b = some o := fun o ho n1 n2 => k b o (fun e => by rw [e, hf] at ho; exact n1 _ (Option.some.inj ho).symm) (fun e => by rw [e, hr] at ho; exact n1 _ (Option.some.inj ho).symm)
    (fun e => by rw [e, B.dict] at ho; exact n2 _ (Option.some.inj ho).symm) ho
  rcases h with (h | ⟨o, h⟩) | h
  · exact .inl (.inl (go _ h (fun l z => by cases z) fun l z => by cases z))
  · exact .inl (.inr ⟨o, go _ h (fun l z => by cases z) fun l z => by cases z⟩)
  · exact .inr h
theorem Bk.df (B : Bk K H a dx lf lr dn fs rows) (k : Kp lf lr dn H H') (h : DF K H v f) : DF K H' v f := dp_tex (B.tex k) _ _ (fD_noL f) h
theorem Bk.dc (B : Bk K H a dx lf lr dn fs rows) (k : Kp lf lr dn H H') (h : DC K H v c) : DC K H' v c := dp_tex (B.tex k) _ _ (cD_noL c) h
theorem Bk.tup (B : Bk K H a dx lf lr dn fs rows) (k : Kp lf lr dn H H') {b : Addr} {xs : List V} (h : H b = some (.tup xs)) : H' b = some (.tup xs) := by
  obtain ⟨vf, hf, _⟩ := B.facts
  obtain ⟨vr, hr, _⟩ := B.rws
  exact k b _ (fun e => by rw [e, hf] at h; cases h) (fun e => by rw [e, hr] at h; cases h) (fun e => by rw [e, B.dict] at h; cases h) h
theorem Bk.self (B : Bk K H a dx lf lr dn fs rows) (k : Kp lf lr dn H H') : H' a = some (.ins (gA K "RowBook") dx [("facts", .ref lf), ("rows", .ref lr), ("_numbers", .ref dn)]) := by
  obtain ⟨vf, hf, _⟩ := B.facts
  obtain ⟨vr, hr, _⟩ := B.rws
  have h := B.ins
  exact k a _ (fun e => by rw [e, hf] at h; cases h) (fun e => by rw [e, hr] at h; cases h) (fun e => by rw [e, B.dict] at h; cases h) h
/-- a book in a heap with more in it -/
theorem Bk.ex (B : Bk K H a dx lf lr dn fs rows) (e : Ex H H') : Bk K H' a dx lf lr dn fs rows :=
  ⟨e _ _ B.ins, B.ne, let ⟨vs, h1, h2⟩ := B.facts; ⟨vs, e _ _ h1, dpa_ex e _ _ h2⟩, let ⟨vs, h1, h2⟩ := B.rws; ⟨vs, e _ _ h1, h2.map fun b xs h => e _ _ h⟩, e _ _ B.dict⟩
theorem shp_c (h1 : c.ok = true) (h2 : c.dep ≤ 10) : SeqAt.shaped (cD c) = true := shp (f := .cmp c) (d := 10) h1 h2 (by decide)
theorem lays_c : ∀ fs : List Cm, (∀ c ∈ fs, c.ok = true) → PyData.canLayAll0 (fs.map cD) = true
  | [], _ => rfl
  | c :: r, h => by
    rw [List.map_cons, PyData.canLayAll0, cD_lay, h c List.mem_cons_self, lays_c r fun d hd => h d (List.mem_cons_of_mem _ hd)]
    rfl
theorem deps_c : ∀ fs : List Cm, (∀ c ∈ fs, c.dep ≤ 10) → PyData.depthAll (fs.map cD) ≤ 10
  | [], _ => by simp [PyData.depthAll]
  | c :: r, h => by
    have h1 := h c List.mem_cons_self
    have h2 := deps_c r fun d hd => h d (List.mem_cons_of_mem _ hd)
    rw [List.map_cons, PyData.depthAll, cD_dep]
    omega
theorem shp_cs {fs : List Cm} (h : ∀ c ∈ fs, c.ok = true ∧ c.dep ≤ 10) : SeqAt.shaped (.list (fs.map cD)) = true := by
  have h1 := lays_c fs fun c hc => (h c hc).1
  have h2 := deps_c fs fun c hc => (h c hc).2
  show ((PyData.list (fs.map cD)).canLay0 && decide ((PyData.list (fs.map cD)).depth ≤ 64)) = true
  rw [PyData.canLay0, PyData.depth, h1, decide_eq_true (by omega)]
  rfl
theorem any_c (c : Cm) : ∀ fs : List Cm, ((fs.map cD).any fun z => PyData.eqv z (cD c)) = decide (c ∈ fs)
  | [] => by simp
  | d :: r => by
    rw [List.map_cons, List.any_cons, any_c c r, cD_eqv]
    by_cases e : d = c
    · rw [e]; simp
    · have e' : ¬ c = d := fun z => e z.symm
      simp [e, e']
end
theorem dpa_snoc {K : PySem.W.Frag} {H : Hp} {v : V} {d : PyData} (h2 : Dp K H v d) : ∀ {vs : List V} {ds : List PyData}, DpAll K H vs ds → DpAll K H (vs ++ [v]) (ds ++ [d])
  | [], [], _ => .cons h2 .nil
  | [], _ :: _, h => by cases h
  | _ :: _, [], h => by cases h
  | _ :: _, _ :: _, h => by
    cases h with
    | cons h1 h3 => exact .cons h1 (dpa_snoc h2 h3)
def retB (K : PySem.W.Frag) (H : Hp) (a dx lf lr dn : Addr) (fs : List Cm) (rows : List Row) (v : V) (Q : VK) : Prop := ∀ H', Kp lf lr dn H H' → Bk K H' a dx lf lr dn fs rows → Q v H'
def spPut (K : PySem.W.Frag) : Sp := fun vs H Q _ => ∃ (r : Row) (a dx lf lr dn : Addr) (fs : List Cm) (rows : List Row), vs = .ref a :: rowV r ∧ Bk K H a dx lf lr dn fs rows ∧ rows.length ≤ 1000 ∧ retB K H a dx lf lr dn fs (addx rows r) (.int (ix (addx rows r) r)) Q
def spPutFact (K : PySem.W.Frag) : Sp := fun vs H Q _ => ∃ (c : Cm) (v : V) (a dx lf lr dn : Addr) (fs : List Cm) (rows : List Row), vs = [.ref a, v] ∧ DC K H v c ∧ c.ok = true ∧ c.dep ≤ 10 ∧ (∀ d ∈ fs, d.ok = true ∧ d.dep ≤ 10) ∧ Bk K H a dx lf lr dn fs rows ∧ rows.length ≤ 1000 ∧ fs.length ≤ 1000 ∧
  retB K H a dx lf lr dn (addx fs c) (addx rows ("fact", ix (addx fs c) c, -1)) (.int (ix (addx rows ("fact", ix (addx fs c) c, -1)) ("fact", ix (addx fs c) c, -1))) Q
section
variable {P : Program} {w : World} {K : PySem.W.Frag} {mg : Str → Option Value} {base : Heap}
abbrev nm_RowBook_put : List Str := ["self", "word", "left", "right", "row"]
theorem sc_RowBook_put : FnScope nm_RowBook_put ["self", "word", "left", "right"] (defScope s_RowBook_put) := ⟨rfl, rfl, rfl, by decide +kernel, rfl, by decide +kernel, by decide +kernel⟩
theorem ok_RowBook_put (T : T16 K w mg) : Ok P w K mg base 1 (mA K "RowBook" "put") ["self", "word", "left", "right"] (spPut K) := by
  refine mkOk T.F_RowBook_put sc_RowBook_put (fun _ _ _ _ _ _ us hl => match us, hl with | [_, _, _, _], _ => rfl) (fun vs H Q E h => ?_) fun cdv A outer s H vs Q E hr h => ?_
  · obtain ⟨r, a, dx, lf, lr, dn, fs, rows, rfl, _⟩ := h
    rfl
  obtain ⟨r, a, dx, lf, lr, dn, fs, rows, rfl, B, hz, q⟩ := h
  refine ⟨_, (pss_cons (ps_set (i := 4) sc_RowBook_put.nd rfl (.inl rfl) (pe_tup (pa_cons (pv 1) (pa_cons (pv 2) (pa_cons (pv 3) pa_nil)))))
      (pss_cons (ps_if (pt_cmp (pc_dnotin (hu_of hr) (pv 4) (pe_fld (pv 0) rfl)) (by rfl)) (pss_cons (ps_dput (hu_of hr) (pe_fld (pv 0) rfl) (pv 4) (pe_callB call_len (by rfl) T.z_len (by decide +kernel) (pa_cons (pe_fld (pv 0) rfl) pa_nil)) rfl)
      (pss_one (ps_expr (pe_bm PySem.F.plainAttrs_list PySem.F.slot_list_append PySem.F.type_list_append mt_append (pe_fld (pv 0) rfl) (pa_cons (pv 4) pa_nil))))) pss_nil)
      (pss_one (ps_ret (pe_dget (hu_of hr) (pe_fld (pv 0) rfl) (pv 4) (fun _ _ => rfl)))))), ?_⟩
  refine ⟨_, rfl, _, rfl, _, rfl, (by show 3 ≤ sizeLine; decide), fun p hp => ?_⟩
  have e1 : Ex H (upd H p (.tup (rowV r))) := Evl.Ex.new hp
  have B1 := B.ex e1
  have hp1 : upd H p (.tup (rowV r)) p = some (.tup ((rowK r).map kV)) := upd_same
  have dg := DGet.t (b := p) B1.dict hp1
  rw [kvs_val] at dg
  have hd := B1.ins
  have db : ∀ {H2 : Hp}, (∀ b o, b ≠ lr → b ≠ dn → upd H p (.tup (rowV r)) b = some o → H2 b = some o) → retB K H a dx lf lr dn fs (addx rows r) (.int (ix (addx rows r) r)) Q := fun _ => q
  refine ⟨_, rfl, _, rfl, _, _, _, _, _, rfl, hd, T.c_RowBook, T.n_RowBook__numbers, rfl, dn, _, rfl, dg, _, rfl, ?_⟩
  by_cases hm : r ∈ rows
  · rw [if_pos hm]
    refine iteF (nxt ?_)
    have ea : addx rows r = rows := by unfold addx; rw [if_pos hm]
    rw [ea] at q
    have dg' := DGet.t (b := p) B1.dict hp1
    rw [kvs_val, if_pos hm] at dg'
    exact ⟨_, rfl, _, _, _, _, _, rfl, hd, T.c_RowBook, T.n_RowBook__numbers, rfl, _, rfl, dn, _, rfl, dg', q _ (Kp.of e1) B1⟩
  · rw [if_neg hm]
    have ea : addx rows r = rows ++ [r] := by unfold addx; rw [if_neg hm]
    rw [ea, ix_new hm] at q
    obtain ⟨vf, hvf, hdf⟩ := B1.facts
    obtain ⟨vr, hvr, hra⟩ := B1.rws
    have hs : (kvsOf rows).length < sizeLine := by rw [kvsOf_len]; exact Evl.sz_lt (by omega)
    have dp := DPut.t (b := p) (v := V.int (rows.length : Nat)) B1.dict hp1 hs
    have vn : valV (kvsOf rows) (rowK r) = none := by rw [kvs_val, if_neg hm]
    rw [putK_new _ vn, ← kvsOf_snoc] at dp
    refine iteT ?_
    have n1 : dn ≠ lf := fun e => by have z := B1.dict; rw [e, hvf] at z; cases z
    have n2 : dn ≠ lr := fun e => by have z := B1.dict; rw [e, hvr] at z; cases z
    have n3 : p ≠ dn := fun e => by have z := B1.dict; rw [← e, hp1] at z; cases z
    have n4 : p ≠ lr := fun e => by have z := hvr; rw [← e, hp1] at z; cases z
    have n5 : a ≠ dn := fun e => by rw [e, B1.dict] at hd; cases hd
    have n6 : a ≠ lr := fun e => by rw [e, hvr] at hd; cases hd
    refine ⟨_, rfl, _, _, _, _, _, rfl, hd, T.c_RowBook, T.n_RowBook_rows, rfl, _, rows.length, rfl, .inl ⟨_, SqL.of hvr, hra.1.symm⟩, ?_⟩
    refine ⟨_, rfl, _, _, _, _, _, rfl, hd, T.c_RowBook, T.n_RowBook__numbers, rfl, _, rfl, dn, _, rfl, dp, ?_⟩
    have g1 : upd (upd H p (.tup (rowV r))) dn (.dT (kvsOf (rows ++ [r]))) a = some (.ins (gA K "RowBook") dx [("facts", .ref lf), ("rows", .ref lr), ("_numbers", .ref dn)]) := by rw [upd_ne n5]; exact hd
    have g2 : upd (upd H p (.tup (rowV r))) dn (.dT (kvsOf (rows ++ [r]))) lr = some (.lst vr) := by rw [upd_ne fun e => n2 e.symm]; exact hvr
    have hz2 : vr.length < sizeLine := by rw [hra.1]; exact Evl.sz_lt (by omega)
    refine ⟨_, rfl, _, _, _, _, _, rfl, g1, T.c_RowBook, T.n_RowBook_rows, rfl, .inl ⟨rfl, _, SqL.of g2⟩, _, rfl, lr, vr, _, rfl, rfl, g2, hz2, ?_⟩
    have kp : Kp lf lr dn (upd H p (.tup (rowV r))) (upd (upd (upd H p (.tup (rowV r))) dn (.dT (kvsOf (rows ++ [r])))) lr (.lst (vr ++ [.ref p]))) := Kp.trans Kp.uz Kp.uy
    have B2 : Bk K (upd (upd (upd H p (.tup (rowV r))) dn (.dT (kvsOf (rows ++ [r])))) lr (.lst (vr ++ [.ref p]))) a dx lf lr dn fs (rows ++ [r]) := by
      refine ⟨B1.self kp, B1.ne, ⟨vf, ?_, ?_⟩, ⟨_, upd_same, ?_⟩, ?_⟩
      · rw [upd_ne B1.ne, upd_ne fun e => n1 e.symm]; exact hvf
      · exact dpa_tex (B1.tex kp) _ _ (cDs_noL fs) hdf
      · exact (hra.map fun b xs h => B1.tup kp h).snoc (B1.tup kp (by rw [upd_same]))
      · rw [upd_ne n2, upd_same]
    have dg' := DGet.t (b := p) (k := rowK r) B2.dict (B1.tup kp (by rw [upd_same]; rfl))
    rw [kvs_val, if_pos (by simp), ix_new hm] at dg'
    exact ⟨_, rfl, _, _, _, _, _, rfl, B2.ins, T.c_RowBook, T.n_RowBook__numbers, rfl, _, rfl, dn, _, rfl, dg', q _ ((Kp.of e1).trans kp) B2⟩
abbrev nm_RowBook_put_fact : List Str := ["self", "comparison"]
theorem sc_RowBook_put_fact : FnScope nm_RowBook_put_fact ["self", "comparison"] (defScope s_RowBook_put_fact) := ⟨rfl, rfl, rfl, by decide +kernel, rfl, by decide +kernel, by decide +kernel⟩
theorem eqv_c (c d : Cm) : PyData.eqv (cD c) (cD d) = decide (c = d) := cD_eqv c d
theorem ok_RowBook_put_fact (T : T16 K w mg) : Ok P w K mg base 2 (mA K "RowBook" "put_fact") ["self", "comparison"] (spPutFact K) := by
  refine mkOk T.F_RowBook_put_fact sc_RowBook_put_fact (fun _ _ _ _ _ _ us hl => match us, hl with | [_, _], _ => rfl) (fun vs H Q E h => ?_) fun cdv A outer s H vs Q E hr h => ?_
  · obtain ⟨c, v, a, dx, lf, lr, dn, fs, rows, rfl, _⟩ := h
    rfl
  obtain ⟨c, v, a, dx, lf, lr, dn, fs, rows, rfl, hD, hc1, hc2, hfs, B, hz, hz2, q⟩ := h
  refine ⟨_, (pss_cons (ps_if (pt_cmpR (op_notInD (hu65 hr)) (pv 1) (pe_fld (pv 0) rfl) (by rfl)) (pss_one (ps_expr (pe_bm PySem.F.plainAttrs_list PySem.F.slot_list_append PySem.F.type_list_append mt_append (pe_fld (pv 0) rfl) (pa_cons (pv 1) pa_nil)))) pss_nil)
      (pss_one (ps_ret (pmeth (pv 0) T.c_RowBook T.m_put (ok_RowBook_put T) (hr.mono (by omega)) (pa_cons pe_str (pa_cons (pe_bm PySem.F.plainAttrs_list PySem.F.slot_list_index PySem.F.type_list_index (mt_indexD (hu65 hr)) (pe_fld (pv 0) rfl) (pa_cons (pv 1) pa_nil)) (pa_cons (pe_un un_neg pe_int) pa_nil))))))), ?_⟩
  have hc := shp_c hc1 hc2
  obtain ⟨vf, hvf, hdf⟩ := B.facts
  obtain ⟨vr, hvr, hra⟩ := B.rws
  have lk : (List.lookup ("put" : Str) [(("facts" : Str), V.ref lf), ("rows", .ref lr), ("_numbers", .ref dn)]) = none := rfl
  have fin : ∀ (H1 : Hp), Kp lf lr dn H H1 → Bk K H1 a dx lf lr dn (addx fs c) rows → DC K H1 v c → (∀ d ∈ addx fs c, d.ok = true ∧ d.dep ≤ 10) →
      tMeth (gA K "RowBook") "put" (spPut K) [] E0 (tVar 0) (tCons (tC (.str "fact")) (tCons (tBM K "list" (rIndexD K) (tFld K (tVar 0) "facts") (tCons (tVar 1) tNil)) (tCons (tUn (rU fun i => .int (-i)) (tC (.int 1))) tNil)))
        (start nm_RowBook_put_fact [.ref a, v]) H1 Q := by
    intro H1 kp B1 hD1 hf1
    obtain ⟨vf1, hvf1, hdf1⟩ := B1.facts
    refine ⟨_, rfl, _, _, _, rfl, B1.ins, rfl, _, rfl, _, _, _, _, _, rfl, B1.ins, T.c_RowBook, T.n_RowBook_facts, rfl, .inl ⟨rfl, _, SqL.of hvf1⟩, _, rfl, lf, v, cD c, (addx fs c).map cD, ix (addx fs c) c, cD c, rfl, rfl, .lst (SqL.of hvf1) hdf1, hD1, shp_cs hf1, hc, ?_, ?_, ?_, ?_⟩
    · rw [List.getElem?_map, ix_get (addx_mem fs c)]; rfl
    · rw [eqv_c]; exact decide_eq_true rfl
    · intro m z hm hz
      rw [List.getElem?_map] at hz
      cases qq : (addx fs c)[m]? with
      | none => rw [qq] at hz; cases hz
      | some d =>
        rw [qq] at hz
        rw [← Option.some.inj hz, eqv_c]
        exact decide_eq_false fun e => ix_first hm (by rw [qq, e])
    · exact ⟨_, rfl, ("fact", ix (addx fs c) c, -1), a, dx, lf, lr, dn, addx fs c, rows, rfl, B1, hz, fun H' k B' => q H' (kp.trans k) B'⟩
  refine ⟨_, rfl, _, rfl, _, _, _, _, _, rfl, B.ins, T.c_RowBook, T.n_RowBook_facts, rfl, cD c, fs.map cD, hD, .lst (SqL.of hvf) hdf, hc, shp_cs hfs, _, rfl, ?_⟩
  rw [any_c]
  by_cases hm : c ∈ fs
  · rw [decide_eq_true hm]
    have ea : addx fs c = fs := by unfold addx; rw [if_pos hm]
    refine iteF (nxt (fin H Kp.refl (by rw [ea]; exact B) hD (by rw [ea]; exact hfs)))
  · rw [decide_eq_false hm]
    have ea : addx fs c = fs ++ [c] := by unfold addx; rw [if_neg hm]
    have hl : vf.length = fs.length := by rw [dpa_len hdf, List.length_map]
    refine iteT ⟨_, rfl, _, _, _, _, _, rfl, B.ins, T.c_RowBook, T.n_RowBook_facts, rfl, .inl ⟨rfl, _, SqL.of hvf⟩, _, rfl, lf, vf, v, rfl, rfl, hvf, by rw [hl]; exact Evl.sz_lt (by omega), ?_⟩
    have kp : Kp lf lr dn H (upd H lf (.lst (vf ++ [v]))) := Kp.ux
    have hD1 := B.dc kp hD
    refine fin _ kp ⟨B.self kp, B.ne, ⟨vf ++ [v], upd_same, ?_⟩, ⟨vr, ?_, hra.map fun b xs h => B.tup kp h⟩, ?_⟩ hD1 ?_
    · rw [ea, List.map_append]
      exact dpa_snoc hD1 (dpa_tex (B.tex kp) _ _ (cDs_noL fs) hdf)
    · rw [upd_ne fun e => B.ne e.symm]; exact hvr
    · rw [upd_ne fun e => by have z := B.dict; rw [e, hvf] at z; cases z]; exact B.dict
    · intro d hd
      rcases addx_sub hd with h | h
      · exact hfs d h
      · rw [h]; exact ⟨hc1, hc2⟩
/-! the book of a formula -/
theorem rows_add {fs : List Cm} {ms : List Fm} (G : Good fs ms) {x : Fm} (hx : okAt fs ms ms.length x) : addx (ms.map (row fs ms)) (row fs ms x) = (addx ms x).map (row fs (addx ms x)) ∧ ix (addx (ms.map (row fs ms)) (row fs ms x)) (row fs ms x) = ix (addx ms x) x := by
  by_cases h : x ∈ ms
  · have e1 : addx ms x = ms := by unfold addx; rw [if_pos h]
    have e2 : addx (ms.map (row fs ms)) (row fs ms x) = ms.map (row fs ms) := by unfold addx; rw [if_pos ((row_mem G hx).mpr h)]
    rw [e1, e2]
    refine ⟨rfl, ?_⟩
    refine ix_at ?_ ?_
    · refine List.pairwise_iff_getElem.mpr fun i j hi hj hij e => ?_
      rw [List.length_map] at hi hj
      rw [List.getElem_map, List.getElem_map] at e
      have z := rows_nd G i j _ _ (List.getElem?_eq_getElem hi) (List.getElem?_eq_getElem hj) e
      omega
    · rw [List.getElem?_map, ix_get h]; rfl
  · have e1 : addx ms x = ms ++ [x] := by unfold addx; rw [if_neg h]
    have n : row fs ms x ∉ ms.map (row fs ms) := fun z => h ((row_mem G hx).mp z)
    have e2 : addx (ms.map (row fs ms)) (row fs ms x) = ms.map (row fs ms) ++ [row fs ms x] := by unfold addx; rw [if_neg n]
    rw [e1, e2, rows_snoc G hx, ix_new n, ix_new h, List.length_map]
    exact ⟨rfl, rfl⟩
def spPutFm (K : PySem.W.Frag) (n : Nat) : Sp := fun vs H Q _ => ∃ (f : Fm) (v : V) (a dx lf lr dn : Addr) (s : List Cm × List Fm), vs = [.ref a, v] ∧ DF K H v f ∧ f.dep ≤ n ∧ (∀ c ∈ found f, c.ok = true ∧ c.dep ≤ 10) ∧ (∀ c ∈ s.1, c.ok = true ∧ c.dep ≤ 10) ∧ Good s.1 s.2 ∧
  Bk K H a dx lf lr dn s.1 (s.2.map (row s.1 s.2)) ∧ s.1.length + f.size ≤ 900 ∧ s.2.length + f.size ≤ 900 ∧ retB K H a dx lf lr dn (putF f s).1 ((putF f s).2.map (row (putF f s).1 (putF f s).2)) (.int (ix (putF f s).2 f)) Q
def rgOf : FG → RG
  | .tt => .tt
  | .ff => .ff
  | .c _ => .fact
  | .u o => .u o
  | .b o => .b o
abbrev nm_RowBook_put_formula : List Str := ["self", "formula", "word", "left", "right"]
theorem sc_RowBook_put_formula : FnScope nm_RowBook_put_formula ["self", "formula"] (defScope s_RowBook_put_formula) := ⟨rfl, rfl, rfl, by decide +kernel, rfl, by decide +kernel, by decide +kernel⟩
theorem ok_RowBook_put_formula (T : T16 K w mg) : ∀ n, Ok P w K mg base (n + 3) (mA K "RowBook" "put_formula") ["self", "formula"] (spPutFm K n)
  | 0 => (no_ok T.F_RowBook_put_formula (fun _ _ _ _ _ _ us hl => match us, hl with | [_, _], _ => rfl) (fun vs H Q E h => by
      obtain ⟨f, v, a, dx, lf, lr, dn, s, _, _, h, _⟩ := h
      have h2 := W16.dep_pos f
      omega)).mono (Nat.zero_le _)
  | n + 1 => by
    have ih : Ok P w K mg base (n + 3) (mA K "RowBook" "put_formula") ["self", "formula"] (spPutFm K n) := ok_RowBook_put_formula T n
    refine mkOk T.F_RowBook_put_formula sc_RowBook_put_formula (fun _ _ _ _ _ _ us hl => match us, hl with | [_, _], _ => rfl) (fun vs H Q E h => ?_) fun cdv A outer s H vs Q E hr h => ?_
    · obtain ⟨f, v, a, dx, lf, lr, dn, s, rfl, _⟩ := h
      rfl
    obtain ⟨f, v, a, dx, lf, lr, dn, st, rfl, hD, hdp, hfc, hsc, G, B, hz1, hz2, q⟩ := h
    obtain ⟨fs, ms⟩ := st
    obtain ⟨b, xs, rfl, hS, hA⟩ := DF.out hD
    have tf : ∀ (x y : FG), decide (V.str x.s = V.str y.s) = decide (x = y) := vsF
    refine ⟨_, (pss_cons (ps_set (i := 2) sc_RowBook_put_formula.nd rfl (.inl rfl) (pe_ix ix_tup (pv 1) pe_int (fun _ _ => rfl)))
      (pss_cons (ps_if (PW.pt (pw_or (pt_cmpR op_eq (pv 2) pe_str (nomark _)) (pw_or1 (pt_cmpR op_eq (pv 2) pe_str (nomark _))))) (pss_one (ps_ret (pmeth (pv 0) T.c_RowBook T.m_put (ok_RowBook_put T) (hr.mono (by omega)) (pa_cons (pv 2) (pa_cons (pe_un un_neg pe_int) (pa_cons (pe_un un_neg pe_int) pa_nil)))))) pss_nil)
      (pss_cons (ps_if (pt_cmpR op_in_seq (pv 2) (pe_gl T.g_COMPARISONS_rows) (by rfl)) (pss_one (ps_ret (pmeth (pv 0) T.c_RowBook T.m_put_fact (ok_RowBook_put_fact T) (hr.mono (by omega)) (pa_cons (pv 1) pa_nil)))) pss_nil)
      (pss_cons (ps_set (i := 3) sc_RowBook_put_formula.nd rfl (.inl rfl) (pmeth (pv 0) T.c_RowBook T.m_put_formula ih (hr.mono (by omega)) (pa_cons (pe_ix ix_tup (pv 1) pe_int (fun _ _ => rfl)) pa_nil)))
      (pss_cons (ps_set (i := 4) sc_RowBook_put_formula.nd rfl (.inl rfl) (pe_un un_neg pe_int))
      (pss_cons (ps_if (pt_cmpR op_eq (pe_callB call_len (by rfl) T.z_len (by decide +kernel) (pa_cons (pv 1) pa_nil)) pe_int (nomark _)) (pss_one (ps_set (i := 4) sc_RowBook_put_formula.nd rfl (.inl rfl) (pmeth (pv 0) T.c_RowBook T.m_put_formula ih (hr.mono (by omega)) (pa_cons (pe_ix ix_tup (pv 1) pe_int (fun _ _ => rfl)) pa_nil)))) pss_nil)
      (pss_one (ps_ret (pmeth (pv 0) T.c_RowBook T.m_put (ok_RowBook_put T) (hr.mono (by omega)) (pa_cons (pv 2) (pa_cons (pv 3) (pa_cons (pv 4) pa_nil)))))))))))), ?_⟩
    refine ⟨_, rfl, b, _, 0, _, rfl, rfl, hS, atI_nat (j := 0) rfl, ?_⟩
    have hml : ms.length ≤ 1000 := by simp only at hz2; omega
    have lk1 : (List.lookup ("put" : Str) [(("facts" : Str), V.ref lf), ("rows", .ref lr), ("_numbers", .ref dn)]) = none := rfl
    cases f with
    | tt =>
      refine ⟨_, rfl, rfl, _, rfl, ?_⟩
      rw [show decide (V.str (Fm.tt).tag.s = V.str "true") = true from (tf .tt .tt).trans rfl]
      have z := rows_add G (x := .tt) trivial
      refine iteT ⟨_, rfl, _, _, _, rfl, B.ins, rfl, _, rfl, _, rfl, _, rfl, ⟨("true", -1, -1), a, dx, lf, lr, dn, fs, _, rfl, B, by rw [List.length_map]; exact hml, fun H' k B' => ?_⟩⟩
      have B' : Bk K H' a dx lf lr dn fs (addx (ms.map (row fs ms)) (row fs ms .tt)) := B'
      show Q (.int (ix (addx (ms.map (row fs ms)) (row fs ms .tt)) (row fs ms .tt))) H'
      rw [z.1] at B'
      rw [z.2]
      exact q H' k B'
    | ff =>
      refine ⟨_, rfl, rfl, _, rfl, ?_⟩
      rw [show decide (V.str (Fm.ff).tag.s = V.str "true") = false from (tf .ff .tt).trans rfl]
      refine iteF ⟨_, rfl, rfl, _, rfl, ?_⟩
      rw [show decide (V.str (Fm.ff).tag.s = V.str "false") = true from (tf .ff .ff).trans rfl]
      have z := rows_add G (x := .ff) trivial
      refine iteT ⟨_, rfl, _, _, _, rfl, B.ins, rfl, _, rfl, _, rfl, _, rfl, ⟨("false", -1, -1), a, dx, lf, lr, dn, fs, _, rfl, B, by rw [List.length_map]; exact hml, fun H' k B' => ?_⟩⟩
      have B' : Bk K H' a dx lf lr dn fs (addx (ms.map (row fs ms)) (row fs ms .ff)) := B'
      show Q (.int (ix (addx (ms.map (row fs ms)) (row fs ms .ff)) (row fs ms .ff))) H'
      rw [z.1] at B'
      rw [z.2]
      exact q H' k B'
    | cmp c =>
      refine ⟨_, rfl, rfl, _, rfl, ?_⟩
      rw [show decide (V.str (Fm.cmp c).tag.s = V.str "true") = false from (tf (.c c.o) .tt).trans rfl]
      refine iteF ⟨_, rfl, rfl, _, rfl, ?_⟩
      rw [show decide (V.str (Fm.cmp c).tag.s = V.str "false") = false from (tf (.c c.o) .ff).trans rfl]
      refine iteF (nxt ⟨_, rfl, _, _, rfl, .inr (T.c_COMPARISONS_rows _), rfl, rfl, _, rfl, ?_⟩)
      show if inV (V.str (Fm.cmp c).tag.s) [.str "equal", .str "below", .str "upto"] = true then _ else _
      rw [inV_cmp]
      have hc := hfc c (List.mem_singleton.mpr rfl)
      have G2 := G.addF c
      have z := rows_add G2 (x := .cmp c) (addx_mem fs c)
      rw [rows_addF G c] at z
      refine iteT ⟨_, rfl, _, _, _, rfl, B.ins, rfl, _, rfl, ⟨c, _, a, dx, lf, lr, dn, fs, _, rfl, hD, hc.1, hc.2, hsc, B, by rw [List.length_map]; exact hml, by simp only at hz1; omega, fun H' k B' => ?_⟩⟩
      have B' : Bk K H' a dx lf lr dn (addx fs c) (addx (ms.map (row fs ms)) (row (addx fs c) ms (.cmp c))) := B'
      show Q (.int (ix (addx (ms.map (row fs ms)) (row (addx fs c) ms (.cmp c))) (row (addx fs c) ms (.cmp c)))) H'
      rw [z.1] at B'
      rw [z.2]
      exact q H' k B'
    | un o g =>
      obtain ⟨x, rfl, hx⟩ := DpAll.one hA
      refine ⟨_, rfl, rfl, _, rfl, ?_⟩
      rw [show decide (V.str (Fm.un o g).tag.s = V.str "true") = false from (tf (.u o) .tt).trans rfl]
      refine iteF ⟨_, rfl, rfl, _, rfl, ?_⟩
      rw [show decide (V.str (Fm.un o g).tag.s = V.str "false") = false from (tf (.u o) .ff).trans rfl]
      refine iteF (nxt ⟨_, rfl, _, _, rfl, .inr (T.c_COMPARISONS_rows _), rfl, rfl, _, rfl, ?_⟩)
      show if inV (V.str (Fm.un o g).tag.s) [.str "equal", .str "below", .str "upto"] = true then _ else _
      rw [inV_cmp]
      have P := put_ok g (fs, ms) G
      have hz3 : fs.length + (g.size + 1) ≤ 900 := hz1
      have hz4 : ms.length + (g.size + 1) ≤ 900 := hz2
      refine iteF (nxt ⟨_, rfl, _, _, _, rfl, B.ins, rfl, _, rfl, b, _, 1, _, rfl, rfl, hS, atI_nat (j := 1) rfl, g, x, a, dx, lf, lr, dn, (fs, ms), rfl, hx, dep_un hdp, hfc, hsc, G, B, by show fs.length + g.size ≤ 900; omega, by show ms.length + g.size ≤ 900; omega, fun H1 k1 B1 => ?_⟩)
      have z := rows_add P.good (x := .un o g) ⟨P.mem, ix_lt P.mem⟩
      have hl := P.lenm
      refine ⟨_, rfl, ?_⟩
      refine ⟨_, rfl, _, 2, rfl, .inr ⟨_, B.tex k1 _ _ hS, rfl⟩, rfl, _, rfl, iteF (nxt ?_)⟩
      refine ⟨_, rfl, _, _, _, rfl, B1.ins, rfl, _, rfl, _, rfl, _, rfl, ⟨(o.s, ix (putF g (fs, ms)).2 g, -1), a, dx, lf, lr, dn, _, _, rfl, B1, by rw [List.length_map]; have hl2 : (putF g (fs, ms)).2.length ≤ ms.length + g.size := hl; omega, fun H' k B' => ?_⟩⟩
      have B' : Bk K H' a dx lf lr dn (putF g (fs, ms)).1 (addx ((putF g (fs, ms)).2.map (row (putF g (fs, ms)).1 (putF g (fs, ms)).2)) (row (putF g (fs, ms)).1 (putF g (fs, ms)).2 (.un o g))) := B'
      show Q (.int (ix (addx ((putF g (fs, ms)).2.map (row (putF g (fs, ms)).1 (putF g (fs, ms)).2)) (row (putF g (fs, ms)).1 (putF g (fs, ms)).2 (.un o g))) (row (putF g (fs, ms)).1 (putF g (fs, ms)).2 (.un o g)))) H'
      rw [z.1] at B'
      rw [z.2]
      exact q H' (k1.trans k) B'
    | bin o g k =>
      obtain ⟨x, y, rfl, hx, hy⟩ := DpAll.two hA
      refine ⟨_, rfl, rfl, _, rfl, ?_⟩
      rw [show decide (V.str (Fm.bin o g k).tag.s = V.str "true") = false from (tf (.b o) .tt).trans rfl]
      refine iteF ⟨_, rfl, rfl, _, rfl, ?_⟩
      rw [show decide (V.str (Fm.bin o g k).tag.s = V.str "false") = false from (tf (.b o) .ff).trans rfl]
      refine iteF (nxt ⟨_, rfl, _, _, rfl, .inr (T.c_COMPARISONS_rows _), rfl, rfl, _, rfl, ?_⟩)
      show if inV (V.str (Fm.bin o g k).tag.s) [.str "equal", .str "below", .str "upto"] = true then _ else _
      rw [inV_cmp]
      have P := put_ok g (fs, ms) G
      have R := put_ok k (putF g (fs, ms)) P.good
      have hz3 : fs.length + (g.size + k.size + 1) ≤ 900 := hz1
      have hz4 : ms.length + (g.size + k.size + 1) ≤ 900 := hz2
      have l1 : (putF g (fs, ms)).1.length ≤ fs.length + g.size := P.len
      have l2 : (putF g (fs, ms)).2.length ≤ ms.length + g.size := P.lenm
      have l3 : (putF k (putF g (fs, ms))).2.length ≤ (putF g (fs, ms)).2.length + k.size := R.lenm
      refine iteF (nxt ⟨_, rfl, _, _, _, rfl, B.ins, rfl, _, rfl, b, _, 1, _, rfl, rfl, hS, atI_nat (j := 1) rfl, g, x, a, dx, lf, lr, dn, (fs, ms), rfl, hx, (dep_bin hdp).1, fun c hc => hfc c (List.mem_append_left _ hc), hsc, G, B, by show fs.length + g.size ≤ 900; omega, by show ms.length + g.size ≤ 900; omega, fun H1 k1 B1 => ?_⟩)
      refine ⟨_, rfl, ?_⟩
      have hS1 := B.tex k1 _ _ hS
      have sc1 : ∀ c ∈ (putF g (fs, ms)).1, c.ok = true ∧ c.dep ≤ 10 := fun c hc => (P.sub c hc).elim (hsc c) fun z => hfc c (List.mem_append_left _ z)
      refine ⟨_, rfl, _, 3, rfl, .inr ⟨_, hS1, rfl⟩, rfl, _, rfl, iteT ?_⟩
      refine ⟨_, rfl, _, _, _, rfl, B1.ins, rfl, _, rfl, b, _, 2, _, rfl, rfl, hS1, atI_nat (j := 2) rfl, k, y, a, dx, lf, lr, dn, putF g (fs, ms), rfl, B.df k1 hy, (dep_bin hdp).2, fun c hc => hfc c (List.mem_append_right _ hc), sc1, P.good, B1, by omega, by omega, fun H2 k2 B2 => ?_⟩
      have fm := pre_mem R.pm P.mem
      have z := rows_add R.good (x := .bin o g k) ⟨⟨fm, ix_lt fm⟩, R.mem, ix_lt R.mem⟩
      have ei : ix (putF k (putF g (fs, ms))).2 g = ix (putF g (fs, ms)).2 g := by
        obtain ⟨r, er⟩ := R.pm
        rw [er, ix_app r P.mem]
      refine ⟨_, rfl, _, _, _, rfl, B2.ins, rfl, _, rfl, _, rfl, _, rfl, ⟨(o.s, ix (putF g (fs, ms)).2 g, ix (putF k (putF g (fs, ms))).2 k), a, dx, lf, lr, dn, _, _, rfl, B2, by rw [List.length_map]; omega, fun H' k' B' => ?_⟩⟩
      rw [← ei] at B'
      rw [← ei]
      have B' : Bk K H' a dx lf lr dn (putF k (putF g (fs, ms))).1 (addx ((putF k (putF g (fs, ms))).2.map (row (putF k (putF g (fs, ms))).1 (putF k (putF g (fs, ms))).2)) (row (putF k (putF g (fs, ms))).1 (putF k (putF g (fs, ms))).2 (.bin o g k))) := B'
      show Q (.int (ix (addx ((putF k (putF g (fs, ms))).2.map (row (putF k (putF g (fs, ms))).1 (putF k (putF g (fs, ms))).2)) (row (putF k (putF g (fs, ms))).1 (putF k (putF g (fs, ms))).2 (.bin o g k))) (row (putF k (putF g (fs, ms))).1 (putF k (putF g (fs, ms))).2 (.bin o g k)))) H'
      rw [z.1] at B'
      rw [z.2]
      exact q H' ((k1.trans k2).trans k') B'
end
end W16
set_option Elab.async false
set_option linter.all false
set_option maxRecDepth 100000
set_option maxHeartbeats 4000000
namespace W16
open PySem PySem.Spec PyProof.Rows L2
open Evl (Ex)
/-- all but one thing stays -/
def K1 (a : Addr) (H H' : Hp) : Prop := ∀ b o, b ≠ a → H b = some o → H' b = some o
section
variable {a p : Addr} {H H1 H2 : Hp} {o : HO}
theorem K1.of (e : Ex H H1) : K1 a H H1 := fun b o _ h => e b o h
theorem K1.me : K1 a H (upd H a o) := fun b u h e => by rw [upd_ne h]; exact e
theorem K1.trans (x : K1 a H H1) (y : K1 a H1 H2) : K1 a H H2 := fun b o h e => y b o h (x b o h e)
theorem K1.no (x : K1 a H H1) (h1 : H1 a = some o) (h2 : H1 p = none) : H p = none := by
  cases z : H p with
  | none => rfl
  | some u =>
    by_cases e : p = a
    · rw [e, h1] at h2; cases h2
    · rw [x p u e z] at h2; cases h2
theorem K1.neq (h1 : H1 a = some o) (h2 : H1 p = none) : p ≠ a := fun e => by rw [e, h1] at h2; cases h2
end
def spBk0 (K : PySem.W.Frag) : Sp := fun vs H Q _ => ∃ (a dx : Addr), vs = [.ref a] ∧ H a = some (.ins (gA K "RowBook") dx []) ∧ ∀ lf lr dn H', H lf = none → H lr = none → H dn = none → lf ≠ lr → K1 a H H' →
  H' a = some (.ins (gA K "RowBook") dx [("facts", .ref lf), ("rows", .ref lr), ("_numbers", .ref dn)]) → H' lf = some (.lst []) → H' lr = some (.lst []) → H' dn = some (.dT []) → Q .non H'
def spRows0 (K : PySem.W.Frag) : Sp := fun vs H Q _ => ∃ (a dx lf lr : Addr) (vf vr : List V), vs = [.ref a, .ref lf, .ref lr] ∧ H a = some (.ins (gA K "Rows") dx []) ∧ SqL K H lf vf ∧ SqL K H lr vr ∧ vr.length ≤ 1000 ∧ (∀ (i : Nat) x, vr[i]? = some x → ∃ p r, x = .ref p ∧ H p = some (.tup (rowV r))) ∧ ∀ lf' lr' t H', K1 a H H' →
  H' a = some (.ins (gA K "Rows") dx [("facts", .ref lf'), ("rows", .ref lr'), ("temporal", .ref t)]) → H' lf' = some (.lst vf) → H' lr' = some (.lst vr) → Q .non H'
section
variable {P : Program} {w : World} {K : PySem.W.Frag} {mg : Str → Option Value} {base : Heap}
abbrev nm_RowBook_init : List Str := ["self"]
theorem sc_RowBook_init : FnScope nm_RowBook_init ["self"] (defScope s_RowBook_init) := ⟨rfl, rfl, rfl, by decide +kernel, rfl, by decide +kernel, by decide +kernel⟩
theorem ok_RowBook_init (T : T16 K w mg) : Ok P w K mg base 1 (mA K "RowBook" "__init__") ["self"] (spBk0 K) := by
  refine mkOk T.F_RowBook_init sc_RowBook_init (fun _ _ _ _ _ _ us hl => match us, hl with | [_], _ => rfl) (fun vs H Q E h => ?_) fun cdv A outer s H vs Q E hr h => ?_
  · obtain ⟨a, dx, rfl, _⟩ := h
    rfl
  obtain ⟨a, dx, rfl, hi, q⟩ := h
  refine ⟨_, (pss_cons (ps_fld (pv 0) (pe_lst pa_nil) rfl)
      (pss_cons (ps_fld (pv 0) (pe_lst pa_nil) rfl)
      (pss_one (ps_fld (pv 0) pe_dnewT rfl)))), ?_⟩
  refine ⟨Nat.zero_le _, fun lf hf => ⟨_, rfl, _, _, _, _, rfl, Evl.Ex.new hf _ _ hi, T.c_RowBook, T.n_RowBook_facts, (by decide), ?_⟩⟩
  have n1 := K1.neq hi hf
  have k1 : K1 a H (upd (upd H lf (.lst [])) a (.ins (gA K "RowBook") dx [("facts", .ref lf)])) := (K1.of (Evl.Ex.new hf)).trans K1.me
  have f1 : upd (upd H lf (.lst [])) a (.ins (gA K "RowBook") dx [("facts", .ref lf)]) lf = some (.lst []) := by rw [upd_ne n1, upd_same]
  have i1 : upd (upd H lf (.lst [])) a (.ins (gA K "RowBook") dx [("facts", .ref lf)]) a = some (.ins (gA K "RowBook") dx [("facts", .ref lf)]) := upd_same
  rw [show L2.putF ("facts" : Str) (V.ref lf) [] = [(("facts" : Str), V.ref lf)] from rfl]
  generalize upd (upd H lf (.lst [])) a (.ins (gA K "RowBook") dx [("facts", .ref lf)]) = H1 at k1 f1 i1 ⊢
  refine ⟨Nat.zero_le _, fun lr hr2 => ⟨_, rfl, _, _, _, _, rfl, Evl.Ex.new hr2 _ _ i1, T.c_RowBook, T.n_RowBook_rows, (show (1 : Nat) < 1000 from by decide), ?_⟩⟩
  have n2 := K1.neq i1 hr2
  have m1 : lf ≠ lr := fun e => by rw [e, hr2] at f1; cases f1
  have k2 : K1 a H1 (upd (upd H1 lr (.lst [])) a (.ins (gA K "RowBook") dx [("facts", .ref lf), ("rows", .ref lr)])) := (K1.of (Evl.Ex.new hr2)).trans K1.me
  have f2 : upd (upd H1 lr (.lst [])) a (.ins (gA K "RowBook") dx [("facts", .ref lf), ("rows", .ref lr)]) lr = some (.lst []) := by rw [upd_ne n2, upd_same]
  have i2 : upd (upd H1 lr (.lst [])) a (.ins (gA K "RowBook") dx [("facts", .ref lf), ("rows", .ref lr)]) a = some (.ins (gA K "RowBook") dx [("facts", .ref lf), ("rows", .ref lr)]) := upd_same
  have h2 := K1.no k1 i1 hr2
  rw [show L2.putF ("rows" : Str) (V.ref lr) [(("facts" : Str), V.ref lf)] = [(("facts" : Str), V.ref lf), ("rows", V.ref lr)] from rfl]
  generalize upd (upd H1 lr (.lst [])) a (.ins (gA K "RowBook") dx [("facts", .ref lf), ("rows", .ref lr)]) = H2 at k2 f2 i2 ⊢
  refine fun dn hd => ⟨_, rfl, _, _, _, _, rfl, Evl.Ex.new hd _ _ i2, T.c_RowBook, T.n_RowBook__numbers, (show (2 : Nat) < 1000 from by decide), ?_⟩
  have n3 := K1.neq i2 hd
  have k12 := k1.trans k2
  have k3 : K1 a H2 (upd (upd H2 dn (.dT [])) a (.ins (gA K "RowBook") dx [("facts", .ref lf), ("rows", .ref lr), ("_numbers", .ref dn)])) := (K1.of (Evl.Ex.new hd)).trans K1.me
  exact q lf lr dn _ hf h2 (K1.no k12 i2 hd) m1 (k12.trans k3) upd_same (k3 _ _ n1 (k2 _ _ n1 f1)) (k3 _ _ n2 f2) (by
    show upd (upd H2 dn (.dT [])) a _ dn = _
    rw [upd_ne n3, upd_same])
abbrev nm_Rows_init : List Str := ["self", "facts", "rows", "number", "row"]
theorem sc_Rows_init : FnScope nm_Rows_init ["self", "facts", "rows"] (defScope s_Rows_init) := ⟨rfl, rfl, rfl, by decide +kernel, rfl, by decide +kernel, by decide +kernel⟩
theorem ok_Rows_init (T : T16 K w mg) : Ok P w K mg base 1 (mA K "Rows" "__init__") ["self", "facts", "rows"] (spRows0 K) := by
  refine mkOk T.F_Rows_init sc_Rows_init (fun _ _ _ _ _ _ us hl => match us, hl with | [_, _, _], _ => rfl) (fun vs H Q E h => ?_) fun cdv A outer s H vs Q E hr h => ?_
  · obtain ⟨a, dx, lf, lr, vf, vr, rfl, _⟩ := h
    rfl
  obtain ⟨a, dx, lf, lr, vf, vr, rfl, hi, h1, h2, hz, hv, q⟩ := h
  refine ⟨_, (pss_cons (ps_fld (pv 0) (pe_callTy call_list_of (by rfl) T.z_list (by decide +kernel) (pa_cons (pv 1) pa_nil)) rfl)
      (pss_cons (ps_fld (pv 0) (pe_callTy call_list_of (by rfl) T.z_list (by decide +kernel) (pa_cons (pv 2) pa_nil)) rfl)
      (pss_one (ps_fld (pv 0) (pe_lc (own := [("number", 3), ("row", 4)]) rfl sc_Rows_init.nd (pi_enum (by rfl) T.z_enumerate (pa_cons (pv 2) pa_nil)) (blkOk_by (own := [("number", 3), ("row", 4)]) (N := nm_Rows_init) (sc := defScope s_Rows_init) (by decide +kernel)) (fun _ _ _ _ _ => (show PG _ _ (gTup K 2 _) from pg_tup rfl (pgs_cons (pg_name (i := 3) sc_Rows_init.nd rfl (.inl rfl)) (pgs_cons (pg_name (i := 4) sc_Rows_init.nd rfl (.inl rfl)) pgs_nil)))) (fun _ _ _ _ _ => (pts_one (pt_cmpR (show OpR _ _ (rIn K true) from op_notIn_seq) (pe_ix (show IxR _ (rIxT K) from ix_tup) (pv 4) pe_int (fun _ _ => rfl)) (pe_gl T.g_PLAIN) (by rfl)))) (fun _ _ _ _ _ => (pv 3))) rfl)))), ?_⟩
  refine ⟨_, rfl, lf, vf, rfl, .inl h1, fun l1 hl1 => ⟨_, rfl, _, _, _, _, rfl, Evl.Ex.new hl1 _ _ hi, T.c_Rows, T.n_Rows_facts, (by decide), ?_⟩⟩
  have n1 := K1.neq hi hl1
  have k1 : K1 a H (upd (upd H l1 (.lst vf)) a (.ins (gA K "Rows") dx [("facts", .ref l1)])) := (K1.of (Evl.Ex.new hl1)).trans K1.me
  have f1 : upd (upd H l1 (.lst vf)) a (.ins (gA K "Rows") dx [("facts", .ref l1)]) l1 = some (.lst vf) := by rw [upd_ne n1, upd_same]
  have i1 : upd (upd H l1 (.lst vf)) a (.ins (gA K "Rows") dx [("facts", .ref l1)]) a = some (.ins (gA K "Rows") dx [("facts", .ref l1)]) := upd_same
  rw [show L2.putF ("facts" : Str) (V.ref l1) [] = [(("facts" : Str), V.ref l1)] from rfl]
  generalize upd (upd H l1 (.lst vf)) a (.ins (gA K "Rows") dx [("facts", .ref l1)]) = H1 at k1 f1 i1 ⊢
  have sq : ∀ {H' : Hp}, K1 a H H' → SqL K H' lr vr := fun k => by
    have go : ∀ o, H lr = some o → (∀ C d f, o ≠ .ins C d f) → _ = some o := fun o ho hn => k lr o (fun e => hn _ _ _ (by rw [e, hi] at ho; exact (Option.some.inj ho).symm)) ho
    rcases h2 with (h | ⟨o, h⟩) | h
    · exact .inl (.inl (go _ h fun _ _ _ z => by cases z))
    · exact .inl (.inr ⟨o, go _ h fun _ _ _ z => by cases z⟩)
    · exact .inr h
  refine ⟨_, rfl, lr, vr, rfl, .inl (sq k1), fun l2 hl2 => ⟨_, rfl, _, _, _, _, rfl, Evl.Ex.new hl2 _ _ i1, T.c_Rows, T.n_Rows_rows, (show (1 : Nat) < 1000 from by decide), ?_⟩⟩
  have n2 := K1.neq i1 hl2
  have k2 : K1 a H1 (upd (upd H1 l2 (.lst vr)) a (.ins (gA K "Rows") dx [("facts", .ref l1), ("rows", .ref l2)])) := (K1.of (Evl.Ex.new hl2)).trans K1.me
  have f2 : upd (upd H1 l2 (.lst vr)) a (.ins (gA K "Rows") dx [("facts", .ref l1), ("rows", .ref l2)]) l2 = some (.lst vr) := by rw [upd_ne n2, upd_same]
  have i2 : upd (upd H1 l2 (.lst vr)) a (.ins (gA K "Rows") dx [("facts", .ref l1), ("rows", .ref l2)]) a = some (.ins (gA K "Rows") dx [("facts", .ref l1), ("rows", .ref l2)]) := upd_same
  rw [show L2.putF ("rows" : Str) (V.ref l2) [(("facts" : Str), V.ref l1)] = [(("facts" : Str), V.ref l1), ("rows", V.ref l2)] from rfl]
  generalize upd (upd H1 l2 (.lst vr)) a (.ins (gA K "Rows") dx [("facts", .ref l1), ("rows", .ref l2)]) = H2 at k2 f2 i2 ⊢
  have k12 := k1.trans k2
  have s2 := sq k12
  have hv2 : ∀ (i : Nat) x, vr[i]? = some x → ∃ p r, x = .ref p ∧ H2 p = some (.tup (rowV r)) := fun i x hx => by
    obtain ⟨p, r, e1, e2⟩ := hv i x hx
    exact ⟨p, r, e1, k12 p _ (fun e => by rw [e, hi] at e2; cases e2) e2⟩
  refine ⟨_, rfl, lr, vr, rfl, s2, fun D hD => ?_⟩
  refine lc_it (walk_enum (K := K) (a := lr) (xs := vr)) (fun i H' => Ex H2 H' ∧ ∃ acc, H' D = some (.lst acc) ∧ acc.length ≤ i) ⟨Evl.Ex.new hD, [], upd_same, Nat.le_refl _⟩ (fun i H' _ z => Evl.ex_l z.1 s2) ?_ ?_
  · rintro i x H3 H4 hlt ⟨e3, acc, hB, hacc⟩ ⟨Tp, x1, y1, rfl, hT, rfl, hx, hy⟩
    obtain rfl := Option.some.inj hx
    obtain ⟨p, r, rfl, hp⟩ := hv2 i y1 hy
    have e4 := Evl.Ex.new hT (o := HO.tup [.int (i : Nat), .ref p])
    have hp4 := (e3.trans e4) _ _ hp
    refine ⟨Tp, [_, _], rfl, SqT.of upd_same, rfl, _, _, rfl, _, _, rfl, rfl, rfl, ?_⟩
    refine ⟨_, rfl, p, _, 0, _, rfl, rfl, SqT.of hp4, atI_nat (j := 0) rfl, _, _, rfl, .inr (T.c_PLAIN _), rfl, rfl, _, rfl, ?_⟩
    refine ite2 (fun c => ⟨_, rfl, acc, e4 _ _ hB, Evl.sz_lt (by omega), Evl.Ex.mut (e3.trans e4) hD, _, upd_same, by rw [List.length_append, List.length_singleton]; omega⟩) (fun c => ⟨e3.trans e4, acc, e4 _ _ hB, by omega⟩)
  · rintro H3 ⟨e3, acc, hB, hacc⟩
    refine ⟨_, rfl, _, _, _, _, rfl, e3 _ _ i2, T.c_Rows, T.n_Rows_temporal, (show (2 : Nat) < 1000 from by decide), ?_⟩
    have k3 : K1 a H2 (upd H3 a (.ins (gA K "Rows") dx [("facts", .ref l1), ("rows", .ref l2), ("temporal", .ref D)])) := (K1.of e3).trans K1.me
    exact q l1 l2 D _ (k12.trans k3) upd_same (k3 _ _ n1 (k2 _ _ n1 f1)) (k3 _ _ n2 f2)
end
end W16
set_option Elab.async false
set_option linter.all false
set_option maxRecDepth 100000
set_option maxHeartbeats 4000000
namespace W16
open PySem PySem.Spec PyProof.Rows L2
open Evl (Ex)
structure RowsObj (K : PySem.W.Frag) (H : Hp) (x dx lf lr t : Addr) (vf vr : List V) (f : Fm) : Prop where
  ins : H x = some (.ins (gA K "Rows") dx [("facts", .ref lf), ("rows", .ref lr), ("temporal", .ref t)])
  facts : H lf = some (.lst vf)
  fs : DpAll K H vf ((putF f ([], [])).1.map cD)
  rows : H lr = some (.lst vr)
  rs : RowsAt H vr ((putF f ([], [])).2.map (row (putF f ([], [])).1 (putF f ([], [])).2))
theorem RowsObj.ex {K : PySem.W.Frag} {H H' : Hp} {x dx lf lr t : Addr} {vf vr : List V} {f : Fm} (h : RowsObj K H x dx lf lr t vf vr f) (e : Ex H H') : RowsObj K H' x dx lf lr t vf vr f :=
  ⟨e _ _ h.ins, e _ _ h.facts, dpa_ex e _ _ h.fs, e _ _ h.rows, h.rs.map fun b xs h => e _ _ h⟩
def spNum (K : PySem.W.Frag) : Sp := fun vs H Q _ => ∃ (f : Fm) (v : V), vs = [v] ∧ DF K H v f ∧ f.dep ≤ 62 ∧ f.size ≤ 900 ∧ (∀ c ∈ found f, c.ok = true ∧ c.dep ≤ 10) ∧ ∀ x dx lf lr t vf vr H', Ex H H' → RowsObj K H' x dx lf lr t vf vr f → Q (.ref x) H'
section
variable {P : Program} {w : World} {K : PySem.W.Frag} {mg : Str → Option Value} {base : Heap}
abbrev nm_number_rows : List Str := ["formula", "book"]
theorem sc_number_rows : FnScope nm_number_rows ["formula"] (defScope s_number_rows) := ⟨rfl, rfl, rfl, by decide +kernel, rfl, by decide +kernel, by decide +kernel⟩
theorem ok_number_rows (T : T16 K w mg) : Ok P w K mg base 66 (gA K "number_rows") ["formula"] (spNum K) := by
  refine mkOk T.F_number_rows sc_number_rows (fun _ _ _ _ _ _ us hl => match us, hl with | [_], _ => rfl) (fun vs H Q E h => ?_) fun cdv A outer s H vs Q E hr h => ?_
  · obtain ⟨f, v, rfl, _⟩ := h
    rfl
  obtain ⟨f, v, rfl, hD, hdp, hsz, hfc, q⟩ := h
  refine ⟨_, (pss_cons (ps_set (i := 1) sc_number_rows.nd rfl (.inl rfl) (pmk0 T.k_RowBook (ok_RowBook_init T) (hr.mono (by omega)) T.g_RowBook))
      (pss_cons (ps_expr (pmeth (pv 1) T.c_RowBook T.m_put_formula (ok_RowBook_put_formula T 62) (hr.mono (by omega)) (pa_cons (pv 0) pa_nil)))
      (pss_one (ps_ret (pmk T.k_Rows (ok_Rows_init T) (hr.mono (by omega)) T.g_Rows (pa_cons (pe_fld (pv 1) rfl) (pa_cons (pe_fld (pv 1) rfl) pa_nil))))))), ?_⟩
  refine fun a dx ha hdx hne => ⟨a, dx, rfl, upd_same, fun lf lr dn H1 h1 h2 h3 m1 k1 i1 f1 r1 d1 => ⟨rfl, ?_⟩⟩
  have eA : Ex H (upd (upd H dx (.own a)) a (.ins (gA K "RowBook") dx [])) := by
    have e1 := Evl.Ex.new hdx (o := HO.own a)
    exact e1.trans (Evl.Ex.new (by rw [upd_ne fun e => hne e.symm]; exact ha))
  have e1 : Ex H H1 := fun b o h => k1 b o (fun e => by rw [e, ha] at h; cases h) (eA b o h)
  have fresh : ∀ {y : Addr}, upd (upd H dx (.own a)) a (.ins (gA K "RowBook") dx []) y = none → H y = none := fun {y} hy => by
    cases z : H y with
    | none => rfl
    | some o => rw [eA _ _ z] at hy; cases hy
  have B : Bk K H1 a dx lf lr dn [] [] := ⟨i1, m1, ⟨[], f1, .nil⟩, ⟨[], r1, rfl, fun i r h => by simp at h⟩, d1⟩
  refine ⟨_, rfl, _, _, _, rfl, i1, rfl, _, rfl, f, v, a, dx, lf, lr, dn, ([], []), rfl, Dp.ex' hD e1, hdp, hfc, fun c h => by simp at h, Good.nil, B, by simp; omega, by simp; omega, fun H2 k2 B2 => ?_⟩
  obtain ⟨vf, hvf, hdf⟩ := B2.facts
  obtain ⟨vr, hvr, hra⟩ := B2.rws
  have e2 : Ex H H2 := k2.ex e1 (fresh h1) (fresh h2) (fresh h3)
  have P := put_ok f ([], []) Good.nil
  refine ⟨_, rfl, _, _, _, _, _, rfl, B2.ins, T.c_RowBook, T.n_RowBook_facts, rfl, _, rfl, _, _, _, _, _, rfl, B2.ins, T.c_RowBook, T.n_RowBook_rows, rfl, ?_⟩
  intro x dx2 hx hdx2 hne2
  have eB : Ex H2 (upd (upd H2 dx2 (.own x)) x (.ins (gA K "Rows") dx2 [])) := by
    have e1 := Evl.Ex.new hdx2 (o := HO.own x)
    exact e1.trans (Evl.Ex.new (by rw [upd_ne fun e => hne2 e.symm]; exact hx))
  refine ⟨x, dx2, lf, lr, vf, vr, rfl, upd_same, SqL.of (eB _ _ hvf), SqL.of (eB _ _ hvr), ?_, ?_, fun lf' lr' t H3 k3 i3 f3 r3 => ⟨rfl, ?_⟩⟩
  · have z := P.lenm
    rw [hra.1, List.length_map]
    simp only [List.length_nil] at z
    omega
  · intro i y hy
    have hlt : i < vr.length := (List.getElem?_eq_some_iff.mp hy).1
    rw [hra.1] at hlt
    obtain ⟨p, hp, hp2⟩ := hra.2 i _ (List.getElem?_eq_getElem hlt)
    rw [hp] at hy
    exact ⟨p, _, (Option.some.inj hy).symm, eB _ _ hp2⟩
  have e3 : Ex H2 H3 := fun b o h => k3 b o (fun e => by rw [e, hx] at h; cases h) (eB b o h)
  exact q x dx2 lf' lr' t vf vr H3 (e2.trans e3) ⟨i3, f3, dpa_ex e3 _ _ hdf, r3, hra.map fun b xs h => e3 _ _ h⟩
end
end W16
set_option Elab.async false
set_option linter.all false
set_option maxRecDepth 100000
set_option maxHeartbeats 4000000
namespace W16
open PySem PySem.Spec PyProof.Rows L2
open Evl (Ex)
/-! ### the names of a tree -/
def nameOk (ns : List Str) : Nat → PyData → Prop
  | 0, _ => False
  | n + 1, d => ∃ w ds, d = .tuple (.str w :: ds) ∧ ds.length ≤ 2 ∧ noLs ds = true ∧ (w = "name" → ∃ x, ds = [.str x] ∧ x ∈ ns) ∧ (w ≠ "name" → ∀ e ∈ ds, (∃ i, e = .int i) ∨ nameOk ns n e)
theorem nameOk.mono {ns : List Str} : ∀ {n m : Nat} {d : PyData}, n ≤ m → nameOk ns n d → nameOk ns m d
  | 0, _, _, _, h => h.elim
  | n + 1, 0, _, h, _ => by omega
  | n + 1, m + 1, d, h, ⟨w, ds, h1, h2, h3, h4, h5⟩ => ⟨w, ds, h1, h2, h3, h4, fun hw e he => (h5 hw e he).elim .inl fun z => .inr (z.mono (by omega))⟩
theorem nameOk.one {ns : List Str} {n : Nat} {w : Str} {d : PyData} (hw : w ≠ "name") (hl : noL d = true) (h : nameOk ns n d) : nameOk ns (n + 1) (.tuple [.str w, d]) :=
  ⟨w, [d], rfl, by simp, by simp [noLs, hl], fun e => absurd e hw, fun _ e he => by rw [List.mem_singleton.mp he]; exact .inr h⟩
theorem nameOk.oneI {ns : List Str} {n : Nat} {w : Str} {d : PyData} {i : Int} (hw : w ≠ "name") (hl : noL d = true) (h : nameOk ns n d) : nameOk ns (n + 1) (.tuple [.str w, d, .int i]) :=
  ⟨w, [d, .int i], rfl, by simp, by simp [noLs, noL, hl], fun e => absurd e hw, fun _ e he => by
    rcases List.mem_cons.mp he with z | z
    · rw [z]; exact .inr h
    · rw [List.mem_singleton.mp z]; exact .inl ⟨i, rfl⟩⟩
theorem nameOk.two {ns : List Str} {n m k : Nat} {w : Str} {d e : PyData} (hw : w ≠ "name") (hl : noL d = true) (hl2 : noL e = true) (h : nameOk ns n d) (h2 : nameOk ns m e) (hk : k = max n m + 1) : nameOk ns k (.tuple [.str w, d, e]) := by
  subst hk
  exact ⟨w, [d, e], rfl, by simp, by simp [noLs, hl, hl2], fun e => absurd e hw, fun _ e he => by
    rcases List.mem_cons.mp he with z | z
    · rw [z]; exact .inr (h.mono (by omega))
    · rw [List.mem_singleton.mp z]; exact .inr (h2.mono (by omega))⟩
theorem nameT {ns : List Str} : ∀ {t : Tm}, t.wf ns → nameOk ns t.dep (tD t)
  | .num z, _ => ⟨"number", [.int z], by simp [tD], by simp, by simp [noLs, noL], fun e => absurd e (by decide +kernel), fun _ e he => .inl ⟨z, List.mem_singleton.mp he⟩⟩
  | .nam x, h => ⟨"name", [.str x], by simp [tD], by simp, by simp [noLs, noL], fun _ => ⟨x, rfl, h⟩, fun e => absurd rfl e⟩
  | .neg t, h => by simp only [tD]; exact nameOk.one (by decide +kernel) (tD_noL t) (nameT (t := t) h)
  | .quo t k, h => by simp only [tD]; exact nameOk.oneI (by decide +kernel) (tD_noL t) (nameT (t := t) h.1)
  | .rem t k, h => by simp only [tD]; exact nameOk.oneI (by decide +kernel) (tD_noL t) (nameT (t := t) h.1)
  | .plus t u, h => by simp only [tD]; exact nameOk.two (by decide +kernel) (tD_noL t) (tD_noL u) (nameT (t := t) h.1) (nameT (t := u) h.2) rfl
  | .minus t u, h => by simp only [tD]; exact nameOk.two (by decide +kernel) (tD_noL t) (tD_noL u) (nameT (t := t) h.1) (nameT (t := u) h.2) rfl
  | .times t u, h => by simp only [tD]; exact nameOk.two (by decide +kernel) (tD_noL t) (tD_noL u) (nameT (t := t) h.2.1) (nameT (t := u) h.2.2) rfl
  | .least t u, h => by simp only [tD]; exact nameOk.two (by decide +kernel) (tD_noL t) (tD_noL u) (nameT (t := t) h.1) (nameT (t := u) h.2) rfl
  | .most t u, h => by simp only [tD]; exact nameOk.two (by decide +kernel) (tD_noL t) (tD_noL u) (nameT (t := t) h.1) (nameT (t := u) h.2) rfl
theorem nameC {ns : List Str} {c : Cm} (h : c.wf ns) : nameOk ns c.dep (cD c) := nameOk.two (by cases c.o <;> decide +kernel) (tD_noL _) (tD_noL _) (nameT h.t) (nameT h.u) rfl
theorem nameF {ns : List Str} : ∀ {f : Fm}, f.wf ns → nameOk ns f.dep (fD f)
  | .tt, _ => ⟨"true", [], by simp [fD], by simp, by simp [noLs], fun e => absurd e (by decide +kernel), fun _ e he => by simp at he⟩
  | .ff, _ => ⟨"false", [], by simp [fD], by simp, by simp [noLs], fun e => absurd e (by decide +kernel), fun _ e he => by simp at he⟩
  | .cmp c, h => by simp only [fD, Fm.dep]; exact nameC (h c (List.mem_singleton.mpr rfl))
  | .un o f, h => by simp only [fD]; exact nameOk.one (by cases o <;> decide +kernel) (fD_noL f) (nameF (f := f) h)
  | .bin o f g, h => by simp only [fD]; exact nameOk.two (by cases o <;> decide +kernel) (fD_noL f) (fD_noL g) (nameF (f := f) (wf_bin h).1) (nameF (f := g) (wf_bin h).2) rfl
/-- few different things of few -/
theorem len_sub {α : Type} [DecidableEq α] : ∀ (zs ns : List α), zs.Nodup → (∀ z ∈ zs, z ∈ ns) → zs.length ≤ ns.length
  | [], _, _, _ => Nat.zero_le _
  | z :: r, ns, hn, hs => by
    have hz := hs z List.mem_cons_self
    obtain ⟨h1, h2⟩ := List.nodup_cons.mp hn
    have h3 := len_sub r (ns.erase z) h2 fun y hy => (List.mem_erase_of_ne fun e => h1 (by rw [← e]; exact hy)).mpr (hs y (List.mem_cons_of_mem _ hy))
    rw [List.length_erase_of_mem hz] at h3
    have h4 := List.length_pos_of_mem hz
    rw [List.length_cons]
    omega
theorem noLs_mem : ∀ {ds : List PyData}, noLs ds = true → ∀ e ∈ ds, noL e = true
  | [], _, e, he => by simp at he
  | d :: r, h, e, he => by
    simp only [noLs, Bool.and_eq_true] at h
    rcases List.mem_cons.mp he with z | z
    · rw [z]; exact h.1
    · exact noLs_mem h.2 e z
theorem isiQ {K : PySem.W.Frag} {H : Hp} {x : V} {a b : String} {r : Bool} {Q : VK} (ty : TyX K H x (.type a)) (h : kitB a b = some r) (q : Q (.bl r) H) : rIsi K [x, .ty b] H Q := ⟨x, .ty b, _, _, r, rfl, .ty b, ty, kit_ty h, q⟩
theorem isiV {K : PySem.W.Frag} {σ : L2.St} {H : Hp} {x : V} {a b : String} {r : Bool} {i : Nat} {Q : VK} (h : σ[i]? = some (some x)) (ty : TyX K H x (.type a)) (hk : kitB a b = some r) (q : Q (.bl r) H) : tCB (rIsi K) (tCons (tVar i) (tCons (tC (.ty b)) tNil)) σ H Q := ⟨_, h, isiQ ty hk q⟩
def spParts (K : PySem.W.Frag) (ns : List Str) (n : Nat) : Sp := fun vs H Q _ => ∃ (v : V) (d : PyData) (w : Str) (ds : List PyData), vs = [v] ∧ Dp K H v (.tuple (.str w :: ds)) ∧ ds.length ≤ 2 ∧ noLs ds = true ∧ (∀ e ∈ ds, (∃ i, e = .int i) ∨ nameOk ns n e) ∧
  ∀ D H' ys, H D = none → Ex H H' → H' D = some (.lst ys) → ys.length ≤ 2 → (∀ y ∈ ys, ∃ e, nameOk ns n e ∧ Dp K H' y e) → Q (.ref D) H'
def spNames (K : PySem.W.Frag) (ns : List Str) (n : Nat) : Sp := fun vs H Q _ => ∃ (v : V) (d : PyData), vs = [v] ∧ Dp K H v d ∧ nameOk ns n d ∧ ns.length ≤ 100 ∧ ∀ D H' (zs : List Str), H D = none → Ex H H' → H' D = some (.lst (zs.map V.str)) → (∀ z ∈ zs, z ∈ ns) → zs.Nodup → Q (.ref D) H'
section
variable {P : Program} {w : World} {K : PySem.W.Frag} {mg : Str → Option Value} {base : Heap}
abbrev nm_parts_of : List Str := ["tree", "part"]
theorem sc_parts_of : FnScope nm_parts_of ["tree"] (defScope s_parts_of) := ⟨rfl, rfl, rfl, by decide +kernel, rfl, by decide +kernel, by decide +kernel⟩
theorem ok_parts_of (T : T16 K w mg) (ns : List Str) (n : Nat) : Ok P w K mg base 1 (gA K "parts_of") ["tree"] (spParts K ns n) := by
  refine mkOk T.F_parts_of sc_parts_of (fun _ _ _ _ _ _ us hl => match us, hl with | [_], _ => rfl) (fun vs H Q E h => ?_) fun cdv A outer s H vs Q E hr h => ?_
  · obtain ⟨v, d, w, ds, rfl, _⟩ := h
    rfl
  obtain ⟨v, d, w, ds, rfl, hD, hl, hno, hds, q⟩ := h
  obtain ⟨a, xs, rfl, hS, hA⟩ := Dp.wordO hD
  refine ⟨_, (pss_one (ps_ret (pe_lc (own := [("part", 1)]) rfl sc_parts_of.nd (pi_tup (pe_slice sl_tupA (pv 0) (po_some pe_int) po_none)) (blkOk_by (own := [("part", 1)]) (N := nm_parts_of) (sc := defScope s_parts_of) (by decide +kernel)) (fun _ _ _ _ _ => (pg_name (i := 1) sc_parts_of.nd rfl (.inl rfl))) (fun _ _ _ _ _ => (pts_one (pt_val (pe_callB (show CallR _ _ (rIsi K) from call_isi) (by rfl) T.z_isinstance (by decide +kernel) (pa_cons (pv 1) (pa_cons (pe_ty (n := "tuple") T.z_tuple (by decide +kernel)) pa_nil)))))) (fun _ _ _ _ _ => (pv 1))))), ?_⟩
  have hxl : xs.length ≤ 2 := by rw [dpa_len hA]; exact hl
  have ec : cutV (.str w :: xs) (some 1) none = xs := cut_tail _ _
  have ty : ∀ {H' : Hp}, TEx K H H' → ∀ x ∈ xs, ∃ e ∈ ds, Dp K H' x e ∧ ((∃ i, e = .int i) ∨ nameOk ns n e) := fun {H'} te x hx => by
    obtain ⟨i, hi, ei⟩ := List.mem_iff_getElem.mp hx
    obtain ⟨e, h1, h2⟩ := dpa_get (dpa_tex te ds xs hno hA) (show xs[i]? = some x by rw [List.getElem?_eq_getElem hi, ei])
    have h3 := List.mem_of_getElem? h1
    exact ⟨e, h3, h2, hds e h3⟩
  refine ⟨_, rfl, 1, rfl, a, _, rfl, hS, fun hq => absurd hq.1 ?_, fun _ p hp => ⟨p, rfl, ⟨_, SqT.of upd_same⟩, ?_⟩⟩
  · rw [show HT.sIx (V.str w :: xs).length 0 (some 1) = min 1 (V.str w :: xs).length from HT.sIx_nat _ 0 1, List.length_cons]
    omega
  rw [ec]
  intro D hDn
  have e1 : Ex H (upd H p (.tup xs)) := Evl.Ex.new hp
  refine lc_it (walk_tup (K := K) (a := p) (xs := xs)) (fun i H' => Ex (upd H p (.tup xs)) H' ∧ ∃ ys, H' D = some (.lst ys) ∧ ys.length ≤ i ∧ ∀ y ∈ ys, ∃ e ∈ ds, Dp K H' y e ∧ nameOk ns n e) ⟨Evl.Ex.new hDn, [], upd_same, Nat.le_refl _, fun y hy => by simp at hy⟩ (fun i H' _ z => Evl.ex_t z.1 (SqT.of upd_same)) ?_ ?_
  · rintro i x H3 H4 hi ⟨e3, ys, hB, hys, hys2⟩ ⟨rfl, hx⟩
    have te : TEx K H H4 := fun b zs h => Evl.ex_t (e1.trans e3) h
    obtain ⟨e, he, hd, ho⟩ := ty te x (List.mem_of_getElem? hx)
    refine ⟨rfl, ?_⟩
    rcases ho with ⟨j, rfl⟩ | ho
    · obtain rfl := Dp.intO hd
      exact isiV (b := "tuple") (a := "int") (r := false) rfl (.base (.int j)) (by decide +kernel) ⟨_, rfl, iteF ⟨e3, ys, hB, by omega, hys2⟩⟩
    · obtain ⟨b, zs, rfl, hs⟩ : ∃ b zs, x = .ref b ∧ SqT K H4 b zs := by
        cases n with
        | zero => exact ho.elim
        | succ n =>
          obtain ⟨w, ds, rfl, _⟩ := ho
          obtain ⟨b, zs, e1, h1, _⟩ := Dp.tupO hd
          exact ⟨b, zs, e1, h1⟩
      refine isiV (b := "tuple") (a := "tuple") (r := true) rfl (tyx_tup hs) (by decide +kernel) ⟨_, rfl, iteT ⟨_, rfl, ys, hB, Evl.sz_lt (by omega), Evl.Ex.mut e3 hDn, _, upd_same, by rw [List.length_append, List.length_singleton]; omega, fun y hy => ?_⟩⟩
      have te2 : TEx K H4 (upd H4 D (.lst (ys ++ [.ref b]))) := fun b zs h => nex_t (NEx.lst hB) h
      have nl := noLs_mem hno
      rcases List.mem_append.mp hy with z | z
      · obtain ⟨e', he', hd', ho'⟩ := hys2 y z
        exact ⟨e', he', dp_tex te2 e' y (nl e' he') hd', ho'⟩
      · rw [List.mem_singleton.mp z]
        exact ⟨e, he, dp_tex te2 e _ (nl e he) hd, ho⟩
  · rintro H3 ⟨e3, ys, hB, hys, hys2⟩
    exact q D H3 ys (by
      cases z : H D with
      | none => rfl
      | some o => rw [e1 _ _ z] at hDn; cases hDn) (e1.trans e3) hB (by omega) fun y hy => let ⟨e, _, h1, h2⟩ := hys2 y hy; ⟨e, h2, h1⟩
theorem name_noL {ns : List Str} {n : Nat} {d : PyData} (h : nameOk ns n d) : noL d = true := by
  cases n with
  | zero => exact h.elim
  | succ n =>
    obtain ⟨w, ds, rfl, _, h, _⟩ := h
    simp [noL, noLs, h]
theorem K1.tex {a : Addr} {H H' : Hp} {l : List V} (k : K1 a H H') (h : H a = some (.lst l)) : TEx K H H' := fun b xs hs => by
  have go : ∀ o, H b = some o → (∀ l, o ≠ .lst l) → H' b = some o := fun o ho n => k b o (fun e => by rw [e, h] at ho; exact n _ (Option.some.inj ho).symm) ho
  rcases hs with (h | ⟨o, h⟩) | h
  · exact .inl (.inl (go _ h fun l z => by cases z))
  · exact .inl (.inr ⟨o, go _ h fun l z => by cases z⟩)
  · exact .inr h
abbrev nm_names_in : List Str := ["tree", "names", "part", "name"]
theorem sc_names_in : FnScope nm_names_in ["tree"] (defScope s_names_in) := ⟨rfl, rfl, rfl, by decide +kernel, rfl, by decide +kernel, by decide +kernel⟩
theorem ok_names_in (T : T16 K w mg) (ns : List Str) : ∀ n, Ok P w K mg base (n + 2) (gA K "names_in") ["tree"] (spNames K ns n)
  | 0 => (no_ok T.F_names_in (fun _ _ _ _ _ _ us hl => match us, hl with | [_], _ => rfl) (fun vs H Q E h => by
      obtain ⟨v, d, _, _, h, _⟩ := h
      exact h)).mono (Nat.zero_le _)
  | n + 1 => by
    have ih : Ok P w K mg base (n + 2) (gA K "names_in") ["tree"] (spNames K ns n) := ok_names_in T ns n
    refine mkOk T.F_names_in sc_names_in (fun _ _ _ _ _ _ us hl => match us, hl with | [_], _ => rfl) (fun vs H Q E h => ?_) fun cdv A outer s H vs Q E hr h => ?_
    · obtain ⟨v, d, rfl, _⟩ := h
      rfl
    obtain ⟨v, d, rfl, hD, ⟨w, ds, rfl, hl, hno, hnm, hot⟩, hnl, q⟩ := h
    obtain ⟨a, xs, rfl, hS, hA⟩ := Dp.wordO hD
    refine ⟨_, (pss_cons (ps_if (pt_cmpR op_eq (pe_ix ix_tup (pv 0) pe_int (fun _ _ => rfl)) pe_str (nomark _)) (pss_one (ps_ret (pe_lst (pa_cons (pe_ix ix_tup (pv 0) pe_int (fun _ _ => rfl)) pa_nil)))) pss_nil)
      (pss_cons (ps_set (i := 1) sc_names_in.nd rfl (.inl rfl) (pe_lst pa_nil))
      (pss_cons (ps_for PassesOwn.never rfl (pi_list (pc (ok_parts_of T ns n) (hr.mono (by omega)) T.g_parts_of (pa_cons (pv 0) pa_nil))) (pg_name (i := 2) sc_names_in.nd rfl (.inl rfl)) (pss_one (ps_for PassesOwn.never rfl (pi_list (pc ih (hr.mono (by omega)) T.g_names_in (pa_cons (pv 2) pa_nil))) (pg_name (i := 3) sc_names_in.nd rfl (.inl rfl)) (pss_one (ps_if (pt_cmpR op_notIn_seq (pv 3) (pv 1) (by rfl)) (pss_one (ps_expr (pe_bm PySem.F.plainAttrs_list PySem.F.slot_list_append PySem.F.type_list_append mt_append (pv 1) (pa_cons (pv 3) pa_nil)))) pss_nil)))))
      (pss_one (ps_ret (pv 1)))))), ?_⟩
    refine ⟨_, rfl, a, _, 0, _, rfl, rfl, hS, atI_nat (j := 0) rfl, rfl, _, rfl, ite2 (fun c => ?_) (fun c => ?_)⟩
    · have ew : w = "name" := V.str.inj (of_decide_eq_true c)
      obtain ⟨x, rfl, hx⟩ := hnm ew
      obtain ⟨y, rfl, hy⟩ := DpAll.one hA
      obtain rfl := Dp.strO hy
      exact ⟨_, rfl, a, _, 1, _, rfl, rfl, hS, atI_nat (j := 1) rfl, (by show 1 ≤ sizeLine; decide), fun p hp => q p _ [x] hp (Evl.Ex.new hp) upd_same (fun z hz => by rw [List.mem_singleton.mp hz]; exact hx) (by simp)⟩
    have hw : w ≠ "name" := fun e => c (decide_eq_true (by rw [e]))
    refine nxt ⟨Nat.zero_le _, fun Dn hDn => ?_⟩
    have e0 : Ex H (upd H Dn (.lst [])) := Evl.Ex.new hDn
    refine ⟨_, rfl, .ref a, .str w, w, ds, rfl, Dp.ex' hD e0, hl, hno, hot hw, fun D H2 ys hD2 e2 hB hyl hys => ?_⟩
    have hDn2 : H2 Dn = some (.lst []) := e2 _ _ upd_same
    have nD : D ≠ Dn := fun e => by rw [e, upd_same] at hD2; cases hD2
    refine ⟨D, rfl, ⟨_, SqL.of hB⟩, for_it (walk_list (K := K) (a := D) (xs := ys)) (fun i σ H' => K1 Dn H2 H' ∧ ∃ (zs : List Str) (x2 x3 : Option V), H' Dn = some (.lst (zs.map V.str)) ∧ (∀ z ∈ zs, z ∈ ns) ∧ zs.Nodup ∧ σ = [some (.ref a), some (.ref Dn), x2, x3]) ⟨fun _ _ _ h => h, [], none, none, hDn2, fun z hz => by simp at hz, List.nodup_nil, rfl⟩ (fun i σ H' _ z => SqL.of (z.1 _ _ nD hB)) ?_ ?_⟩
    · rintro i y σ H3 H4 hi ⟨k3, zs, x2, x3, hz1, hz2, hz3, rfl⟩ ⟨rfl, hy⟩
      obtain ⟨e, he, hd⟩ := hys y (List.mem_of_getElem? hy)
      refine ⟨_, rfl, y, e, rfl, dp_tex (K1.tex k3 hDn2) _ _ (name_noL he) hd, he, hnl, fun D' H5 zs' hD' e5 hB' hz' hzn => ?_⟩
      have hDn5 : H5 Dn = some (.lst (zs.map V.str)) := e5 _ _ hz1
      have nD' : D' ≠ Dn := fun e => by rw [e, hz1] at hD'; cases hD'
      refine ⟨D', rfl, ⟨_, SqL.of hB'⟩, for_it (walk_list (K := K) (a := D') (xs := zs'.map V.str)) (fun j σ H' => K1 Dn H5 H' ∧ ∃ (zs : List Str) (x3 : Option V), H' Dn = some (.lst (zs.map V.str)) ∧ (∀ z ∈ zs, z ∈ ns) ∧ zs.Nodup ∧ σ = [some (.ref a), some (.ref Dn), some y, x3]) ⟨fun _ _ _ h => h, zs, x3, hDn5, hz2, hz3, rfl⟩ (fun j σ H' _ z => SqL.of (z.1 _ _ nD' hB')) ?_ ?_⟩
      · rintro j u σ H6 H7 hj ⟨k6, zs6, x6, h61, h62, h63, rfl⟩ ⟨rfl, hu⟩
        rw [List.getElem?_map] at hu
        obtain ⟨u', hu1, rfl⟩ := Option.map_eq_some_iff.mp hu
        refine ⟨_, rfl, _, rfl, Dn, _, rfl, .inl (SqL.of h61), rfl, flat_strs _, _, rfl, ?_⟩
        show if (!inV (.str u') (zs6.map V.str)) = true then _ else _
        rw [inV_strs]
        have zb : zs6.length ≤ 100 := Nat.le_trans (len_sub zs6 ns h63 h62) hnl
        by_cases hm : u' ∈ zs6
        · rw [decide_eq_true hm]
          exact iteF ⟨k6, zs6, _, h61, h62, h63, rfl⟩
        · rw [decide_eq_false hm]
          refine iteT ⟨_, rfl, .inl ⟨rfl, _, SqL.of h61⟩, _, rfl, Dn, _, _, rfl, rfl, h61, by rw [List.length_map]; exact Evl.sz_lt (by omega), k6.trans K1.me, zs6 ++ [u'], _, ?_, ?_, ?_, rfl⟩
          · rw [upd_same, List.map_append]; rfl
          · intro z hz
            rcases List.mem_append.mp hz with h | h
            · exact h62 z h
            · rw [List.mem_singleton.mp h]; exact hz' u' (List.mem_of_getElem? hu1)
          · exact List.nodup_append.mpr ⟨h63, by simp, fun x hx y hy e => hm (by rw [← List.mem_singleton.mp hy, ← e]; exact hx)⟩
      · rintro σ H6 ⟨k6, zs6, x6, h61, h62, h63, rfl⟩
        exact ⟨k3.trans ((K1.of e5).trans k6), zs6, _, _, h61, h62, h63, rfl⟩
    · rintro σ H3 ⟨k3, zs, x2, x3, hz1, hz2, hz3, rfl⟩
      refine ⟨_, rfl, q Dn H3 zs hDn (fun b o h => k3 b o (fun e => by rw [e, hDn] at h; cases h) (e2 _ _ (e0 _ _ h))) hz1 hz2 hz3⟩
def spAsk (K : PySem.W.Frag) : Sp := fun vs H Q _ => ∃ (f : Fm) (v : V) (an : Addr) (ns : List Str), vs = [v, .ref an] ∧ DF K H v f ∧ f.wf ns ∧ f.dep ≤ 62 ∧ ns.length ≤ 100 ∧ SqL K H an (ns.map V.str) ∧ ∀ H', Ex H H' → Q .non H'
end
section
variable {P : Program} {w : World} {K : PySem.W.Frag} {mg : Str → Option Value} {base : Heap}
abbrev nm_ask_names : List Str := ["formula", "names", "name"]
theorem sc_ask_names : FnScope nm_ask_names ["formula", "names"] (defScope s_ask_names) := ⟨rfl, rfl, rfl, by decide +kernel, rfl, by decide +kernel, by decide +kernel⟩
theorem ok_ask_names (T : T16 K w mg) : Ok P w K mg base 65 (gA K "ask_names") ["formula", "names"] (spAsk K) := by
  refine mkOk T.F_ask_names sc_ask_names (fun _ _ _ _ _ _ us hl => match us, hl with | [_, _], _ => rfl) (fun vs H Q E h => ?_) fun cdv A outer s H vs Q E hr h => ?_
  · obtain ⟨f, v, an, ns, rfl, _⟩ := h
    rfl
  obtain ⟨f, v, an, ns, rfl, hD, hw, hdp, hl, hN, q⟩ := h
  refine ⟨_, (pss_one (ps_for PassesOwn.never rfl (pi_list (pc (ok_names_in T ns 62) (hr.mono (by omega)) T.g_names_in (pa_cons (pv 0) pa_nil))) (pg_name (i := 2) sc_ask_names.nd rfl (.inl rfl)) (pss_one (ps_if (pt_cmpR op_notIn_seq (pv 2) (pv 1) (by rfl)) (pss_one ps_never) pss_nil)))), ?_⟩
  refine ⟨_, rfl, v, fD f, rfl, hD, (nameF hw).mono hdp, hl, fun D H2 zs hD2 e2 hB hz hzn => ?_⟩
  refine ⟨D, rfl, ⟨_, SqL.of hB⟩, for_it (walk_list (K := K) (a := D) (xs := zs.map V.str)) (fun i σ H' => H' = H2 ∧ ∃ x2, σ = [some v, some (.ref an), x2]) ⟨rfl, none, rfl⟩ (fun i σ H' _ z => by rw [z.1]; exact SqL.of hB) ?_ ?_⟩
  · rintro i y σ H3 H4 hi ⟨rfl, x2, rfl⟩ ⟨rfl, hy⟩
    rw [List.getElem?_map] at hy
    obtain ⟨u', hu1, rfl⟩ := Option.map_eq_some_iff.mp hy
    refine ⟨_, rfl, _, rfl, an, _, rfl, .inl (Evl.ex_l e2 hN), rfl, flat_strs _, _, rfl, ?_⟩
    show if (!inV (.str u') (ns.map V.str)) = true then _ else _
    rw [inV_strs, decide_eq_true (hz u' (List.mem_of_getElem? hu1))]
    exact iteF ⟨rfl, _, rfl⟩
  · rintro σ H3 ⟨rfl, x2, rfl⟩
    exact q _ e2
end
end W16
set_option Elab.async false
set_option linter.all false
set_option maxRecDepth 100000
set_option maxHeartbeats 4000000
namespace W16
open PySem PySem.Spec PyProof.Rows L2
/-! ### zip of a list and a tuple, its pairs into a dict (the kit has this of two lists; its zip over any two iterators has no tuple that is still out) -/
section
variable {prog : Program} {w : World} {A : Around} {E : Value → Shared → Prop} {s : Shared} {z TI TO T i1 i2 l1 l2 : Addr} {xs ys : Array Value} {fp1 fp2 : List Addr} {n1 n2 i : Nat} {P1 P2 : Nat → Value → Prop} {St1 St2 : Nat → Heap → Prop}
def AtL (i1 l1 : Addr) (xs : Array Value) (i : Nat) (h : Heap) : Prop := h.IsListIter i1 l1 i ∧ h.IsList l1 xs
def AtT (i2 l2 : Addr) (ys : Array Value) (i : Nat) (h : Heap) : Prop := h.IsTupleIter i2 l2 i ∧ h.IsTuple l2 ys
theorem drawsL (hh : A.handled = none) (ne : l1 ≠ i1) : Draws prog w A i1 [i1, l1] xs.size (fun i x => xs[i]? = some x) (AtL i1 l1 xs) where
  live := fun i h st => let ⟨o, e, _⟩ := st.1; ⟨o, e⟩
  frame := fun i h h' st k => ⟨st.1.at fun o e => k _ (by simp) o e, st.2.at fun o e => k _ (by simp) o e⟩
  item := fun i s Q E hi st q => wpAny_nextOf_list_item st.1 st.2 (Array.getElem?_eq_getElem hi) fun h' p e => q _ h' s.toks (Array.getElem?_eq_getElem hi) ⟨p, st.2.extBut e.extBut ne⟩ e
  done := fun s Q E st q => wpAny_nextOf_list_end hh st.1 st.2 (Array.getElem?_eq_none (Nat.le_refl _)) fun h' e k1 k2 => q h' e k1 k2
theorem drawsT (hh : A.handled = none) (ne : l2 ≠ i2) : Draws prog w A i2 [i2, l2] ys.size (fun i x => ys[i]? = some x) (AtT i2 l2 ys) where
  live := fun i h st => let ⟨o, e, _⟩ := st.1; ⟨o, e⟩
  frame := fun i h h' st k => ⟨st.1.at fun o e => k _ (by simp) o e, st.2.at fun o e => k _ (by simp) o e⟩
  item := fun i s Q E hi st q => RZ.nextOf_tuple_item st.1 st.2 (Array.getElem?_eq_getElem hi) fun h' p e => q _ h' s.toks (Array.getElem?_eq_getElem hi) ⟨p, st.2.extBut e.extBut ne⟩ e
  done := fun s Q E st q => RZ.nextOf_tuple_end hh st.1 st.2 (Array.getElem?_eq_none (Nat.le_refl _)) fun h' e k1 k2 => q h' e k1 k2
/-- a step of a zip whose last tuple is still out: it asks the one iterator, then the other, and makes a pair -/
theorem held_step {f : Bool} {o : Obj} {R : Fin → Shared → Prop} (hz : IsZipHeld s.heap z TI TO T f) (hT : s.heap.get? T = some o) (hp : IsPair s.heap TI (.ref i1) (.ref i2))
    (k : ∀ h, IsZipHeld h z TI TO T true → Heap.SameBut z s.heap h → wpAny (model prog w) A (Builtin.SmallTypes.nextOf (.ref i1)) (fun x s2 => wpAny (model prog w) A (Builtin.SmallTypes.nextOf (.ref i2)) (fun y s3 => wpAny (model prog w) A (newTuple [x, y]) (fun v s4 => R (.done (.ret v)) s4) E s3) E s2) E { s with heap := h }) :
    wpAny (model prog w) A (Builtin.«zip.__next__» ⟨[Value.ref z], []⟩) R E s := by
  show wpAny _ _ (field (Value.ref z) 2 >>= _) R E s; refine wpAny_bind (wpAny_field hz rfl (x := Value.bool false) rfl ?_)
  show wpAny _ _ (field (Value.ref z) 3 >>= _) R E s; refine wpAny_bind (wpAny_field hz rfl (x := Value.ref TI) rfl (wpAny_bind (wpAny_seqItems hp rfl ?_)))
  show wpAny _ _ (Builtin.SmallTypes.ownedTupleIsFree (Value.ref z) >>= _) R E s; refine wpAny_bind (wpAny_tupleHeld_zip hz hT fun h hz2 same => ?_)
  simp only [Bool.false_eq_true, ite_false, if_false]; refine wpAny_bind ?_; rw [← Array.forIn_toList]; simp only [List.forIn_nil, List.forIn_cons]
  refine wpAny_bind (wpAny_bind (wpAny_holding ?_)); show wpAny _ _ (Builtin.SmallTypes.nextOf (Value.ref i1) >>= _) _ E _
  refine wpAny_bind (thn (k h hz2 same) fun x s2 q2 => wpAny_pure (wpAny_pure ?_))
  refine wpAny_bind (wpAny_bind (wpAny_holding ?_)); show wpAny _ _ (Builtin.SmallTypes.nextOf (Value.ref i2) >>= _) _ E _
  refine wpAny_bind (thn q2 fun y s3 q3 => wpAny_pure (wpAny_pure (wpAny_pure ?_)))
  show wpAny _ _ (newTuple [x, y] >>= _) R E s3; exact wpAny_bind (thn q3 fun v s4 q4 => wpAny_pure q4)
theorem held_item {f : Bool} {o : Obj} {Q : Option Value → Shared → Prop} (S : ZipSep2 z TI TO i1 i2 fp1 fp2) (D1 : Draws prog w A.in1 i1 fp1 n1 P1 St1) (D2 : Draws prog w A.in1 i2 fp2 n2 P2 St2) (hz : IsZipHeld s.heap z TI TO T f) (hT : s.heap.get? T = some o) (hp : IsPair s.heap TI (.ref i1) (.ref i2)) (h1 : St1 i s.heap) (h2 : St2 i s.heap) (lt1 : i < n1) (lt2 : i < n2)
    (q : ∀ x y h tk, P1 i x → P2 i y → IsZipHeld h z TI TO T true → St1 (i + 1) h → St2 (i + 1) h → IsPair h s.heap.objs.size x y → (∀ c u, c ≠ z → c ≠ i1 → c ≠ i2 → s.heap.get? c = some u → h.get? c = some u) → Q (some (.ref s.heap.objs.size)) { s with heap := h, toks := tk }) : wpAny (model prog w) A (pyNext (.ref z)) Q E s := by
  have ty : Shared.TypeIs s (.ref z) "zip" := ⟨_, hz, rfl⟩
  unfold pyNext
  refine wpAny_bind (wpAny_attempt (wpAny_callSpecial?_slot ty F.slot_zip_next (wpAny_call_entry F.slot_zip_next ty F.entry_zip_next (held_step hz hT hp fun h hz2 same => ?_) (F.args_zip_next_1 _)) (name := Str.ofString "__next__")))
  refine D1.item i _ _ _ lt1 (D1.over h1 same S.zf1) fun x h3 tk3 px st3 same3 => ?_
  refine D2.item i _ _ _ lt2 (D2.over (D2.over h2 same S.zf2) same3 S.sep1_2) fun y h4 tk4 py st4 same4 => wpAny_newTuple ⟨_, rfl, wpAny_pure ?_⟩
  have hs : h4.objs.size = s.heap.objs.size := same4.1.trans (same3.1.trans same.1)
  have kp : ∀ c u, c ≠ z → c ≠ i1 → c ≠ i2 → s.heap.get? c = some u → (h4.push { cls := .type "tuple", data := .seq #[x, y] }).get? c = some u := fun c u a b d e => Heap.get?_push_of_some _ (same4.extBut c u d (same3.extBut c u b (same.extBut c u a e)))
  have pr : IsPair (h4.push { cls := .type "tuple", data := .seq #[x, y] }) h4.objs.size x y := Heap.get?_push_size _ rfl
  have e1 : St1 (i + 1) (h4.push { cls := .type "tuple", data := .seq #[x, y] }) := D1.frame _ _ _ (D1.over st3 same4 S.sep2_1) fun b _ u e => Heap.get?_push_of_some _ e
  have e2 : St2 (i + 1) (h4.push { cls := .type "tuple", data := .seq #[x, y] }) := D2.frame _ _ _ st4 fun b _ u e => Heap.get?_push_of_some _ e
  have e3 : IsZipHeld (h4.push { cls := .type "tuple", data := .seq #[x, y] }) z TI TO T true := Heap.get?_push_of_some _ (same4.extBut _ _ S.zi2 (same3.extBut _ _ S.zi1 hz2))
  rw [hs] at pr
  show Q (some (.ref h4.objs.size)) _
  rw [hs]
  exact q x y _ tk4 px py e3 e1 e2 pr kp
theorem held_end {f : Bool} {o : Obj} {Q : Option Value → Shared → Prop} (S : ZipSep2 z TI TO i1 i2 fp1 fp2) (D1 : Draws prog w A.in1 i1 fp1 n1 P1 St1) (D2 : Draws prog w A.in1 i2 fp2 n2 P2 St2) (hz : IsZipHeld s.heap z TI TO T f) (hT : s.heap.get? T = some o) (hp : IsPair s.heap TI (.ref i1) (.ref i2)) (h1 : St1 i s.heap) (h2 : St2 i s.heap) (le1 : i ≤ n1) (last : i = n1 ∨ i = n2)
    (q : ∀ h tk, (∀ c u, c ≠ z → c ≠ i1 → c ≠ i2 → s.heap.get? c = some u → h.get? c = some u) → Q none { s with heap := h, toks := tk }) : wpAny (model prog w) A (pyNext (.ref z)) Q E s := by
  have ty : Shared.TypeIs s (.ref z) "zip" := ⟨_, hz, rfl⟩
  unfold pyNext
  refine wpAny_bind (wpAny_attempt (wpAny_callSpecial?_slot ty F.slot_zip_next (wpAny_call_entry F.slot_zip_next ty F.entry_zip_next (held_step hz hT hp fun h hz2 same => ?_) (F.args_zip_next_1 _)) (name := Str.ofString "__next__")))
  have fin : ∀ (h' : Heap) (tk : Tok) (e : Addr), (∃ u, h'.get? e = some u ∧ u.cls = .type "StopIteration") → (∀ c u, c ≠ z → c ≠ i1 → c ≠ i2 → s.heap.get? c = some u → h'.get? c = some u) →
      wpAny (model prog w) A (isInstance (Value.ref e) (.type "StopIteration") >>= fun b => if b = true then pure none else throw (.ref e)) Q E { s with heap := h', toks := tk } := fun h' tk e hu kp => by
    obtain ⟨u, hu, hc⟩ := hu
    exact wpAny_bind (wpAny_isInstance (b := true) (T := "StopIteration") ⟨u, hu, hc⟩ isSubtype_stop (wpAny_pure (q h' tk kp)))
  by_cases e1 : i = n1
  · exact D1.done _ _ _ (e1 ▸ D1.over h1 same S.zf1) fun h3 e x3 hu => fin h3 s.toks e hu fun c u a b _ v => x3 c u b (same.extBut c u a v)
  · have e2 : i = n2 := last.resolve_left e1
    refine D1.item i _ _ _ (Nat.lt_of_le_of_ne le1 e1) (D1.over h1 same S.zf1) fun x h3 tk3 px st3 same3 => ?_
    exact D2.done _ _ _ (e2 ▸ D2.over (D2.over h2 same S.zf2) same3 S.sep1_2) fun h4 e x4 hu => fin h4 tk3 e hu fun c u a b d v => x4 c u d (same3.extBut c u b (same.extBut c u a v))
end
/-! zip(list, tuple) itself: five new objects -/
theorem push5 (h : Heap) (o1 o2 o3 o4 o5 : Obj) (f1 : o1.isFreed = false) (f2 : o2.isFreed = false) (f3 : o3.isFreed = false) (f4 : o4.isFreed = false) (f5 : o5.isFreed = false) :
    ((((((h.push o1).push o2).push o3).push o4).push o5).objs.size = h.objs.size + 5 ∧ (((((h.push o1).push o2).push o3).push o4).push o5).get? h.objs.size = some o1 ∧ (((((h.push o1).push o2).push o3).push o4).push o5).get? (h.objs.size + 1) = some o2) ∧
    ((((((h.push o1).push o2).push o3).push o4).push o5).get? (h.objs.size + 2) = some o3 ∧ (((((h.push o1).push o2).push o3).push o4).push o5).get? (h.objs.size + 3) = some o4 ∧ (((((h.push o1).push o2).push o3).push o4).push o5).get? (h.objs.size + 4) = some o5) ∧
    ∀ c o, h.get? c = some o → (((((h.push o1).push o2).push o3).push o4).push o5).get? c = some o := by
  have up : ∀ {g : Heap} (u : Obj) {c : Addr} {o : Obj}, g.get? c = some o → (g.push u).get? c = some o := fun {_} u {_} {_} e => Heap.get?_push_of_some _ e
  have at' : ∀ (g : Heap) (u : Obj) (n : Nat), u.isFreed = false → g.objs.size = n → (g.push u).get? n = some u := fun g u n f e => by rw [← e]; exact Heap.get?_push_size g f
  have s1 : (h.push o1).objs.size = h.objs.size + 1 := Heap.size_push ..
  have s2 : ((h.push o1).push o2).objs.size = h.objs.size + 2 := (Heap.size_push ..).trans (congrArg (· + 1) s1)
  have s3 : (((h.push o1).push o2).push o3).objs.size = h.objs.size + 3 := (Heap.size_push ..).trans (congrArg (· + 1) s2)
  have s4 : ((((h.push o1).push o2).push o3).push o4).objs.size = h.objs.size + 4 := (Heap.size_push ..).trans (congrArg (· + 1) s3)
  have s5 : (((((h.push o1).push o2).push o3).push o4).push o5).objs.size = h.objs.size + 5 := (Heap.size_push ..).trans (congrArg (· + 1) s4)
  exact ⟨⟨s5, up _ (up _ (up _ (up _ (at' _ _ _ f1 rfl)))), up _ (up _ (up _ (at' _ _ _ f2 s1)))⟩, ⟨up _ (up _ (at' _ _ _ f3 s2)), up _ (at' _ _ _ f4 s3), at' _ _ _ f5 s4⟩, fun c o e => up _ (up _ (up _ (up _ (up _ e))))⟩
abbrev oL (l : Addr) : Obj := { cls := .type "list_iterator", data := .fields #[.ref l, .int 0 0] }
abbrev oT (l : Addr) : Obj := { cls := .type "tuple_iterator", data := .fields #[.ref l, .int 0 0] }
abbrev oP (x y : Value) : Obj := { cls := .type "tuple", data := .seq #[x, y] }
abbrev zmh (h : Heap) (l1 l2 : Addr) : Heap := (((h.push (oL l1)).push (oT l2)).push (oP (.ref h.objs.size) (.ref (h.push (oL l1)).objs.size))).push (oP .none .none)
abbrev oZ (h : Heap) (l1 l2 : Addr) : Obj := { cls := .type "zip", data := .fields #[.none, .bool false, .bool false, .ref ((h.push (oL l1)).push (oT l2)).objs.size, .ref (((h.push (oL l1)).push (oT l2)).push (oP (.ref h.objs.size) (.ref (h.push (oL l1)).objs.size))).objs.size] }
theorem meets_zm (l1 l2 : Addr) (xs ys : Array Value) :
    Meets (Builtin.«zip.__new__» ⟨[.type "zip", .ref l1, .ref l2], []⟩) (fun _ R s => s.heap.IsList l1 xs ∧ s.heap.IsTuple l2 ys ∧ R (.ok (.ret (.ref (zmh s.heap l1 l2).objs.size))) { s with heap := (zmh s.heap l1 l2).push (oZ s.heap l1 l2) }) :=
  Meets.of_wp fun prog w A R s hyp => by
    obtain ⟨hp, ge, dr, tk, os⟩ := s; obtain ⟨hl, ht, hyp⟩ := hyp
    have hsub := sub_zip
    have q1 : Heap.IsList (Shared.heap ⟨hp, ge, dr, tk, os⟩) l1 xs := hl
    have q2 : Heap.IsTuple (Shared.heap ⟨hp.push (oL l1), ge, dr, tk, os⟩) l2 ys := Heap.IsTuple.push ht _
    wp_walk using wpAny_pyIter_list q1, wpAny_pyIter_tuple q2
    exact ⟨_, rfl, hyp⟩
section
variable {prog : Program} {w : World} {A : Around} {E : Value → Shared → Prop} {s : Shared} {l1 l2 : Addr} {xs ys : Array Value}
structure ZM (s : Shared) (l1 l2 : Addr) (h : Heap) : Prop where
  z : IsZip h (s.heap.objs.size + 4) (s.heap.objs.size + 2) (s.heap.objs.size + 3) .none
  p : IsPair h (s.heap.objs.size + 2) (.ref s.heap.objs.size) (.ref (s.heap.objs.size + 1))
  o : IsPair h (s.heap.objs.size + 3) .none .none
  a : h.IsListIter s.heap.objs.size l1 0
  b : h.IsTupleIter (s.heap.objs.size + 1) l2 0
  n : h.objs.size = s.heap.objs.size + 5
  k : ∀ c o, s.heap.get? c = some o → h.get? c = some o
theorem call_zm {Q : Value → Shared → Prop} (hl : s.heap.IsList l1 xs) (ht : s.heap.IsTuple l2 ys) (q : ∀ h, ZM s l1 l2 h → Q (.ref (s.heap.objs.size + 4)) { s with heap := h }) : wpAny (model prog w) A (call (.type "zip") [.ref l1, .ref l2]) Q E s := by
  refine callType_new F.called_zip (by decide) (F.typeCall_zip_2 _ _) (F.newCall_zip_2 _ _) (fun obj => F.args_object_init_3 obj _ _) F.entry_zip_new (meets_zm l1 l2 xs ys) ⟨hl, ht, ?_⟩
  obtain ⟨⟨n5, g1, g2⟩, ⟨g3, g4, g5⟩, kp⟩ := push5 s.heap (oL l1) (oT l2) (oP (.ref s.heap.objs.size) (.ref (s.heap.push (oL l1)).objs.size)) (oP .none .none) (oZ s.heap l1 l2) rfl rfl rfl rfl rfl
  have s1 : (s.heap.push (oL l1)).objs.size = s.heap.objs.size + 1 := Heap.size_push ..
  have s2 : ((s.heap.push (oL l1)).push (oT l2)).objs.size = s.heap.objs.size + 2 := (Heap.size_push ..).trans (congrArg (· + 1) s1)
  have s3 : (((s.heap.push (oL l1)).push (oT l2)).push (oP (.ref s.heap.objs.size) (.ref (s.heap.push (oL l1)).objs.size))).objs.size = s.heap.objs.size + 3 := (Heap.size_push ..).trans (congrArg (· + 1) s2)
  have s4 : (zmh s.heap l1 l2).objs.size = s.heap.objs.size + 4 := (Heap.size_push ..).trans (congrArg (· + 1) s3)
  have e5 : oZ s.heap l1 l2 = { cls := .type "zip", data := .fields #[.none, .bool false, .bool false, .ref (s.heap.objs.size + 2), .ref (s.heap.objs.size + 3)] } := by show Obj.mk _ _ _ _ = _; rw [s2, s3]
  have e3 : oP (.ref s.heap.objs.size) (.ref (s.heap.push (oL l1)).objs.size) = oP (.ref s.heap.objs.size) (.ref (s.heap.objs.size + 1)) := by rw [s1]
  have g5 := g5.trans (congrArg some e5)
  have g3 := g3.trans (congrArg some e3)
  show _ ∧ _
  rw [s4]
  exact ⟨⟨_, g5, rfl⟩, q _ ⟨g5, g3, g4, ⟨_, g1, rfl, rfl⟩, ⟨_, g2, rfl, rfl⟩, n5, kp⟩⟩
end
theorem nin2 {x y c : Nat} (h1 : c ≠ x) (h2 : c ≠ y) : c ∉ [x, y] := fun h => (List.mem_cons.mp h).elim h1 fun h => h2 (List.mem_singleton.mp h)
theorem sep5 {n a b : Nat} (la : a < n) (lb : b < n) : ZipSep2 (n + 4) (n + 2) (n + 3) n (n + 1) [n, a] [n + 1, b] where
  TIz := fun (h : n + 2 = n + 4) => by omega
  TOz := fun (h : n + 3 = n + 4) => by omega
  TITO := fun (h : n + 2 = n + 3) => by omega
  TIi1 := fun (h : n + 2 = n) => by omega
  TIi2 := fun (h : n + 2 = n + 1) => by omega
  mem1 := List.mem_cons_self
  mem2 := List.mem_cons_self
  zf1 := nin2 (by omega) (by omega)
  Tf1 := nin2 (by omega) (by omega)
  zf2 := nin2 (by omega) (by omega)
  Tf2 := nin2 (by omega) (by omega)
  sep1_2 := nin2 (by omega) (by omega)
  sep2_1 := nin2 (by omega) (by omega)
/-- a zip of two iterators, not yet asked, is what a dict may be made of -/
theorem zip_arg {prog : Program} {w : World} (z TI TO i1 i2 l1 l2 : Addr) (S : ZipSep2 z TI TO i1 i2 [i1, l1] [i2, l2]) (ne1 : l1 ≠ i1) (ne2 : l2 ≠ i2) (xs ys : Array Value) :
    PairArg prog w "zip" z (z :: TI :: TO :: ([i1, l1] ++ [i2, l2])) [z, TO, i1, i2] (min xs.size ys.size) (fun i k v => xs[i]? = some k ∧ ys[i]? = some v) (fun h => (IsZip h z TI TO .none ∧ IsPair h TI (.ref i1) (.ref i2) ∧ ∃ a b, IsPair h TO a b) ∧ AtL i1 l1 xs 0 h ∧ AtT i2 l2 ys 0 h) where
  notDict := by decide
  type := fun s ok => ⟨_, ok.1.1, rfl⟩
  keep := fun h h' ⟨⟨a, b, x, y, c⟩, ⟨d, e⟩, f, g⟩ k => ⟨⟨k _ _ a, k _ _ b, x, y, k _ _ c⟩, ⟨d.at fun o u => k _ o u, e.at fun o u => k _ o u⟩, f.at fun o u => k _ o u, g.at fun o u => k _ o u⟩
  there := fun h ⟨⟨a, b, x, y, c⟩, ⟨⟨o1, d, _⟩, o2, e, _⟩, ⟨o3, f, _⟩, o4, g, _⟩ b' hb => by
    simp only [List.cons_append, List.nil_append, List.mem_cons, List.not_mem_nil, or_false] at hb
    rcases hb with h | h | h | h | h | h | h <;> (rw [h]; first | exact ⟨_, a⟩ | exact ⟨_, b⟩ | exact ⟨_, c⟩ | exact ⟨_, d⟩ | exact ⟨_, e⟩ | exact ⟨_, f⟩ | exact ⟨_, g⟩)
  sub := fun b hb => by
    simp only [List.mem_cons, List.not_mem_nil, or_false] at hb
    rcases hb with h | h | h | h <;> (rw [h]; simp)
  noKeys := fun A s Q E hA ok q => getAttrOr_miss_zip ok.1.1 rfl rfl rfl zip_no_keys (by decide +kernel) hA q
  iter := fun A s d Q E hA ⟨⟨a, b, x, y, c⟩, st1, st2⟩ hd hdf q => by
    have D1 : Draws prog w A.in1 i1 [i1, l1] xs.size (fun i x => xs[i]? = some x) (AtL i1 l1 xs) := drawsL hA ne1
    have D2 : Draws prog w A.in1 i2 [i2, l2] ys.size (fun i x => ys[i]? = some x) (AtT i2 l2 ys) := drawsT hA ne2
    simp only [List.cons_append, List.nil_append, List.mem_cons, List.not_mem_nil, or_false, not_or] at hdf
    obtain ⟨nz, nI, nO, n1, m1, n2, m2⟩ := hdf
    refine wpAny_pyIter_zip a (q z [z, TO, i1, i2] (fun i h => (IsPair h TI (.ref i1) (.ref i2) ∧ AtL i1 l1 xs i h ∧ AtT i2 l2 ys i h) ∧ ((IsZip h z TI TO .none ∧ ∃ a b, IsPair h TO a b) ∨ ∃ T f o, (IsZipHeld h z TI TO T f ∧ h.get? T = some o) ∧ (T ≠ z ∧ T ≠ i1 ∧ T ≠ i2) ∧ T ≠ d)) s.heap s.toks
      { off := ?off, frame := ?frame, item := ?item, done := ?done } ⟨⟨b, st1, st2⟩, .inl ⟨a, x, y, c⟩⟩ (fun _ _ e => e) fun b hb => .inl hb)
    case off =>
      intro hm
      simp only [List.mem_cons, List.not_mem_nil, or_false] at hm
      rcases hm with h | h | h | h
      · exact nz h
      · exact nO h
      · exact n1 h
      · exact n2 h
    case frame =>
      intro i h h' ⟨⟨b, t1, t2⟩, hc⟩ k
      refine ⟨⟨k _ _ (Ne.symm nI) b, D1.frame _ _ _ t1 fun c hc o e => k c o ?_ e, D2.frame _ _ _ t2 fun c hc o e => k c o ?_ e⟩, ?_⟩
      · rcases List.mem_cons.mp hc with h | h
        · rw [h]; exact Ne.symm n1
        · rw [List.mem_singleton.mp h]; exact Ne.symm m1
      · rcases List.mem_cons.mp hc with h | h
        · rw [h]; exact Ne.symm n2
        · rw [List.mem_singleton.mp h]; exact Ne.symm m2
      · rcases hc with ⟨u, x, y, v⟩ | ⟨T, f, o, ⟨u, v⟩, r, r4⟩
        · exact .inl ⟨k _ _ (Ne.symm nz) u, x, y, k _ _ (Ne.symm nO) v⟩
        · exact .inr ⟨T, f, o, ⟨k _ _ (Ne.symm nz) u, k _ _ r4 v⟩, r, r4⟩
    case item =>
      intro i s1 Q1 E1 hi ⟨⟨b, t1, t2⟩, hc⟩ hds q1
      have lt1 : i < xs.size := Nat.lt_of_lt_of_le hi (Nat.min_le_left _ _)
      have lt2 : i < ys.size := Nat.lt_of_lt_of_le hi (Nat.min_le_right _ _)
      have new : ∀ {c : Addr} {o : Obj}, s1.heap.get? c = some o → s1.heap.objs.size ≠ c := fun e h => by rw [← h] at e; exact Nat.lt_irrefl _ (Heap.lt_size e)
      obtain ⟨u1, v1⟩ := D1.live _ _ t1
      obtain ⟨u2, v2⟩ := D2.live _ _ t2
      rcases hc with ⟨u, x, y, v⟩ | ⟨T, f, o, ⟨u, v⟩, ⟨r1, r2, r3⟩, r4⟩
      · refine wpAny_pyNext_zipD2_item S D1 D2 u b v t1 t2 lt1 lt2 fun x1 x2 h' tk p1 p2 a1 a2 t1' t2' pr _ kp => ?_
        exact q1 _ x1 x2 h' tk ⟨p1, p2⟩ (.inl ⟨_, pr, rfl, _, rfl⟩) ⟨⟨kp _ _ S.TIz S.TITO S.TIi1 S.TIi2 b, t1', t2'⟩, .inr ⟨_, false, _, ⟨a1, pr⟩, ⟨new u, new v1, new v2⟩, Nat.ne_of_gt hds⟩⟩ fun c o hc e => by
          simp only [List.mem_cons, List.not_mem_nil, or_false, not_or] at hc
          exact kp c o hc.1 hc.2.1 hc.2.2.1 hc.2.2.2 e
      · refine held_item S D1 D2 u v b t1 t2 lt1 lt2 fun x1 x2 h' tk p1 p2 a1 t1' t2' pr kp => ?_
        exact q1 _ x1 x2 h' tk ⟨p1, p2⟩ (.inl ⟨_, pr, rfl, _, rfl⟩) ⟨⟨kp _ _ S.TIz S.TIi1 S.TIi2 b, t1', t2'⟩, .inr ⟨T, true, o, ⟨a1, kp _ _ r1 r2 r3 v⟩, ⟨r1, r2, r3⟩, r4⟩⟩ fun c o hc e => by
          simp only [List.mem_cons, List.not_mem_nil, or_false, not_or] at hc
          exact kp c o hc.1 hc.2.2.1 hc.2.2.2 e
    case done =>
      intro s1 Q1 E1 ⟨⟨b, t1, t2⟩, hc⟩ q1
      have last : min xs.size ys.size = xs.size ∨ min xs.size ys.size = ys.size := (Nat.le_total xs.size ys.size).elim (fun h => .inl (Nat.min_eq_left h)) fun h => .inr (Nat.min_eq_right h)
      rcases hc with ⟨u, x, y, v⟩ | ⟨T, f, o, ⟨u, v⟩, _, _⟩
      · exact wpAny_pyNext_zipD2_end S D1 D2 u b v t1 t2 (Nat.min_le_left _ _) (Nat.min_le_right _ _) last fun h' tk kp => q1 h' tk fun c o hc e => by
          simp only [List.mem_cons, List.not_mem_nil, or_false, not_or] at hc
          exact kp c o hc.1 hc.2.1 hc.2.2.1 hc.2.2.2 e
      · exact held_end S D1 D2 u v b t1 t2 (Nat.min_le_left _ _) last fun h' tk kp => q1 h' tk fun c o hc e => by
          simp only [List.mem_cons, List.not_mem_nil, or_false, not_or] at hc
          exact kp c o hc.1 hc.2.2.1 hc.2.2.2 e
open Evl (Ex)
/-- the pairs of texts and values -/
def kvz : List Str → List V → List (Key × V)
  | k :: ks, v :: vs => (.inr k, v) :: kvz ks vs
  | _, _ => []
def prz : List Str → List Value → List (Key × Value)
  | k :: ks, v :: vs => (.inr k, v) :: prz ks vs
  | _, _ => []
theorem kvz_rel : ∀ (ks : List Str) {vs : List V} {us : List Value}, Vals vs us → KV (kvz ks vs) (prz ks us)
  | [], _, _, _ => .nil
  | _ :: _, _, _, .nil => .nil
  | k :: ks, _, _, .cons h t => .cons ⟨rfl, h⟩ (kvz_rel ks t)
theorem prz_len : ∀ (ks : List Str) (us : List Value), ks.length = us.length → (prz ks us).length = ks.length
  | [], _, _ => rfl
  | _ :: _, [], h => by simp at h
  | k :: ks, u :: us, h => congrArg (· + 1) (prz_len ks us (by simpa using h))
theorem prz_keys : ∀ (ks : List Str) (us : List Value), ks.length = us.length → (prz ks us).map (·.1) = ks.map Sum.inr
  | [], _, _ => rfl
  | _ :: _, [], h => by simp at h
  | k :: ks, u :: us, h => congrArg ((Sum.inr k : Key) :: ·) (prz_keys ks us (by simpa using h))
theorem prz_at : ∀ (ks : List Str) (us : List Value) (i : Nat) (k : Str) (u : Value), ks[i]? = some k → us[i]? = some u → (prz ks us)[i]? = some (.inr k, u)
  | [], _, i, _, _, h, _ => by simp at h
  | _ :: _, [], i, _, _, _, h => by simp at h
  | k :: ks, u :: us, 0, _, _, h, h2 => by rw [← Option.some.inj h, ← Option.some.inj h2]; rfl
  | k :: ks, u :: us, i + 1, _, _, h, h2 => prz_at ks us i _ _ h h2
theorem kvz_len : ∀ (ks : List Str) (vs : List V), (kvz ks vs).length ≤ ks.length
  | [], _ => Nat.le_refl _
  | _ :: _, [] => Nat.zero_le _
  | _ :: ks, _ :: vs => Nat.succ_le_succ (kvz_len ks vs)
def tDictZip (K : PySem.W.Frag) (ta tb : TE) : TE := fun σ H Q => ta σ H fun x H1 => tb σ H1 fun y H2 => ∃ (a b : Addr) (ks : List Str) (vs : List V), x = .ref a ∧ y = .ref b ∧ SqL K H2 a (ks.map V.str) ∧ SqT K H2 b vs ∧ ks.length = vs.length ∧ ks.Nodup ∧ ks.length ≤ 100 ∧
  ∀ p, H2 p = none → Q (.ref p) (upd H2 p (.dK (kvz ks vs)))
theorem pe_dictZip {X : Cx} {e e2 : Expr} {ta tb : TE} {p p2 pos pos2 : Pos} (hd : X.mg "dict" = none) (hz : X.mg "zip" = none) (ha : PE X e ta) (hb : PE X e2 tb) (hgd : Gl X "dict" := by rfl) (hgz : Gl X "zip" := by rfl) (hc : X.calm = true := by rfl)
    (hs : starEach [e, e2] X.env = (false, eval e X.env) :: starEach [e2] X.env := by rfl) (hpl : (backTo pos2 (starEach [e2] X.env)).any (·.1) = false := by rfl)
    (hs1 : starEach [e2] X.env = (false, eval e2 X.env) :: starEach [] X.env := by rfl)
    (hs2 : starEach [.Call (.Name "zip" p2) [e, e2] [] pos2] X.env = (false, eval (.Call (.Name "zip" p2) [e, e2] [] pos2) X.env) :: starEach [] X.env := by rfl) (hpl2 : (backTo pos (starEach [] X.env)).any (·.1) = false := by rfl) :
    PE X (.Call (.Name "dict" p) [.Call (.Name "zip" p2) [e, e2] [] pos2] [] pos) (tDictZip X.K ta tb) := by
  refine ⟨fun pins s σ H Q I h => ?_⟩
  refine wpAny_Call_Name_kw (ld_blt I hgd hd (by decide +kernel : bootBuiltins "dict" = some (.type "dict")) ?_)
  refine PyProof.Rows.callWith_type1 ?_ hs2 hpl2
  refine PyProof.Rows.args_cons ?_
  refine wpAny_Call_Name_kw (ld_blt I hgz hz PyProof.Rows.boot_zip ?_)
  refine PyProof.Rows.callWith_type1 (thn ((pa_cons ha (pa_cons hb pa_nil hs1) hs).run pos2 pins s σ H (fun vs H2 => match vs with
    | [x, y] => ∃ (a b : Addr) (ks : List Str) (vs : List V), x = .ref a ∧ y = .ref b ∧ SqL X.K H2 a (ks.map V.str) ∧ SqT X.K H2 b vs ∧ ks.length = vs.length ∧ ks.Nodup ∧ ks.length ≤ 100 ∧ ∀ p, H2 p = none → Q (.ref p) (upd H2 p (.dK (kvz ks vs)))
    | _ => False) I h) fun us s1 hq => ?_) hs hpl
  obtain ⟨vs, H2, I2, r2, q2⟩ := hq
  match vs, r2, q2 with
  | [x, y], r2, q2 =>
    obtain ⟨a, b, ks, ws, rfl, rfl, hqa, hqb, hlen, hnd, hle, q⟩ := q2
    obtain ⟨u1, u2, rfl, ra, rb⟩ := vals2 r2
    cases (show u1 = Value.ref a from ra)
    cases (show u2 = Value.ref b from rb)
    obtain ⟨its, rv, p1, _⟩ := I2.list hqa
    obtain ⟨its2, rv2, p2, _⟩ := I2.tuple hqb
    obtain ⟨o2, ho2, _⟩ := id p2
    have hIl : s1.heap.IsList a its.toArray := p1.isList
    have hIt : s1.heap.IsTuple b its2.toArray := p2
    have la : a < s1.heap.objs.size := p1.lt
    have lb : b < s1.heap.objs.size := Heap.lt_size ho2
    refine call_zm hIl hIt fun h' Z => ?_
    have hk := Z.k
    refine PyProof.Rows.args_nil ?_
    have l1 : its.length = ks.length := by rw [← rv.length, List.length_map]
    have l2 : its2.length = ks.length := by rw [← rv2.length, hlen]
    have hn : min its.toArray.size its2.toArray.size = ks.length := by simp [l1, l2]
    have S5 : ZipSep2 (s1.heap.objs.size + 4) (s1.heap.objs.size + 2) (s1.heap.objs.size + 3) s1.heap.objs.size (s1.heap.objs.size + 1) [s1.heap.objs.size, a] [s1.heap.objs.size + 1, b] := by
      exact sep5 la lb
    refine PySem.call_dict_pairs (knd := mixKind X.prog X.w) (kvs := prz ks its2) (zip_arg (s1.heap.objs.size + 4) (s1.heap.objs.size + 2) (s1.heap.objs.size + 3) s1.heap.objs.size (s1.heap.objs.size + 1) a b S5 (Nat.ne_of_lt la) (Nat.ne_of_lt (Nat.lt_succ_of_lt lb)) its.toArray its2.toArray)
      (I2.ok.hd hc) ⟨⟨Z.z, Z.p, _, _, Z.o⟩, ⟨Z.a, hIl.at fun o e => hk _ o e⟩, Z.b, hIt.at fun o e => hk _ o e⟩ ⟨by rw [hn]; exact prz_len ks its2 l2.symm, fun i key v hr => ?_⟩ (by rw [hn]; exact Nat.le_trans hle (by decide)) fun h2' tk hd' hkeep => ?_
    · obtain ⟨hr1, hr2⟩ := hr
      have hi : i < ks.length := by
        have z := (Array.getElem?_eq_some_iff.mp hr1).1
        simpa [l1] using z
      have hki : (ks.map V.str)[i]? = some (.str ks[i]) := by rw [List.getElem?_map, List.getElem?_eq_getElem hi]; rfl
      obtain ⟨u, hu, ru⟩ := rv.get hki
      have eu : u = key := by
        have z : its[i]? = some key := by simpa using hr1
        rw [hu] at z
        exact Option.some.inj z
      subst eu
      exact ⟨.inr ks[i], prz_at ks its2 i _ _ (List.getElem?_eq_getElem hi) (by simpa using hr2), kV_is (P := X.prog) (w := X.w) (k := .inr ks[i]) ru⟩
    · have hkeys : ((prz ks its2).map (·.1)).Nodup := by
        rw [prz_keys ks its2 l2.symm]
        exact (List.pairwise_map.mpr (hnd.imp fun h e => h (Sum.inr.inj e)))
      rw [merged_nil_of_nodup _ hkeys] at hd'
      have hsz5 : ({ s1 with heap := h' } : Shared).heap.objs.size = s1.heap.objs.size + 5 := Z.n
      have hm : ((s1.heap.objs.size + 5) == sysModules) = false := beq_eq_false_iff_ne.mpr (Nat.ne_of_gt (Nat.lt_of_lt_of_le I2.big (Nat.le_add_right _ _)))
      have hl : (kvz ks ws).length ≤ sizeLine := Nat.le_trans (kvz_len ks ws) (Nat.le_trans hle (by decide))
      have keep : ∀ c o, s1.heap.get? c = some o → h2'.get? c = some o := fun c o e => hkeep c o (fun hm => by
        have z := Heap.lt_size e
        simp only [List.mem_cons, List.not_mem_nil, or_false] at hm
        rcases hm with h | h | h | h
        · rw [h] at z; exact absurd z (Nat.not_lt.mpr (Nat.le_add_right _ _))
        · rw [h] at z; exact absurd z (Nat.not_lt.mpr (Nat.le_add_right _ _))
        · rw [h] at z; exact absurd z (Nat.lt_irrefl _)
        · rw [h] at z; exact absurd z (Nat.not_lt.mpr (Nat.le_add_right _ _))) (hk c o e)
      refine ⟨.ref (s1.heap.objs.size + 5), upd H2 (s1.heap.objs.size + 5) (.dK (kvz ks ws)), I2.laid (t' := tk) keep (Nat.le_add_right _ _) (show ObjOk X.prog X.w _ _ _ (.dK (kvz ks ws)) from ⟨hl, hm, prz ks its2, kvz_rel ks rv2, ?_⟩), ?_, q _ (I2.hok.fresh (Nat.le_add_right _ _))⟩
      · rw [← hsz5]; exact hd'
      · show Value.ref _ = _
        rw [hsz5]
  | [], _, q2 => exact q2.elim
  | [_], _, q2 => exact q2.elim
  | _ :: _ :: _ :: _, _, q2 => exact q2.elim
end W16
set_option Elab.async false
set_option linter.all false
set_option maxRecDepth 100000
set_option maxHeartbeats 4000000
namespace W16
open PySem PySem.Spec PyProof.Rows L2
open Evl (Ex)
theorem kvz_val {ns : List Str} (zs : List Int) {x : Str} (hl : ns.length = zs.length) (hx : x ∈ ns) : valV (kvz ns (zs.map V.int)) (.inr x : Key) = some (.int (envOf ns zs x)) := by
  induction ns generalizing zs with
  | nil => simp at hx
  | cons y r ih =>
    cases zs with
    | nil => simp at hl
    | cons z zr =>
      show valV ((.inr y, V.int z) :: kvz r (zr.map V.int)) (.inr x : Key) = _
      by_cases e : y = x
      · subst e
        rw [valV_pos rfl]
        unfold envOf ix
        rw [if_pos rfl]
        rfl
      · rw [valV_neg (p := ((.inr y : Key), V.int z)) fun h => e (Sum.inr.inj h), ih zr (by simpa using hl) ((List.mem_cons.mp hx).resolve_left fun h => e h.symm)]
        unfold envOf
        conv => rhs; rw [ix]
        rw [if_neg e]
        rfl
theorem none_back {H H1 : Hp} (e : Ex H H1) {D : Addr} (h : H1 D = none) : H D = none := by
  cases z : H D with
  | none => rfl
  | some o => rw [e _ _ z] at h; cases h
theorem tLcI {K : PySem.W.Frag} {wi : TI} {te : TE} {vs : List Nat} {σ : L2.St} {H : Hp} {j : Nat} {Q : VK} {xs : List V} (R : Nat → V → Hp → Prop) (hwi : ∀ Rr : It → Hp → Prop, (∀ p H1, Ex H H1 → SqL K H1 p xs → Rr (Itl K p) H1) → wi σ H Rr)
    (hR : ∀ i y H H', NEx H H' → R i y H → R i y H') (hn : xs.length < 100000) (hw : ∀ x, wipe ((wipe σ vs).set j (some x)) vs = wipe σ vs)
    (elem : ∀ i x H', xs[i]? = some x → Ex H H' → Gv te ((wipe σ vs).set j (some x)) H' (R i))
    (q : ∀ D H' ys, H D = none → Ex H H' → H' D = some (.lst ys) → ys.length = xs.length → (∀ i y, ys[i]? = some y → R i y H') → Q (.ref D) H') : tLc wi (gName j) tYes te vs σ H Q :=
  hwi _ fun p H1 e1 hS => lcN (walk_list (K := K) (a := p) (xs := xs)) R hR (fun H' e => Evl.ex_l e hS) hn hw (fun i x Ha Hb hi e hy => ⟨by rw [hy.1]; exact Evl.Ex.refl _, by rw [hy.1]; exact elem i x Ha hy.2 (e1.trans e)⟩) fun D H' ys hD e hB hl hr => q D H' ys (none_back e1 hD) (e1.trans e) hB hl hr
def spTA (K : PySem.W.Frag) : Sp := fun vs H Q _ => ∃ (f : Fm) (v : V) (an a1 a2 : Addr) (ns : List Str) (r : Rn) (xs1 xs2 : List V), vs = [v, .ref an, .ref a1, .ref a2] ∧ DF K H v f ∧ f.wf ns ∧ f.dep ≤ 62 ∧ f.size ≤ 900 ∧ SqL K H an (ns.map V.str) ∧ ns.Nodup ∧ ns.length ≤ 100 ∧
  H a1 = some (.lst xs1) ∧ H a2 = some (.lst xs2) ∧ RunOk K H ns r (xs1 ++ xs2) ∧ r.back = xs1.length ∧ RetB r.n (ho r f) H Q
section
variable {P : Program} {w : World} {K : PySem.W.Frag} {mg : Str → Option Value} {base : Heap}
abbrev nm_truths_along : List Str := ["formula", "names", "stem", "loop", "rows", "bindings", "table", "word", "left", "right", "second", "state", "_", "values"]
theorem sc_truths_along : FnScope nm_truths_along ["formula", "names", "stem", "loop"] (defScope s_truths_along) := ⟨rfl, rfl, rfl, by decide +kernel, rfl, by decide +kernel, by decide +kernel⟩
theorem ok_truths_along (T : T16 K w mg) : Ok P w K mg base 67 (gA K "truths_along") ["formula", "names", "stem", "loop"] (spTA K) := by
  refine mkOk T.F_truths_along sc_truths_along (fun _ _ _ _ _ _ us hl => match us, hl with | [_, _, _, _], _ => rfl) (fun vs H Q E h => ?_) fun cdv A outer s H vs Q E hr h => ?_
  · obtain ⟨f, v, an, a1, a2, ns, r, xs1, xs2, rfl, _⟩ := h
    rfl
  obtain ⟨f, v, an, a1, a2, ns, r, xs1, xs2, rfl, hD, hw, hdp, hsz, hN, hnd, hnl, h1, h2, hO, hback, q⟩ := h
  refine ⟨_, (pss_cons (ps_expr (pc (ok_ask_names T) (hr.mono (by omega)) T.g_ask_names (pa_cons (pv 0) (pa_cons (pv 1) pa_nil))))
      (pss_cons (ps_set (i := 4) sc_truths_along.nd rfl (.inr rfl) (pc (ok_number_rows T) (hr.mono (by omega)) T.g_number_rows (pa_cons (pv 0) pa_nil)))
      (pss_cons (ps_setLc (i := 5) (own := [("state", 11)]) rfl sc_truths_along.nd rfl rfl (sw_true rfl rfl rfl (by decide +kernel)) (pi_list (pe_op op_cat (pv 2) (pv 3))) (blkOk_by (own := [("state", 11)]) (N := nm_truths_along) (sc := defScope s_truths_along) (by decide +kernel)) (fun _ _ _ _ _ => (pg_name (i := 11) sc_truths_along.nd rfl (.inl rfl))) (fun _ _ _ _ _ => pts_nil) (fun _ _ _ _ _ => (show PE _ _ (tDictZip K _ _) from pe_dictZip T.z_dict T.z_zip (pv 1) (pv 11))))
      (pss_cons (ps_set (i := 6) sc_truths_along.nd rfl (.inl rfl) (pe_lst pa_nil))
      (pss_cons (ps_for PassesOwn.never rfl (pi_list (pe_fld (pv 4) rfl)) (pg_tup rfl (pgs_cons (pg_name (i := 7) sc_truths_along.nd rfl (.inr rfl)) (pgs_cons (pg_name (i := 8) sc_truths_along.nd rfl (.inr rfl)) (pgs_cons (pg_name (i := 9) sc_truths_along.nd rfl (.inl rfl)) pgs_nil)))) (pss_one (ps_if (PW.pt (pw_or (pt_cmpR op_eq (pv 7) pe_str (nomark _)) (pw_or1 (pt_cmpR op_eq (pv 7) pe_str (nomark _))))) (pss_one (ps_expr (pe_bm PySem.F.plainAttrs_list PySem.F.slot_list_append PySem.F.type_list_append mt_append (pv 6) (pa_cons (pe_lc (own := [("_", 12)]) rfl sc_truths_along.nd (pi_list (pv 5)) (blkOk_by (own := [("_", 12)]) (N := nm_truths_along) (sc := defScope s_truths_along) (by decide +kernel)) (fun _ _ _ _ _ => (pg_name (i := 12) sc_truths_along.nd rfl (.inl rfl))) (fun _ _ _ _ _ => pts_nil) (fun _ _ _ _ _ => (pe_cmpR op_eq (pv 7) pe_str (nomark _)))) pa_nil)))) (pss_one (ps_if (pt_cmpR op_eq (pv 7) pe_str (nomark _)) (pss_one (ps_expr (pe_bm PySem.F.plainAttrs_list PySem.F.slot_list_append PySem.F.type_list_append mt_append (pv 6) (pa_cons (pe_lc (own := [("values", 13)]) rfl sc_truths_along.nd (pi_list (pv 5)) (blkOk_by (own := [("values", 13)]) (N := nm_truths_along) (sc := defScope s_truths_along) (by decide +kernel)) (fun _ _ _ _ _ => (pg_name (i := 13) sc_truths_along.nd rfl (.inl rfl))) (fun _ _ _ _ _ => pts_nil) (fun _ _ _ _ _ => (pc (ok_condition_truth T) (hr.mono (by omega)) T.g_condition_truth (pa_cons (pe_ix (show IxR _ (rIxL K) from ix_list) (show PE _ _ (tFld K _ "facts") from (pe_fld (pv 4) rfl)) (pv 8) (fun _ _ => rfl)) (pa_cons (pv 13) pa_nil))))) pa_nil)))) (pss_cons (ps_set (i := 10) sc_truths_along.nd rfl (.inl rfl) (pe_ifExp (pt_cmpR op_eq (pv 9) (pe_un un_neg pe_int) (nomark _)) (pv 8) (pv 9)))
      (pss_one (ps_expr (pe_bm PySem.F.plainAttrs_list PySem.F.slot_list_append PySem.F.type_list_append mt_append (pv 6) (pa_cons (pc (ok_row_truths T) (hr.mono (by omega)) T.g_row_truths (pa_cons (pv 7) (pa_cons (pe_ix ix_list (pv 6) (pv 8) (fun _ _ => rfl)) (pa_cons (pe_ix ix_list (pv 6) (pv 10) (fun _ _ => rfl)) (pa_cons (pe_callB call_len (by rfl) T.z_len (by decide +kernel) (pa_cons (pv 2) pa_nil)) pa_nil))))) pa_nil))))))))))
      (pss_one (ps_ret (pe_ix ix_list (pv 6) (pe_un un_neg pe_int) (fun _ _ => rfl))))))))), ?_⟩
  have P1 := put_ok f ([], []) Good.nil
  have hcond : ∀ c ∈ found f, c.ok = true ∧ c.dep ≤ 10 := fun c hc => ⟨(hw c hc).ok, by
    have z := hw c hc
    have z1 := z.dt
    have z2 := z.du
    simp only [Cm.dep]
    omega⟩
  have hrn : r.n ≤ 100 := hO.hn
  have hxl : (xs1 ++ xs2).length ≤ 100 := by rw [hO.len]; exact hrn
  refine ⟨_, rfl, _, rfl, f, v, an, ns, rfl, hD, hw, hdp, hnl, hN, fun H1 e1 => ?_⟩
  refine ⟨_, rfl, f, v, rfl, Dp.ex' hD e1, hdp, hsz, hcond, fun x dx ax lr t vf vr H2 e2 R2 => ?_⟩
  have e02 := e1.trans e2
  dsimp only [gName, tSeq, tAsg]
  refine tLcI (K := K) (xs := xs1 ++ xs2) (fun i y H' => ∃ d kvs, y = .ref d ∧ H' d = some (.dK kvs) ∧ ∀ x ∈ ns, valV kvs (.inr x : Key) = some (.int (r.env i x))) (fun Rr hRr => ?_) (fun i y Ha Hb e h => ?_) (by omega) (fun _ => rfl) (fun i y Ha hx e Q' hQ => ?_) fun Db H4 ys hDb e4 hB hyl hys => ?_
  · refine ⟨_, rfl, _, rfl, a1, a2, xs1, xs2, rfl, rfl, e02 _ _ h1, e02 _ _ h2, ?_, fun p hp => ⟨p, rfl, ⟨_, SqL.of upd_same⟩, hRr p _ (Evl.Ex.new hp) (SqL.of upd_same)⟩⟩
    rw [← List.length_append]
    exact Nat.le_trans hxl (by decide)
  · obtain ⟨d, kvs, z1, z2, z3⟩ := h
    exact ⟨d, kvs, z1, e _ _ z2 (fun l q => by cases q), z3⟩
  · obtain ⟨b, zs, rfl, z1, z2, z3⟩ := (hO.ex (e02.trans e)).st i y hx
    refine ⟨_, rfl, _, rfl, an, b, ns, zs.map V.int, rfl, rfl, Evl.ex_l (e02.trans e) hN, z1, by rw [List.length_map]; exact z2.len, hnd, hnl, fun d hd => hQ _ _ (Evl.Ex.new hd) ⟨d, _, rfl, upd_same, fun x hx => ?_⟩⟩
    rw [kvz_val zs z2.len hx, z3]
  have e04 := e02.trans e4
  have R4 := R2.ex e4
  have hyn : ys.length = r.n := by rw [hyl]; exact hO.len
  refine ⟨Nat.zero_le _, fun Dt hDt => ?_⟩
  have et : Ex H4 (upd H4 Dt (.lst [])) := Evl.Ex.new hDt
  have gd := P1.good
  obtain ⟨l0, hl0⟩ := put_last f
  have lenm : (putF f ([], [])).2.length ≤ f.size := by have z := P1.lenm; simpa using z
  have c13 : Cls K (gA K "Rows") := T.c_Rows
  refine ⟨_, rfl, _, _, _, _, _, rfl, et _ _ R4.ins, T.c_Rows, T.n_Rows_rows, rfl, lr, rfl, ⟨_, SqL.of (et _ _ R4.rows)⟩, for_it (walk_list (K := K) (a := lr) (xs := vr)) (fun j σ H' => Ex H4 H' ∧ ∃ (tb : List V) (x7 x8 x9 x10 : Option V), H' Dt = some (.lst tb) ∧ tb.length = j ∧ (∀ k m, k < j → (putF f ([], [])).2[k]? = some m → ∃ t, tb[k]? = some (V.ref t) ∧ t ≠ Dt ∧ H t = none ∧ H' t = some (.lst (bls r.n (ho r m)))) ∧
      σ = [some v, some (.ref an), some (.ref a1), some (.ref a2), some (.ref x), some (.ref Db), some (.ref Dt), x7, x8, x9, x10, none, none, none]) ⟨et, [], none, none, none, none, upd_same, rfl, fun k m h => by omega, rfl⟩ (fun i σ H' _ z => SqL.of (z.1 _ _ R4.rows)) ?_ ?_⟩
  · rintro j y σ H5 H6 hj ⟨e5, tb, x7, x8, x9, x10, hT, htl, hts, rfl⟩ ⟨rfl, hy⟩
    have hj2 : j < (putF f ([], [])).2.length := by
      have z := R4.rs.1
      rw [List.length_map] at z
      omega
    have hjz : j < 1000 := by omega
    obtain ⟨m, hm⟩ : ∃ m, (putF f ([], [])).2[j]? = some m := ⟨_, List.getElem?_eq_getElem hj2⟩
    have oka := gd.ok j m hm
    obtain ⟨pr, hpr, hpv⟩ := R4.rs.2 j (row (putF f ([], [])).1 (putF f ([], [])).2 m) (by rw [List.getElem?_map, hm]; rfl)
    rw [hpr] at hy
    obtain rfl := Option.some.inj hy
    refine ⟨pr, _, rfl, SqT.of (e5 _ _ hpv), rfl, _, _, rfl, _, _, rfl, _, _, rfl, rfl, ?_⟩
    have e6 : Ex H H6 := e04.trans e5
    have hBi : SqL K H6 Db ys := SqL.of (e5 _ _ hB)
    have lfm := lf (putF f ([], [])).1 (putF f ([], [])).2 m
    have fin : ∀ (σ8 : L2.St) (z10 : Option V) (D : Addr) (H7 : Hp), H6 D = none → Ex H6 H7 → H7 D = some (.lst (bls r.n (ho r m))) → σ8 = [some v, some (.ref an), some (.ref a1), some (.ref a2), some (.ref x), some (.ref Db), some (.ref Dt), some (V.str m.rg.s), some (V.int (lf (putF f ([], [])).1 (putF f ([], [])).2 m)), some (V.int (rt (putF f ([], [])).2 m)), z10, none, none, none] →
        rAppend (.ref Dt) [.ref D] H7 fun _ H8 => Ex H4 H8 ∧ ∃ (tb : List V) (x7 x8 x9 x10 : Option V), H8 Dt = some (.lst tb) ∧ tb.length = j + 1 ∧ (∀ k m, k < j + 1 → (putF f ([], [])).2[k]? = some m → ∃ t, tb[k]? = some (V.ref t) ∧ t ≠ Dt ∧ H t = none ∧ H8 t = some (.lst (bls r.n (ho r m)))) ∧
          σ8 = [some v, some (.ref an), some (.ref a1), some (.ref a2), some (.ref x), some (.ref Db), some (.ref Dt), x7, x8, x9, x10, none, none, none] := by
      intro σ8 z10 D H7 hD7 e7 hB7 hσ
      have hT7 := e7 _ _ hT
      have nD : D ≠ Dt := fun e => by rw [e, hT] at hD7; cases hD7
      refine ⟨Dt, tb, .ref D, rfl, rfl, hT7, Evl.sz_lt (by omega), Evl.Ex.mut (e5.trans e7) hDt, tb ++ [.ref D], _, _, _, _, upd_same, by rw [List.length_append, List.length_singleton]; omega, fun k m' hk hm' => ?_, hσ⟩
      by_cases hkj : k < j
      · obtain ⟨t, z1, z2, z4, z3⟩ := hts k m' hkj hm'
        exact ⟨t, by rw [List.getElem?_append_left (by omega)]; exact z1, z2, z4, by rw [upd_ne z2]; exact e7 _ _ z3⟩
      · have ek : k = j := by omega
        subst ek
        rw [hm] at hm'
        obtain rfl := Option.some.inj hm'
        exact ⟨D, by rw [List.getElem?_append_right (by omega), htl, Nat.sub_self]; rfl, nD, none_back e6 hD7, by rw [upd_ne nD]; exact hB7⟩
    have tr : ∀ (a b : RG), decide (V.str a.s = V.str b.s) = decide (a = b) := vsR
    have part : ∀ g, g ∈ (putF f ([], [])).2 → ix (putF f ([], [])).2 g < j → ∃ t, atI tb ((ix (putF f ([], [])).2 g : Nat) : Int) = some (V.ref t) ∧ SqL K H6 t (bls r.n (ho r g)) := fun g hg hlt => by
      obtain ⟨t, z1, _, _, z3⟩ := hts _ g hlt (ix_get hg)
      exact ⟨t, atI_nat z1, SqL.of z3⟩
    have hy1000 : ys.length ≤ 1000 := by omega
    have blq : ∀ (z10 : Option V) (F : Nat → Bool), (∀ k, k < r.n → F k = ho r m k) → RetB r.n F H6 fun u H7 => (fun vs H7 => rAppend (.ref Dt) vs H7 fun _ H8 => Ex H4 H8 ∧ ∃ (tb : List V) (x7 x8 x9 x10 : Option V), H8 Dt = some (.lst tb) ∧ tb.length = j + 1 ∧ (∀ k m, k < j + 1 → (putF f ([], [])).2[k]? = some m → ∃ t, tb[k]? = some (V.ref t) ∧ t ≠ Dt ∧ H t = none ∧ H8 t = some (.lst (bls r.n (ho r m)))) ∧
          [some v, some (.ref an), some (.ref a1), some (.ref a2), some (.ref x), some (.ref Db), some (.ref Dt), some (V.str m.rg.s), some (V.int (lf (putF f ([], [])).1 (putF f ([], [])).2 m)), some (V.int (rt (putF f ([], [])).2 m)), z10, none, none, none] = [some v, some (.ref an), some (.ref a1), some (.ref a2), some (.ref x), some (.ref Db), some (.ref Dt), x7, x8, x9, x10, none, none, none]) [u] H7 := by
      intro z10 F hF D H7 hD7 e7 hB7
      exact fin _ z10 D H7 hD7 e7 (by rw [hB7, bls_congr hF]) rfl
    cases m with
    | tt =>
      refine ⟨_, rfl, rfl, _, rfl, ?_⟩
      rw [show decide (V.str (row (putF f ([], [])).1 (putF f ([], [])).2 .tt).1 = V.str "true") = true from (tr .tt .tt).trans rfl]
      refine iteT ⟨_, rfl, .inl ⟨rfl, _, SqL.of hT⟩, ?_⟩
      refine tLstB (fun _ => true) rfl hBi hy1000 (fun _ => rfl) (fun i x H' hx e Q' hQ => ⟨_, rfl, rfl, hQ _ _ (Evl.Ex.refl _) (congrArg V.bl ((tr .tt .tt).trans rfl))⟩) ?_
      rw [hyn]
      exact blq x10 _ fun k hk => rfl
    | ff =>
      refine ⟨_, rfl, rfl, _, rfl, ?_⟩
      rw [show decide (V.str (row (putF f ([], [])).1 (putF f ([], [])).2 .ff).1 = V.str "true") = false from (tr .ff .tt).trans rfl]
      refine iteF ⟨_, rfl, rfl, _, rfl, ?_⟩
      rw [show decide (V.str (row (putF f ([], [])).1 (putF f ([], [])).2 .ff).1 = V.str "false") = true from (tr .ff .ff).trans rfl]
      refine iteT ⟨_, rfl, .inl ⟨rfl, _, SqL.of hT⟩, ?_⟩
      refine tLstB (fun _ => false) rfl hBi hy1000 (fun _ => rfl) (fun i x H' hx e Q' hQ => ⟨_, rfl, rfl, hQ _ _ (Evl.Ex.refl _) (congrArg V.bl ((tr .ff .tt).trans rfl))⟩) ?_
      rw [hyn]
      exact blq x10 _ fun k hk => rfl
    | cmp c =>
      refine ⟨_, rfl, rfl, _, rfl, ?_⟩
      rw [show decide (V.str (row (putF f ([], [])).1 (putF f ([], [])).2 (.cmp c)).1 = V.str "true") = false from (tr .fact .tt).trans rfl]
      refine iteF ⟨_, rfl, rfl, _, rfl, ?_⟩
      rw [show decide (V.str (row (putF f ([], [])).1 (putF f ([], [])).2 (.cmp c)).1 = V.str "false") = false from (tr .fact .ff).trans rfl]
      refine iteF ⟨_, rfl, rfl, _, rfl, ?_⟩
      rw [show decide (V.str (row (putF f ([], [])).1 (putF f ([], [])).2 (.cmp c)).1 = V.str "fact") = true from (tr .fact .fact).trans rfl]
      refine iteT ⟨_, rfl, .inl ⟨rfl, _, SqL.of hT⟩, ?_⟩
      have hc : c ∈ (putF f ([], [])).1 := oka
      have hcw : c.wf ns := (P1.sub c hc).elim (fun z => by simp at z) fun z => hw c z
      refine tLstB (fun k => c.val (r.env k)) rfl hBi hy1000 (fun _ => rfl) (fun i y H' hy e Q' hQ => ?_) ?_
      · obtain ⟨d, kvs, rfl, z2, z3⟩ := hys i y hy
        have hi : i < r.n := by
          have z := (List.getElem?_eq_some_iff.mp hy).1
          omega
        have eH := e5.trans e
        have hvf : vf.length = (putF f ([], [])).1.length := by rw [dpa_len R4.fs, List.length_map]
        have hlt : ix (putF f ([], [])).1 c < vf.length := by rw [hvf]; exact ix_lt hc
        obtain ⟨d2, w1, w2⟩ := dpa_get R4.fs (List.getElem?_eq_getElem hlt)
        rw [List.getElem?_map, ix_get hc] at w1
        obtain rfl := Option.some.inj w1
        have big : ∀ x ∈ ns, -(2 ^ 63) < r.env i x ∧ r.env i x < 2 ^ 63 := fun x hx => by
          have hi2 : i < (xs1 ++ xs2).length := by rw [hO.len]; exact hi
          obtain ⟨b, zs, _, _, w3, w4⟩ := hO.st i _ (List.getElem?_eq_getElem hi2)
          rw [w4]
          exact envOf_big w3 hx
        refine ⟨_, rfl, _, _, _, _, _, rfl, eH _ _ R4.ins, T.c_Rows, T.n_Rows_facts, rfl, _, rfl, ax, vf, _, _, rfl, rfl, SqL.of (eH _ _ R4.facts), atI_nat (List.getElem?_eq_getElem hlt), _, rfl, c, _, d, kvs, r.env i, ns, rfl, Dp.ex' w2 eH, hcw, big, eH _ _ z2, z3, hQ _ _ (Evl.Ex.refl _) rfl⟩
      rw [hyn]
      exact blq x10 _ fun k hk => rfl
    | un o g =>
      obtain ⟨hg, hlt⟩ := oka
      obtain ⟨tg, w1, w2⟩ := part g hg hlt
      refine ⟨_, rfl, rfl, _, rfl, ?_⟩
      rw [show decide (V.str (row (putF f ([], [])).1 (putF f ([], [])).2 (.un o g)).1 = V.str "true") = false from (tr (.u o) .tt).trans rfl]
      refine iteF ⟨_, rfl, rfl, _, rfl, ?_⟩
      rw [show decide (V.str (row (putF f ([], [])).1 (putF f ([], [])).2 (.un o g)).1 = V.str "false") = false from (tr (.u o) .ff).trans rfl]
      refine iteF ⟨_, rfl, rfl, _, rfl, ?_⟩
      rw [show decide (V.str (row (putF f ([], [])).1 (putF f ([], [])).2 (.un o g)).1 = V.str "fact") = false from (tr (.u o) .fact).trans rfl]
      refine iteF ⟨_, rfl, _, rfl, rfl, _, rfl, iteT ⟨_, rfl, ?_⟩⟩
      refine ⟨_, rfl, .inl ⟨rfl, _, SqL.of hT⟩, _, rfl, _, rfl, _, rfl, Dt, tb, _, _, rfl, rfl, SqL.of hT, w1, _, rfl, _, rfl, Dt, tb, _, _, rfl, rfl, SqL.of hT, w1, _, rfl, _, r.back, rfl, .inl ⟨_, SqL.of (e6 _ _ h1), hback⟩, ⟨.u o, tg, tg, r.n, r.back, ho r g, ho r g, rfl, hO.hb, by omega, w2, w2, ?_⟩⟩
      exact blq _ _ fun k hk => rowG_u r hO.hb o _ hk
    | bin o g g2 =>
      obtain ⟨⟨hg, hlt⟩, hg2, hlt2⟩ := oka
      obtain ⟨tg, w1, w2⟩ := part g hg hlt
      obtain ⟨tg2, w3, w4⟩ := part g2 hg2 hlt2
      refine ⟨_, rfl, rfl, _, rfl, ?_⟩
      rw [show decide (V.str (row (putF f ([], [])).1 (putF f ([], [])).2 (.bin o g g2)).1 = V.str "true") = false from (tr (.b o) .tt).trans rfl]
      refine iteF ⟨_, rfl, rfl, _, rfl, ?_⟩
      rw [show decide (V.str (row (putF f ([], [])).1 (putF f ([], [])).2 (.bin o g g2)).1 = V.str "false") = false from (tr (.b o) .ff).trans rfl]
      refine iteF ⟨_, rfl, rfl, _, rfl, ?_⟩
      rw [show decide (V.str (row (putF f ([], [])).1 (putF f ([], [])).2 (.bin o g g2)).1 = V.str "fact") = false from (tr (.b o) .fact).trans rfl]
      have ne1 : decide (V.int (rt (putF f ([], [])).2 (.bin o g g2)) = V.int (-1)) = false := decide_eq_false fun e => by
        have z : ((ix (putF f ([], [])).2 g2 : Nat) : Int) = -1 := V.int.inj e
        omega
      refine iteF ⟨_, rfl, _, rfl, rfl, _, rfl, ?_⟩
      show if decide (V.int (rt (putF f ([], [])).2 (.bin o g g2)) = V.int (-1)) = true then _ else _
      rw [ne1]
      refine iteF ⟨_, rfl, ?_⟩
      refine ⟨_, rfl, .inl ⟨rfl, _, SqL.of hT⟩, _, rfl, _, rfl, _, rfl, Dt, tb, _, _, rfl, rfl, SqL.of hT, w1, _, rfl, _, rfl, Dt, tb, _, _, rfl, rfl, SqL.of hT, w3, _, rfl, _, r.back, rfl, .inl ⟨_, SqL.of (e6 _ _ h1), hback⟩, ⟨.b o, tg, tg2, r.n, r.back, ho r g, ho r g2, rfl, hO.hb, by omega, w2, w4, ?_⟩⟩
      exact blq _ _ fun k hk => rowG_b r hO.hb o _ _ hk
  · rintro σ H5 ⟨e5, tb, x7, x8, x9, x10, hT, htl, hts, rfl⟩
    have hvl : vr.length = l0.length + 1 := by
      have z := R4.rs.1
      rw [List.length_map, hl0, List.length_append, List.length_singleton] at z
      exact z
    obtain ⟨t, z1, z2, z4, z3⟩ := hts l0.length f (by omega) (by rw [hl0, List.getElem?_append_right (Nat.le_refl _), Nat.sub_self]; rfl)
    have at1 : atI tb (-1) = some (V.ref t) := by
      unfold atI ixN
      rw [if_neg (by decide), if_pos (by omega)]
      show tb[((-1 : Int) + tb.length).toNat]? = _
      rw [show ((-1 : Int) + tb.length).toNat = l0.length by omega]
      exact z1
    refine ⟨_, rfl, _, rfl, Dt, _, _, _, rfl, rfl, SqL.of hT, at1, q t _ z4 (e04.trans e5) z3⟩
end
end W16
set_option Elab.async false
set_option linter.all false
set_option maxRecDepth 100000
set_option maxHeartbeats 4000000
namespace W16
open PySem PySem.Spec PyProof.Rows L2
open Evl (Ex)
def zeros : Nat → Str
  | 0 => ""
  | 1 => "0"
  | _ => "00"
def rMulZ : R2 := fun x y H Q => ∃ k : Nat, x = .str "0" ∧ y = .int k ∧ k < 3 ∧ Q (.str (zeros k)) H
theorem op_mulS {X : Cx} : OpR X (binaryOp .Mult) rMulZ := by
  intro pins s σ H x y v u Q I rx ry h
  obtain ⟨k, rfl, rfl, hk, q⟩ := h
  obtain ⟨t, rfl⟩ := rx
  obtain ⟨t', rfl⟩ := ry
  match k, hk, q with
  | 0, _, q => exact PySem.P.mul_str (by decide) (fun h => absurd (by decide) h) (fun h => absurd (by decide) h) ⟨by decide, ⟨.str "", H, I.tok _, ⟨_, rfl⟩, q⟩⟩
  | 1, _, q => exact PySem.P.mul_str (by decide) (fun _ h => absurd h (by decide)) (fun _ h => absurd h (by decide)) ⟨.str "0", H, I, ⟨_, rfl⟩, q⟩
  | 2, _, q => exact PySem.P.mul_str (by decide) (fun _ _ => by decide) (fun _ _ => by decide) ⟨by decide, ⟨.str "00", H, I.tok _, ⟨_, rfl⟩, q⟩⟩
def spCell (K : PySem.W.Frag) : Sp := fun vs H Q _ => ∃ (a : Addr) (ns : List Int) (k : Int), vs = [.ref a, .int k] ∧ 0 ≤ k ∧ SqL K H a (ns.map V.int) ∧ ∀ z : Int, Q (.int z) H
def RetI (n : Nat) (lo hi : Int) (H : Hp) (Q : VK) : Prop := ∀ (D : Addr) (H' : Hp) (ds : List Int), H D = none → Ex H H' → H' D = some (.lst (ds.map V.int)) → ds.length = n → (∀ d ∈ ds, lo ≤ d ∧ d < hi) → Q (.ref D) H'
def spDraws (K : PySem.W.Frag) : Sp := fun vs H Q _ => ∃ (a : Addr) (ns : List Int) (k : Int) (n : Nat), vs = [.ref a, .int k, .int n] ∧ 0 ≤ k ∧ k < 63 ∧ n ≤ 1000 ∧ SqL K H a (ns.map V.int) ∧ RetI n 0 1000 H Q
section
variable {P : Program} {w : World} {K : PySem.W.Frag} {mg : Str → Option Value} {base : Heap}
abbrev nm_qcell : List Str := ["_law_script", "_law_k"]
theorem sc_qcell : FnScope nm_qcell ["_law_script", "_law_k"] (defScope s_qcell) := ⟨rfl, rfl, rfl, by decide +kernel, rfl, by decide +kernel, by decide +kernel⟩
theorem ok__law_cell (T : T16 K w mg) : Ok P w K mg base 1 (gA K "_law_cell") ["_law_script", "_law_k"] (spCell K) := by
  refine mkOk T.F__law_cell sc_qcell (fun _ _ _ _ _ _ us hl => match us, hl with | [_, _], _ => rfl) (fun vs H Q E h => ?_) fun cdv A outer s H vs Q E hr h => ?_
  · obtain ⟨a, ns, k, rfl, _⟩ := h
    rfl
  obtain ⟨a, ns, k, rfl, hk, hS, q⟩ := h
  refine ⟨_, (pss_cons (ps_if (pt_cmpR op_lt (pv 1) (pe_callB call_len (by rfl) T.z_len (by decide +kernel) (pa_cons (pv 0) pa_nil)) (nomark _)) (pss_one (ps_ret (pe_ix ix_list (pv 0) (pv 1) (fun _ _ => rfl)))) pss_nil)
      (pss_one (ps_ret pe_int))), ?_⟩
  refine ⟨_, rfl, _, rfl, _, ns.length, rfl, .inl ⟨_, hS, by rw [List.length_map]⟩, _, _, rfl, rfl, _, rfl, ite2 (fun c => ?_) (fun c => ?_)⟩
  · have c' : k < (ns.length : Int) := of_decide_eq_true c
    have ek : ((k.toNat : Nat) : Int) = k := by omega
    have hlt : k.toNat < ns.length := by omega
    have h1 : (ns.map V.int)[k.toNat]? = some (.int ns[k.toNat]) := by rw [List.getElem?_map, List.getElem?_eq_getElem hlt]; rfl
    have h2 := atI_nat h1
    rw [ek] at h2
    exact ⟨_, rfl, _, rfl, a, _, _, _, rfl, rfl, hS, h2, q _⟩
  · exact q _
abbrev nm_qdraws : List Str := ["_law_script", "_law_first", "_law_count", "_law_cell_here", "_law_rest", "_law_draws_here", "_law_k", "_law_other", "_law_mixed"]
theorem sc_qdraws : FnScope nm_qdraws ["_law_script", "_law_first", "_law_count"] (defScope s_qdraws) := ⟨rfl, rfl, rfl, by decide +kernel, rfl, by decide +kernel, by decide +kernel⟩
theorem ok__law_draws (T : T16 K w mg) : Ok P w K mg base 2 (gA K "_law_draws") ["_law_script", "_law_first", "_law_count"] (spDraws K) := by
  refine mkOk T.F__law_draws sc_qdraws (fun _ _ _ _ _ _ us hl => match us, hl with | [_, _, _], _ => rfl) (fun vs H Q E h => ?_) fun cdv A outer s H vs Q E hr h => ?_
  · obtain ⟨a, ns, k, n, rfl, _⟩ := h
    rfl
  obtain ⟨a, ns, k, n, rfl, hk, hk2, hn, hS, q⟩ := h
  refine ⟨_, (pss_cons (ps_set (i := 3) sc_qdraws.nd rfl (.inl rfl) (pc (ok__law_cell T) (hr.mono (by omega)) T.g__law_cell (pa_cons (pv 0) (pa_cons (pv 1) pa_nil))))
      (pss_cons (ps_set (i := 4) sc_qdraws.nd rfl (.inl rfl) pe_int)
      (pss_cons (ps_if (pt_cmpR op_ge (pv 3) (pe_op op_pow pe_int pe_int) (nomark _)) (pss_one (ps_set (i := 4) sc_qdraws.nd rfl (.inl rfl) (pe_op op_sub (pv 3) (pe_op op_pow pe_int pe_int)))) pss_nil)
      (pss_cons (ps_set (i := 5) sc_qdraws.nd rfl (.inl rfl) (pe_lst pa_nil))
      (pss_cons (ps_for PassesOwn.never rfl (pi_range1 (by rfl) T.z_range (pa_cons (pv 2) pa_nil)) (pg_name (i := 6) sc_qdraws.nd rfl (.inl rfl)) (pss_one (ps_if (pt_cmpR op_gt (pv 4) pe_int (nomark _)) (pss_cons (ps_expr (pe_bm PySem.F.plainAttrs_list PySem.F.slot_list_append PySem.F.type_list_append mt_append (pv 5) (pa_cons (pe_op op_mod (pe_callTy call_int1 (by rfl) T.z_int (by decide +kernel) (pa_cons (pv 4) pa_nil)) pe_int) pa_nil)))
      (pss_one (ps_set (i := 4) sc_qdraws.nd rfl (.inl rfl) (pe_op op_fdiv (pv 4) pe_int)))) (pss_cons (ps_set (i := 7) sc_qdraws.nd rfl (.inl rfl) (pc (ok__law_cell T) (hr.mono (by omega)) T.g__law_cell (pa_cons (pv 0) (pa_cons (pe_op op_mod (pe_callTy call_int1 (by rfl) T.z_int (by decide +kernel) (pa_cons (pe_op op_add (pe_op op_mul (pv 6) pe_int) (pv 1)) pa_nil)) pe_int) pa_nil))))
      (pss_cons (ps_set (i := 8) sc_qdraws.nd rfl (.inl rfl) (pe_op op_mod (pe_callTy call_int1 (by rfl) T.z_int (by decide +kernel) (pa_cons (pe_op op_add (pe_op op_add (pe_op op_mul (pv 3) pe_int) (pe_op op_mul (pv 7) pe_int)) (pe_op op_mul (pe_op op_add (pv 6) pe_int) pe_int)) pa_nil)) pe_int))
      (pss_one (ps_expr (pe_bm PySem.F.plainAttrs_list PySem.F.slot_list_append PySem.F.type_list_append mt_append (pv 5) (pa_cons (pe_op op_mod (pe_op op_fdiv (pe_op op_mod (pe_callTy call_int1 (by rfl) T.z_int (by decide +kernel) (pa_cons (pe_op op_add (pe_op op_mul (pv 8) (pv 8)) (pe_op op_mul (pv 6) pe_int)) pa_nil)) pe_int) pe_int) pe_int) pa_nil)))))))))
      (pss_one (ps_ret (pv 5)))))))), ?_⟩
  refine ⟨_, rfl, _, rfl, a, ns, k, rfl, hk, hS, fun c => ?_⟩
  refine ⟨_, rfl, _, _, rfl, rfl, ⟨by decide, by decide, by decide⟩, _, _, rfl, rfl, _, rfl, ?_⟩
  have em : ∀ (x : Int), 0 ≤ x % 1000 ∧ x % 1000 < 1000 := fun x => by omega
  have app : ∀ {H' : Hp} {D : Addr} {ds : List Int} {i : Nat} (z : Int), Ex H H' → H D = none → H' D = some (.lst (ds.map V.int)) → ds.length = i → i < n → (∀ d ∈ ds, 0 ≤ d ∧ d < 1000) → ∀ {N : Hp → Prop}, (∀ H8 (es : List Int), Ex H H8 → H8 D = some (.lst (es.map V.int)) → es.length = i + 1 → (∀ d ∈ es, 0 ≤ d ∧ d < 1000) → N H8) → rAppend (.ref D) [.int (z % 1000)] H' fun _ H8 => N H8 := by
    intro H' D ds i z e hD hB hl hi hds N hN
    refine ⟨D, _, _, rfl, rfl, hB, by rw [List.length_map]; exact Evl.sz_lt (by omega), hN _ (ds ++ [z % 1000]) (Evl.Ex.mut e hD) ?_ (by rw [List.length_append, List.length_singleton]; omega) fun d hd => ?_⟩
    · rw [upd_same, List.map_append]; rfl
    · rcases List.mem_append.mp hd with h | h
      · exact hds d h
      · rw [List.mem_singleton.mp h]; exact em z
  refine ite2 (fun c1 => ⟨_, rfl, _, _, rfl, rfl, ⟨by decide, by decide, by decide⟩, _, _, rfl, rfl, ?_⟩) (fun c1 => nxt ?_)
  all_goals
    refine ⟨Nat.zero_le _, fun D hD => ?_⟩
    refine ⟨_, rfl, (n : Int), rfl, by omega, by omega, for_range (lo := 0) (n := n) (fun i σ H' => Ex H H' ∧ ∃ (z : Int) (ds : List Int) (x6 x7 x8 : Option V), H' D = some (.lst (ds.map V.int)) ∧ ds.length = i ∧ (∀ d ∈ ds, 0 ≤ d ∧ d < 1000) ∧ σ = [some (.ref a), some (.int k), some (.int n), some (.int c), some (.int z), some (.ref D), x6, x7, x8]) ⟨Evl.Ex.new hD, _, [], none, none, none, upd_same, rfl, (fun d hd => by simp at hd), rfl⟩ ?_ ?_⟩
    · rintro i σ H' hi ⟨e, z, ds, x6, x7, x8, hB, hl, hds, rfl⟩
      rw [Int.zero_add]
      refine ⟨_, rfl, _, _, rfl, rfl, _, rfl, ite2 (fun c2 => ?_) (fun c2 => ?_)⟩
      · refine ⟨_, rfl, .inl ⟨rfl, _, SqL.of hB⟩, _, rfl, .inl ⟨_, rfl, _, _, rfl, rfl, (by show (0 : Int) < _; decide), app z e hD hB hl hi hds fun H8 es e8 h1 h2 h3 => ?_⟩⟩
        exact ⟨_, rfl, _, _, rfl, rfl, ⟨by decide, by decide⟩, e8, _, es, _, _, _, h1, h2, h3, rfl⟩
      · refine ⟨_, rfl, _, rfl, _, _, rfl, rfl, .inr ⟨by decide, by decide⟩, _, rfl, _, _, rfl, rfl, .inl ⟨_, rfl, _, _, rfl, rfl, (by show (0 : Int) < _; decide), a, ns, _, rfl, by omega, Evl.ex_l e hS, fun c3 => ?_⟩⟩
        refine ⟨_, rfl, _, _, rfl, rfl, .inr ⟨by decide, by decide⟩, _, rfl, _, _, rfl, rfl, .inr ⟨by decide, by decide⟩, _, _, rfl, rfl, _, rfl, _, _, rfl, rfl, _, _, rfl, rfl, .inr ⟨by decide, by decide⟩, _, _, rfl, rfl, .inl ⟨_, rfl, _, _, rfl, rfl, (by show (0 : Int) < _; decide), ?_⟩⟩
        refine ⟨_, rfl, .inl ⟨rfl, _, SqL.of hB⟩, _, rfl, _, rfl, _, _, rfl, rfl, .inl ⟨by omega, by omega⟩, _, rfl, _, _, rfl, rfl, .inr ⟨by decide, by decide⟩, _, _, rfl, rfl, .inl ⟨_, rfl, _, _, rfl, rfl, (by show (0 : Int) < _; decide), _, _, rfl, rfl, ⟨by decide, by decide⟩, _, _, rfl, rfl, (by show (0 : Int) < _; decide), app _ e hD hB hl hi hds fun H8 es e8 h1 h2 h3 => ?_⟩⟩
        exact ⟨e8, _, es, _, _, _, h1, h2, h3, rfl⟩
    · rintro σ H' ⟨e, z, ds, x6, x7, x8, hB, hl, hds, rfl⟩
      exact ⟨_, rfl, q D H' ds hD e hB hl hds⟩
def spMany : Sp := fun vs H Q _ => ∃ (c : Int), vs = [.int c] ∧ ∀ n : Nat, 1 ≤ n → n ≤ 24 → Q (.int n) H
abbrev nm_qmany : List Str := ["_law_cell_here"]
theorem sc_qmany : FnScope nm_qmany ["_law_cell_here"] (defScope s_qmany) := ⟨rfl, rfl, rfl, by decide +kernel, rfl, by decide +kernel, by decide +kernel⟩
theorem ok__law_many (T : T16 K w mg) : Ok P w K mg base 1 (gA K "_law_many") ["_law_cell_here"] spMany := by
  refine mkOk T.F__law_many sc_qmany (fun _ _ _ _ _ _ us hl => match us, hl with | [_], _ => rfl) (fun vs H Q E h => ?_) fun cdv A outer s H vs Q E hr h => ?_
  · obtain ⟨c, rfl, _⟩ := h
    rfl
  obtain ⟨c, rfl, q⟩ := h
  have q' : ∀ z : Int, 1 ≤ z → z ≤ 24 → Q (.int z) H := fun z h1 h2 => by
    have h := q z.toNat (by omega) (by omega)
    rwa [show ((z.toNat : Nat) : Int) = z by omega] at h
  refine ⟨_, (pss_cons (ps_if (pt_cmpR op_eq (pe_op op_mod (pe_op op_fdiv (pe_callTy call_int1 (by rfl) T.z_int (by decide +kernel) (pa_cons (pv 0) pa_nil)) pe_int) pe_int) pe_int (nomark _)) (pss_one (ps_ret (pe_op op_add pe_int (pe_op op_mod (pe_op op_fdiv (pe_callTy call_int1 (by rfl) T.z_int (by decide +kernel) (pa_cons (pv 0) pa_nil)) pe_int) pe_int)))) pss_nil)
      (pss_one (ps_ret (pe_op op_add pe_int (pe_op op_mod (pe_callTy call_int1 (by rfl) T.z_int (by decide +kernel) (pa_cons (pv 0) pa_nil)) pe_int))))), ?_⟩
  refine ⟨_, rfl, .inl ⟨_, rfl, _, _, rfl, rfl, ⟨by decide, by decide⟩, _, _, rfl, rfl, (by show (0 : Int) < _; decide), rfl, _, rfl, ite2 (fun c1 => ?_) (fun c1 => ?_)⟩⟩
  · exact ⟨_, rfl, .inl ⟨_, rfl, _, _, rfl, rfl, ⟨by decide, by decide⟩, _, _, rfl, rfl, (by show (0 : Int) < _; decide), _, _, rfl, rfl, q' _ (by omega) (by omega)⟩⟩
  · exact ⟨_, rfl, .inl ⟨_, rfl, _, _, rfl, rfl, (by show (0 : Int) < _; decide), _, _, rfl, rfl, q' _ (by omega) (by omega)⟩⟩
def spLens : Sp := fun vs H Q _ => ∃ (c : Int), vs = [.int c] ∧ ∀ (a b : Nat) (D : Addr) (H' : Hp), a ≤ 9 → 1 ≤ b → b ≤ 9 → H D = none → Ex H H' → H' D = some (.lst [.int a, .int b]) → Q (.ref D) H'
abbrev nm_qlengths : List Str := ["_law_cell_here"]
theorem sc_qlengths : FnScope nm_qlengths ["_law_cell_here"] (defScope s_qlengths) := ⟨rfl, rfl, rfl, by decide +kernel, rfl, by decide +kernel, by decide +kernel⟩
theorem ok__law_lengths (T : T16 K w mg) : Ok P w K mg base 1 (gA K "_law_lengths") ["_law_cell_here"] spLens := by
  refine mkOk T.F__law_lengths sc_qlengths (fun _ _ _ _ _ _ us hl => match us, hl with | [_], _ => rfl) (fun vs H Q E h => ?_) fun cdv A outer s H vs Q E hr h => ?_
  · obtain ⟨c, rfl, _⟩ := h
    rfl
  obtain ⟨c, rfl, q⟩ := h
  have q' : ∀ (y z : Int) (D : Addr), 0 ≤ y → y ≤ 9 → 1 ≤ z → z ≤ 9 → H D = none → Q (.ref D) (upd H D (.lst [.int y, .int z])) := fun y z D h1 h2 h3 h4 hD => by
    refine q y.toNat z.toNat D _ (by omega) (by omega) (by omega) hD (Evl.Ex.new hD) ?_
    rw [upd_same, show ((y.toNat : Nat) : Int) = y by omega, show ((z.toNat : Nat) : Int) = z by omega]
  refine ⟨_, (pss_cons (ps_if (pt_cmpR op_eq (pe_op op_mod (pe_op op_fdiv (pe_callTy call_int1 (by rfl) T.z_int (by decide +kernel) (pa_cons (pv 0) pa_nil)) pe_int) pe_int) pe_int (nomark _)) (pss_one (ps_ret (pe_lst (pa_cons (pe_op op_mod (pe_op op_fdiv (pe_callTy call_int1 (by rfl) T.z_int (by decide +kernel) (pa_cons (pv 0) pa_nil)) pe_int) pe_int) (pa_cons (pe_op op_add pe_int (pe_op op_mod (pe_op op_fdiv (pe_callTy call_int1 (by rfl) T.z_int (by decide +kernel) (pa_cons (pv 0) pa_nil)) pe_int) pe_int)) pa_nil))))) pss_nil)
      (pss_one (ps_ret (pe_lst (pa_cons (pe_op op_mod (pe_callTy call_int1 (by rfl) T.z_int (by decide +kernel) (pa_cons (pv 0) pa_nil)) pe_int) (pa_cons (pe_op op_add pe_int (pe_op op_mod (pe_op op_fdiv (pe_callTy call_int1 (by rfl) T.z_int (by decide +kernel) (pa_cons (pv 0) pa_nil)) pe_int) pe_int)) pa_nil)))))), ?_⟩
  refine ⟨_, rfl, .inl ⟨_, rfl, _, _, rfl, rfl, ⟨by decide, by decide⟩, _, _, rfl, rfl, (by show (0 : Int) < _; decide), rfl, _, rfl, ite2 (fun c1 => ?_) (fun c1 => ?_)⟩⟩
  · exact ⟨_, rfl, .inl ⟨_, rfl, _, _, rfl, rfl, ⟨by decide, by decide⟩, _, _, rfl, rfl, (by show (0 : Int) < _; decide), _, rfl, .inl ⟨_, rfl, _, _, rfl, rfl, ⟨by decide, by decide⟩, _, _, rfl, rfl, (by show (0 : Int) < _; decide), _, _, rfl, rfl, (by show 2 ≤ sizeLine; decide), fun D hD => q' _ _ D (by omega) (by omega) (by omega) (by omega) hD⟩⟩⟩
  · exact ⟨_, rfl, .inl ⟨_, rfl, _, _, rfl, rfl, (by show (0 : Int) < _; decide), _, rfl, .inl ⟨_, rfl, _, _, rfl, rfl, ⟨by decide, by decide⟩, _, _, rfl, rfl, (by show (0 : Int) < _; decide), _, _, rfl, rfl, (by show 2 ≤ sizeLine; decide), fun D hD => q' _ _ D (by omega) (by omega) (by omega) (by omega) hD⟩⟩⟩
end
end W16
set_option Elab.async false
set_option linter.all false
set_option maxRecDepth 100000
set_option maxHeartbeats 4000000
namespace W16
open PySem PySem.Spec PyProof.Rows L2
open PySem.PyData (strOk)
open Evl (Ex)
def lets : Str := "abcdefghijklmnopqrstuvwxyz"
def chS (s : Str) (i : Nat) : Str := ⟨#[(s.cps.toList[i]?).getD 0]⟩
def nmS (l : Str) (st : Nat) (k : Nat) : Str := if st = 0 then l ++ zeros k else if st = 1 then l ++ "_" ++ chS "zyxw" k else if st = 2 then chS "dcba" k ++ l ++ "7" else l ++ "Q" ++ chS "DBCA" k
theorem nm_ok : ∀ (c : Fin 26) (st : Fin 4) (m : Fin 4), ((List.range m.val).map (nmS (chS lets c.val) st.val)).Nodup ∧ ∀ k : Fin 3, strOk (nmS (chS lets c.val) st.val k.val) = true := by decide +kernel
theorem nm_len : ∀ (c : Fin 26) (k : Fin 3), (chS lets c.val).length + (zeros k.val).length ≤ sizeLine ∧ (chS lets c.val).length + Str.length "_" ≤ sizeLine ∧ (chS lets c.val ++ "_").length + (chS "zyxw" k.val).length ≤ sizeLine ∧ (chS "dcba" k.val).length + (chS lets c.val).length ≤ sizeLine ∧ (chS "dcba" k.val ++ chS lets c.val).length + Str.length "7" ≤ sizeLine ∧
  (chS lets c.val).length + Str.length "Q" ≤ sizeLine ∧ (chS lets c.val ++ "Q").length + (chS "DBCA" k.val).length ≤ sizeLine := by decide +kernel
theorem ixS {s : Str} {i : Nat} {H : Hp} {Q : VK} (h : i < s.cps.toList.length) (hz : s.length ≤ sizeLine) (q : Q (.str (chS s i)) H) : rIxS (.str s) (.int i) H Q := by
  refine ⟨s, i, s.cps.toList[i], rfl, rfl, hz, atI_nat (List.getElem?_eq_getElem h), ?_⟩
  unfold chS at q
  rw [List.getElem?_eq_getElem h] at q
  exact q
def spNms : Sp := fun vs H Q _ => ∃ (c : Int) (m : Nat), vs = [.int c, .int m] ∧ 1 ≤ m ∧ m ≤ 3 ∧ ∀ (D : Addr) (H' : Hp) (ns : List Str), H D = none → Ex H H' → H' D = some (.lst (ns.map V.str)) → ns.length = m → ns.Nodup → (∀ x ∈ ns, strOk x = true) → Q (.ref D) H'
section
variable {P : Program} {w : World} {K : PySem.W.Frag} {mg : Str → Option Value} {base : Heap}
abbrev nm_qnames : List Str := ["_law_cell_here", "_law_many_here", "_law_letter", "_law_style", "_law_names_here", "_law_k"]
theorem sc_qnames : FnScope nm_qnames ["_law_cell_here", "_law_many_here"] (defScope s_qnames) := ⟨rfl, rfl, rfl, by decide +kernel, rfl, by decide +kernel, by decide +kernel⟩
theorem ok__law_names (T : T16 K w mg) : Ok P w K mg base 1 (gA K "_law_names") ["_law_cell_here", "_law_many_here"] spNms := by
  refine mkOk T.F__law_names sc_qnames (fun _ _ _ _ _ _ us hl => match us, hl with | [_, _], _ => rfl) (fun vs H Q E h => ?_) fun cdv A outer s H vs Q E hr h => ?_
  · obtain ⟨c, m, rfl, _⟩ := h
    rfl
  obtain ⟨c, m, rfl, hm1, hm3, q⟩ := h
  refine ⟨_, (pss_cons (ps_set (i := 2) sc_qnames.nd rfl (.inl rfl) (pe_ix ix_str pe_str (pe_op op_mod (pe_callTy call_int1 (by rfl) T.z_int (by decide +kernel) (pa_cons (pv 0) pa_nil)) pe_int) (fun _ _ => rfl)))
      (pss_cons (ps_set (i := 3) sc_qnames.nd rfl (.inl rfl) (pe_op op_mod (pe_op op_fdiv (pe_callTy call_int1 (by rfl) T.z_int (by decide +kernel) (pa_cons (pv 0) pa_nil)) pe_int) pe_int))
      (pss_cons (ps_set (i := 4) sc_qnames.nd rfl (.inl rfl) (pe_lst pa_nil))
      (pss_cons (ps_for PassesOwn.never rfl (pi_range1 (by rfl) T.z_range (pa_cons (pv 1) pa_nil)) (pg_name (i := 5) sc_qnames.nd rfl (.inl rfl)) (pss_one (ps_if (pt_cmpR op_eq (pv 3) pe_int (nomark _)) (pss_one (ps_expr (pe_bm PySem.F.plainAttrs_list PySem.F.slot_list_append PySem.F.type_list_append mt_append (pv 4) (pa_cons (pe_op op_add_str (pv 2) (pe_op op_mulS pe_str (pv 5))) pa_nil)))) (pss_one (ps_if (pt_cmpR op_eq (pv 3) pe_int (nomark _)) (pss_one (ps_expr (pe_bm PySem.F.plainAttrs_list PySem.F.slot_list_append PySem.F.type_list_append mt_append (pv 4) (pa_cons (pe_op op_add_str (pe_op op_add_str (pv 2) pe_str) (pe_ix ix_str pe_str (pv 5) (fun _ _ => rfl))) pa_nil)))) (pss_one (ps_if (pt_cmpR op_eq (pv 3) pe_int (nomark _)) (pss_one (ps_expr (pe_bm PySem.F.plainAttrs_list PySem.F.slot_list_append PySem.F.type_list_append mt_append (pv 4) (pa_cons (pe_op op_add_str (pe_op op_add_str (pe_ix ix_str pe_str (pv 5) (fun _ _ => rfl)) (pv 2)) pe_str) pa_nil)))) (pss_one (ps_expr (pe_bm PySem.F.plainAttrs_list PySem.F.slot_list_append PySem.F.type_list_append mt_append (pv 4) (pa_cons (pe_op op_add_str (pe_op op_add_str (pv 2) pe_str) (pe_ix ix_str pe_str (pv 5) (fun _ _ => rfl))) pa_nil)))))))))))
      (pss_one (ps_ret (pv 4))))))), ?_⟩
  obtain ⟨ci, hci⟩ : ∃ ci : Fin 26, c % 26 = (ci.val : Int) := ⟨⟨(c % 26).toNat, by omega⟩, by show c % 26 = (((c % 26).toNat : Nat) : Int); omega⟩
  obtain ⟨st, hst⟩ : ∃ st : Fin 4, c / 26 % 4 = (st.val : Int) := ⟨⟨(c / 26 % 4).toNat, by omega⟩, by show c / 26 % 4 = (((c / 26 % 4).toNat : Nat) : Int); omega⟩
  refine ⟨_, rfl, .inl ⟨_, rfl, _, _, rfl, rfl, (by show (0 : Int) < _; decide), ?_⟩⟩
  dsimp only
  rw [hci]
  have lt26 : ci.val < lets.cps.toList.length := by
    rw [show lets.cps.toList.length = 26 by decide +kernel]
    exact ci.isLt
  refine ixS (s := lets) lt26 (by decide +kernel) ?_
  refine ⟨_, rfl, .inl ⟨_, rfl, _, _, rfl, rfl, ⟨by decide, by decide⟩, _, _, rfl, rfl, (by show (0 : Int) < _; decide), ?_⟩⟩
  dsimp only
  rw [hst]
  refine ⟨Nat.zero_le _, fun D hD => ?_⟩
  refine ⟨_, rfl, (m : Int), rfl, by omega, by omega, for_range (lo := 0) (n := m) (fun i σ H' => Ex H H' ∧ ∃ x5 : Option V, H' D = some (.lst (((List.range i).map (nmS (chS lets ci.val) st.val)).map V.str)) ∧ σ = [some (.int c), some (.int m), some (.str (chS lets ci.val)), some (.int st.val), some (.ref D), x5]) ⟨Evl.Ex.new hD, none, upd_same, rfl⟩ ?_ ?_⟩
  · rintro i σ H' hi ⟨e, x5, hB, rfl⟩
    rw [Int.zero_add]
    have hi3 : i < 3 := by omega
    obtain ⟨z1, z2, z3, z4, z5, z6, z7⟩ := nm_len ci ⟨i, hi3⟩
    have fin : ∀ (x : Str), x = nmS (chS lets ci.val) st.val i → rAppend (.ref D) [.str x] H' fun _ H8 => Ex H H8 ∧ ∃ x5 : Option V, H8 D = some (.lst (((List.range (i + 1)).map (nmS (chS lets ci.val) st.val)).map V.str)) ∧ [some (.int c), some (.int m), some (.str (chS lets ci.val)), some (.int st.val), some (.ref D), some (.int i)] = [some (.int c), some (.int m), some (.str (chS lets ci.val)), some (.int st.val), some (.ref D), x5] := by
      intro x hx
      refine ⟨D, _, _, rfl, rfl, hB, by rw [List.length_map, List.length_map, List.length_range]; exact Evl.sz_lt (by omega), Evl.Ex.mut e hD, _, ?_, rfl⟩
      rw [upd_same, List.range_succ, List.map_append, List.map_append, hx]
      rfl
    have l4 : i < 4 := by omega
    refine ⟨_, rfl, rfl, _, rfl, ite2 (fun c0 => ?_) (fun c0 => ?_)⟩
    · have e0 : st.val = 0 := by have z := V.int.inj (of_decide_eq_true c0); omega
      refine ⟨_, rfl, .inl ⟨rfl, _, SqL.of hB⟩, _, rfl, _, rfl, ⟨i, rfl, rfl, hi3, ?_⟩⟩
      exact ⟨_, _, rfl, rfl, z1, fin _ (by unfold nmS; rw [if_pos e0])⟩
    have n0 : ¬ st.val = 0 := fun e => c0 (decide_eq_true (by rw [e]; rfl))
    have dn : ∀ n : Nat, decide (V.int (st.val : Int) = V.int (n : Int)) = decide (st.val = n) := fun n => by
      by_cases h : st.val = n
      · rw [h, decide_eq_true rfl, decide_eq_true rfl]
      · rw [decide_eq_false h, decide_eq_false fun e => h (by have z := V.int.inj e; omega)]
    refine ⟨_, rfl, rfl, _, rfl, ite2 (fun c1 => ?_) (fun c1 => ?_)⟩
    · have e1 : st.val = 1 := by have z := V.int.inj (of_decide_eq_true c1); omega
      refine ⟨_, rfl, .inl ⟨rfl, _, SqL.of hB⟩, _, rfl, _, _, rfl, rfl, z2, _, rfl, ixS (s := "zyxw") (by show i < 4; exact l4) (by decide +kernel) ⟨_, _, rfl, rfl, z3, fin _ (by unfold nmS; rw [if_neg n0, if_pos e1])⟩⟩
    have n1 : ¬ st.val = 1 := fun e => c1 (decide_eq_true (by rw [e]; rfl))
    refine ⟨_, rfl, rfl, _, rfl, ite2 (fun c2 => ?_) (fun c2 => ?_)⟩
    · have e2 : st.val = 2 := by have z := V.int.inj (of_decide_eq_true c2); omega
      refine ⟨_, rfl, .inl ⟨rfl, _, SqL.of hB⟩, _, rfl, ixS (s := "dcba") (by show i < 4; exact l4) (by decide +kernel) ⟨_, rfl, _, _, rfl, rfl, z4, _, _, rfl, rfl, z5, fin _ (by unfold nmS; rw [if_neg n0, if_neg n1, if_pos e2])⟩⟩
    have n2 : ¬ st.val = 2 := fun e => c2 (decide_eq_true (by rw [e]; rfl))
    refine ⟨_, rfl, .inl ⟨rfl, _, SqL.of hB⟩, _, rfl, _, _, rfl, rfl, z6, _, rfl, ixS (s := "DBCA") (by show i < 4; exact l4) (by decide +kernel) ⟨_, _, rfl, rfl, z7, fin _ (by unfold nmS; rw [if_neg n0, if_neg n1, if_neg n2])⟩⟩
  · rintro σ H' ⟨e, x5, hB, rfl⟩
    have hm4 : m < 4 := by omega
    refine ⟨_, rfl, q D H' _ hD e hB (by rw [List.length_map, List.length_range]) (nm_ok ci st ⟨m, hm4⟩).1 fun x hx => ?_⟩
    obtain ⟨k, hk, rfl⟩ := List.mem_map.mp hx
    have hk2 := List.mem_range.mp hk
    exact (nm_ok ci st ⟨m, hm4⟩).2 ⟨k, by omega⟩
end
end W16
set_option Elab.async false
set_option linter.all false
set_option maxRecDepth 100000
set_option maxHeartbeats 4000000
namespace W16
open PySem PySem.Spec PyProof.Rows L2
open PySem.PyData (strOk)
open Evl (Ex)
structure TGood (ns : List Str) (t : Tm) : Prop where
  wf : t.wf ns
  dep : t.dep ≤ 3
  ok : t.ok = true
def GT (K : PySem.W.Frag) (ns : List Str) (H : Hp) (v : V) : Prop := ∃ t, DT K H v t ∧ TGood ns t
theorem GT.ex {K : PySem.W.Frag} {ns : List Str} {H H' : Hp} {v : V} (h : GT K ns H v) (e : Ex H H') : GT K ns H' v := let ⟨t, h1, h2⟩ := h; ⟨t, Dp.ex' h1 e, h2⟩
structure Nms (ns : List Str) : Prop where
  pos : 1 ≤ ns.length
  few : ns.length ≤ 3
  nd : ns.Nodup
  ok : ∀ x ∈ ns, strOk x = true
theorem atI_mod {ns : List Str} (h : 1 ≤ ns.length) (z : Int) : ∃ x ∈ ns, atI (ns.map V.str) (z % (ns.length : Int)) = some (.str x) := by
  have h1 : 0 ≤ z % (ns.length : Int) := Int.emod_nonneg _ (by omega)
  have h2 : z % (ns.length : Int) < ns.length := Int.emod_lt_of_pos _ (by omega)
  have h3 : (z % (ns.length : Int)).toNat < ns.length := by omega
  refine ⟨ns[(z % (ns.length : Int)).toNat], List.getElem_mem h3, ?_⟩
  have h4 := atI_nat (xs := ns.map V.str) (j := (z % (ns.length : Int)).toNat) (v := .str ns[(z % (ns.length : Int)).toNat]) (by rw [List.getElem?_map, List.getElem?_eq_getElem h3]; rfl)
  rwa [show (((z % (ns.length : Int)).toNat : Nat) : Int) = z % (ns.length : Int) by omega] at h4
/-- one of a list, by a place in it -/
theorem atI_lt {xs : List V} {n : Nat} (h : xs.length = n) (z : Int) (h1 : 0 ≤ z) (h2 : z < n) : ∃ v ∈ xs, atI xs z = some v := by
  have h3 : z.toNat < xs.length := by omega
  refine ⟨xs[z.toNat], List.getElem_mem h3, ?_⟩
  have h4 := atI_nat (xs := xs) (j := z.toNat) (List.getElem?_eq_getElem h3)
  rwa [show ((z.toNat : Nat) : Int) = z by omega] at h4
def spTerm (K : PySem.W.Frag) : Sp := fun vs H Q _ => ∃ (d g : Int) (an : Addr) (ns : List Str), vs = [.int d, .ref an, .int g] ∧ SqL K H an (ns.map V.str) ∧ Nms ns ∧ ∀ v H', Ex H H' → GT K ns H' v → Q v H'
theorem tupG {σ : L2.St} {H : Hp} {ts : TA} {xs : List V} {Q : VK} (hts : ∀ R : List V → Hp → Prop, R xs H → ts σ H R) (hl : xs.length ≤ 10) (q : ∀ p H', H p = none → Ex H H' → H' p = some (.tup xs) → Q (.ref p) H') : tTup ts σ H Q :=
  hts _ ⟨Nat.le_trans hl (by decide), fun p hp => q p _ hp (Evl.Ex.new hp) upd_same⟩
section
variable {K : PySem.W.Frag} {H : Hp} {a b : V} {t u : Tm} {k : Int} {p : Addr}
theorem dt_plus (h : H p = some (.tup [.str "plus", a, b])) (h1 : DT K H a t) (h2 : DT K H b u) : DT K H (.ref p) (.plus t u) := by show Dp K H _ (tD _); simp only [tD]; exact dp_tup h (.cons h1 (.cons h2 .nil))
theorem dt_minus (h : H p = some (.tup [.str "minus", a, b])) (h1 : DT K H a t) (h2 : DT K H b u) : DT K H (.ref p) (.minus t u) := by show Dp K H _ (tD _); simp only [tD]; exact dp_tup h (.cons h1 (.cons h2 .nil))
theorem dt_times (h : H p = some (.tup [.str "times", a, b])) (h1 : DT K H a t) (h2 : DT K H b u) : DT K H (.ref p) (.times t u) := by show Dp K H _ (tD _); simp only [tD]; exact dp_tup h (.cons h1 (.cons h2 .nil))
theorem dt_least (h : H p = some (.tup [.str "least", a, b])) (h1 : DT K H a t) (h2 : DT K H b u) : DT K H (.ref p) (.least t u) := by show Dp K H _ (tD _); simp only [tD]; exact dp_tup h (.cons h1 (.cons h2 .nil))
theorem dt_most (h : H p = some (.tup [.str "most", a, b])) (h1 : DT K H a t) (h2 : DT K H b u) : DT K H (.ref p) (.most t u) := by show Dp K H _ (tD _); simp only [tD]; exact dp_tup h (.cons h1 (.cons h2 .nil))
theorem dt_neg (h : H p = some (.tup [.str "negative", a])) (h1 : DT K H a t) : DT K H (.ref p) (.neg t) := by show Dp K H _ (tD _); simp only [tD]; exact dp_tup h (.cons h1 .nil)
theorem dt_quo (h : H p = some (.tup [.str "quotient", a, .int k])) (h1 : DT K H a t) : DT K H (.ref p) (.quo t k) := by show Dp K H _ (tD _); simp only [tD]; exact dp_tup h (.cons h1 (.cons (.int k) .nil))
theorem dt_rem (h : H p = some (.tup [.str "remainder", a, .int k])) (h1 : DT K H a t) : DT K H (.ref p) (.rem t k) := by show Dp K H _ (tD _); simp only [tD]; exact dp_tup h (.cons h1 (.cons (.int k) .nil))
theorem dt_num (h : H p = some (.tup [.str "number", .int k])) : DT K H (.ref p) (.num k) := by show Dp K H _ (tD _); simp only [tD]; exact dp_tup h (.cons (.int k) .nil)
end
/-- a name, another, a small number -/
structure B3 (K : PySem.W.Frag) (H0 H : Hp) (v1 v2 v3 : V) (x1 x2 : Str) (z : Int) : Prop where
  e : Ex H0 H
  d1 : DT K H v1 (.nam x1)
  d2 : DT K H v2 (.nam x2)
  d3 : DT K H v3 (.num z)
theorem B3.ex {K : PySem.W.Frag} {H0 H H' : Hp} {v1 v2 v3 : V} {x1 x2 : Str} {z : Int} (h : B3 K H0 H v1 v2 v3 x1 x2 z) (e : Ex H H') : B3 K H0 H' v1 v2 v3 x1 x2 z := ⟨h.e.trans e, Dp.ex' h.d1 e, Dp.ex' h.d2 e, Dp.ex' h.d3 e⟩
section
variable {P : Program} {w : World} {K : PySem.W.Frag} {mg : Str → Option Value} {base : Heap}
theorem gt_num {ns : List Str} {H : Hp} {p : Addr} {z : Int} (h : H p = some (.tup [.str "number", .int z])) : GT K ns H (.ref p) := ⟨.num z, by show Dp K H _ (tD (.num z)); simp only [tD]; exact dp_tup h (.cons (.int z) .nil), trivial, by simp [Tm.dep], by simp [Tm.ok]⟩
theorem gt_nam {ns : List Str} {H : Hp} {p : Addr} {x : Str} (N : Nms ns) (hx : x ∈ ns) (h : H p = some (.tup [.str "name", .str x])) : DT K H (.ref p) (.nam x) ∧ TGood ns (.nam x) := ⟨by show Dp K H _ (tD (.nam x)); simp only [tD]; exact dp_tup h (.cons (.str x) .nil), hx, by simp [Tm.dep], by simp only [Tm.ok]; exact N.ok x hx⟩
abbrev nm_qterm : List Str := ["_law_draw", "_law_names_here", "_law_great", "_law_name", "_law_other", "_law_small", "_law_count", "_law_terms"]
theorem sc_qterm : FnScope nm_qterm ["_law_draw", "_law_names_here", "_law_great"] (defScope s_qterm) := ⟨rfl, rfl, rfl, by decide +kernel, rfl, by decide +kernel, by decide +kernel⟩
theorem ok__law_term (T : T16 K w mg) : Ok P w K mg base 1 (gA K "_law_term") ["_law_draw", "_law_names_here", "_law_great"] (spTerm K) := by
  refine mkOk T.F__law_term sc_qterm (fun _ _ _ _ _ _ us hl => match us, hl with | [_, _, _], _ => rfl) (fun vs H Q E h => ?_) fun cdv A outer s H vs Q E hr h => ?_
  · obtain ⟨d, g, an, ns, rfl, _⟩ := h
    rfl
  obtain ⟨d, g, an, ns, rfl, hN, N, q⟩ := h
  refine ⟨_, (pss_cons (ps_set (i := 3) sc_qterm.nd rfl (.inl rfl) (pe_tup (pa_cons pe_str (pa_cons (pe_ix ix_list (pv 1) (pe_op op_mod (pe_op op_fdiv (pe_callTy call_int1 (by rfl) T.z_int (by decide +kernel) (pa_cons (pv 0) pa_nil)) pe_int) (pe_callB call_len (by rfl) T.z_len (by decide +kernel) (pa_cons (pv 1) pa_nil))) (fun _ _ => rfl)) pa_nil))))
      (pss_cons (ps_set (i := 4) sc_qterm.nd rfl (.inl rfl) (pe_tup (pa_cons pe_str (pa_cons (pe_ix ix_list (pv 1) (pe_op op_mod (pe_op op_fdiv (pe_callTy call_int1 (by rfl) T.z_int (by decide +kernel) (pa_cons (pv 0) pa_nil)) pe_int) (pe_callB call_len (by rfl) T.z_len (by decide +kernel) (pa_cons (pv 1) pa_nil))) (fun _ _ => rfl)) pa_nil))))
      (pss_cons (ps_set (i := 5) sc_qterm.nd rfl (.inl rfl) (pe_tup (pa_cons pe_str (pa_cons (pe_op op_mod (pe_op op_fdiv (pe_callTy call_int1 (by rfl) T.z_int (by decide +kernel) (pa_cons (pv 0) pa_nil)) pe_int) pe_int) pa_nil))))
      (pss_cons (ps_set (i := 6) sc_qterm.nd rfl (.inl rfl) (pe_op op_add pe_int (pe_op op_mod (pe_op op_fdiv (pe_callTy call_int1 (by rfl) T.z_int (by decide +kernel) (pa_cons (pv 0) pa_nil)) pe_int) pe_int)))
      (pss_cons (ps_set (i := 7) sc_qterm.nd rfl (.inl rfl) (pe_lst (pa_cons (pv 3) (pa_cons (pv 3) (pa_cons (pv 3) (pa_cons (pv 3) (pa_cons (pv 5) (pa_cons (pv 5) (pa_cons (pv 5) (pa_cons (pe_tup (pa_cons pe_str (pa_cons (pv 2) pa_nil))) (pa_cons (pe_tup (pa_cons pe_str (pa_cons (pv 3) (pa_cons (pv 5) pa_nil)))) pa_nil)))))))))))
      (pss_cons (ps_set (i := 7) sc_qterm.nd rfl (.inl rfl) (pe_op op_cat (pv 7) (pe_lst (pa_cons (pe_tup (pa_cons pe_str (pa_cons (pv 3) (pa_cons (pv 4) pa_nil)))) (pa_cons (pe_tup (pa_cons pe_str (pa_cons (pv 3) (pa_cons (pv 4) pa_nil)))) (pa_cons (pe_tup (pa_cons pe_str (pa_cons (pv 3) pa_nil))) (pa_cons (pe_tup (pa_cons pe_str (pa_cons (pv 3) (pa_cons (pv 6) pa_nil)))) pa_nil)))))))
      (pss_cons (ps_set (i := 7) sc_qterm.nd rfl (.inl rfl) (pe_op op_cat (pv 7) (pe_lst (pa_cons (pe_tup (pa_cons pe_str (pa_cons (pv 4) (pa_cons (pv 6) pa_nil)))) (pa_cons (pe_tup (pa_cons pe_str (pa_cons (pv 3) (pa_cons (pv 5) pa_nil)))) (pa_cons (pe_tup (pa_cons pe_str (pa_cons (pe_tup (pa_cons pe_str (pa_cons (pv 3) pa_nil))) (pa_cons (pv 4) pa_nil)))) pa_nil))))))
      (pss_one (ps_ret (pe_ix ix_list (pv 7) (pe_op op_mod (pe_callTy call_int1 (by rfl) T.z_int (by decide +kernel) (pa_cons (pv 0) pa_nil)) pe_int) (fun _ _ => rfl))))))))))), ?_⟩
  have hp := N.pos
  have d16 : CDiv d 16 := ⟨by decide, by decide⟩
  have d48 : CDiv d 48 := ⟨by decide, by decide⟩
  obtain ⟨x1, hx1, at1⟩ := atI_mod hp (d / 16)
  obtain ⟨x2, hx2, at2⟩ := atI_mod hp (d / 48)
  have lp : (0 : Int) < (ns.length : Int) := by omega
  have s2 : (2 : Nat) ≤ sizeLine := by decide
  have s3 : (3 : Nat) ≤ sizeLine := by decide
  have p5 : (0 : Int) < 5 := by decide
  have g1 : TGood ns (.nam x1) := ⟨hx1, by simp [Tm.dep], by simp only [Tm.ok]; exact N.ok x1 hx1⟩
  have g2 : TGood ns (.nam x2) := ⟨hx2, by simp [Tm.dep], by simp only [Tm.ok]; exact N.ok x2 hx2⟩
  dsimp only [tSeq, tAsg, gName]
  refine tupG (xs := [.str "name", .str x1]) (fun R h => ⟨_, rfl, _, rfl, .inl ⟨_, rfl, _, _, rfl, rfl, d16, _, rfl, _, ns.length, rfl, .inl ⟨_, hN, by rw [List.length_map]⟩, _, _, rfl, rfl, lp, an, _, _, _, rfl, rfl, hN, at1, h⟩⟩) (Nat.le_of_ble_eq_true rfl) fun p1 H1 _ e1 h1 => ?_
  refine tupG (xs := [.str "name", .str x2]) (fun R h => ⟨_, rfl, _, rfl, .inl ⟨_, rfl, _, _, rfl, rfl, d48, _, rfl, _, ns.length, rfl, .inl ⟨_, Evl.ex_l e1 hN, by rw [List.length_map]⟩, _, _, rfl, rfl, lp, an, _, _, _, rfl, rfl, Evl.ex_l e1 hN, at2, h⟩⟩) (Nat.le_of_ble_eq_true rfl) fun p2 H2 _ e2 h2 => ?_
  refine tupG (xs := [.str "number", .int (d / 48 % 5)]) (fun R h => ⟨_, rfl, .inl ⟨_, rfl, _, _, rfl, rfl, d48, _, _, rfl, rfl, p5, h⟩⟩) (Nat.le_of_ble_eq_true rfl) fun p3 H3 _ e3 h3 => ?_
  have b : B3 K H H3 (.ref p1) (.ref p2) (.ref p3) x1 x2 (d / 48 % 5) := ⟨(e1.trans e2).trans e3, Dp.ex' (gt_nam N hx1 h1).1 (e2.trans e3), Dp.ex' (gt_nam N hx2 h2).1 e3, dt_num h3⟩
  refine ⟨_, rfl, .inl ⟨_, rfl, _, _, rfl, rfl, d48, _, _, rfl, rfl, p5, _, _, rfl, rfl, ?_⟩⟩
  dsimp only [tLst, tCons, tNil, tC]
  refine ⟨_, rfl, _, rfl, _, rfl, _, rfl, _, rfl, _, rfl, _, rfl, ?_⟩
  refine tupG (xs := [.str "number", .int g]) (fun R h => ⟨_, rfl, h⟩) (Nat.le_of_ble_eq_true rfl) fun p8 H4 _ e4 h4 => ?_
  refine tupG (xs := [.str "plus", .ref p1, .ref p3]) (fun R h => ⟨_, rfl, _, rfl, h⟩) (Nat.le_of_ble_eq_true rfl) fun p9 H5 _ e5 h5 => ?_
  refine ⟨(by show 9 ≤ sizeLine; decide), fun L1 hL1 => ?_⟩
  have e6 := Evl.Ex.new hL1 (o := HO.lst [.ref p1, .ref p1, .ref p1, .ref p1, .ref p3, .ref p3, .ref p3, .ref p8, .ref p9])
  have l6 : upd H5 L1 (HO.lst [.ref p1, .ref p1, .ref p1, .ref p1, .ref p3, .ref p3, .ref p3, .ref p8, .ref p9]) L1 = some (.lst [.ref p1, .ref p1, .ref p1, .ref p1, .ref p3, .ref p3, .ref p3, .ref p8, .ref p9]) := upd_same
  generalize upd H5 L1 (HO.lst [.ref p1, .ref p1, .ref p1, .ref p1, .ref p3, .ref p3, .ref p3, .ref p8, .ref p9]) = H6 at e6 l6 ⊢
  refine ⟨_, rfl, ?_⟩
  dsimp only [tLst, tCons, tNil, tC]
  refine tupG (xs := [.str "minus", .ref p1, .ref p2]) (fun R h => ⟨_, rfl, _, rfl, h⟩) (Nat.le_of_ble_eq_true rfl) fun q1 H7 _ e7 h7 => ?_
  refine tupG (xs := [.str "times", .ref p1, .ref p2]) (fun R h => ⟨_, rfl, _, rfl, h⟩) (Nat.le_of_ble_eq_true rfl) fun q2 H8 _ e8 h8 => ?_
  refine tupG (xs := [.str "negative", .ref p1]) (fun R h => ⟨_, rfl, h⟩) (Nat.le_of_ble_eq_true rfl) fun q3 H9 _ e9 h9 => ?_
  refine tupG (xs := [.str "quotient", .ref p1, .int (1 + d / 48 % 5)]) (fun R h => ⟨_, rfl, _, rfl, h⟩) (Nat.le_of_ble_eq_true rfl) fun q4 H10 _ e10 h10 => ?_
  refine ⟨(by show 4 ≤ sizeLine; decide), fun L2 hL2 => ?_⟩
  have e11 := Evl.Ex.new hL2 (o := HO.lst [.ref q1, .ref q2, .ref q3, .ref q4])
  refine ⟨L1, L2, _, _, rfl, rfl, e11 _ _ (e10 _ _ (e9 _ _ (e8 _ _ (e7 _ _ l6)))), upd_same, (by show 13 ≤ sizeLine; decide), fun L3 hL3 => ?_⟩
  have e12 := Evl.Ex.new hL3 (o := HO.lst ([.ref p1, .ref p1, .ref p1, .ref p1, .ref p3, .ref p3, .ref p3, .ref p8, .ref p9] ++ [.ref q1, .ref q2, .ref q3, .ref q4]))
  have l12 : upd (upd H10 L2 (HO.lst [.ref q1, .ref q2, .ref q3, .ref q4])) L3 (HO.lst ([.ref p1, .ref p1, .ref p1, .ref p1, .ref p3, .ref p3, .ref p3, .ref p8, .ref p9] ++ [.ref q1, .ref q2, .ref q3, .ref q4])) L3 = some (HO.lst ([.ref p1, .ref p1, .ref p1, .ref p1, .ref p3, .ref p3, .ref p3, .ref p8, .ref p9] ++ [.ref q1, .ref q2, .ref q3, .ref q4])) := upd_same
  have e1012 := e11.trans e12
  clear e11 e12
  generalize upd (upd H10 L2 (HO.lst [.ref q1, .ref q2, .ref q3, .ref q4])) L3 (HO.lst ([.ref p1, .ref p1, .ref p1, .ref p1, .ref p3, .ref p3, .ref p3, .ref p8, .ref p9] ++ [.ref q1, .ref q2, .ref q3, .ref q4])) = H12 at e1012 l12 ⊢
  refine ⟨_, rfl, ?_⟩
  dsimp only [tLst, tCons, tNil, tC]
  refine tupG (xs := [.str "remainder", .ref p2, .int (1 + d / 48 % 5)]) (fun R h => ⟨_, rfl, _, rfl, h⟩) (Nat.le_of_ble_eq_true rfl) fun r1 H13 _ e13 h13 => ?_
  refine tupG (xs := [.str "least", .ref p1, .ref p3]) (fun R h => ⟨_, rfl, _, rfl, h⟩) (Nat.le_of_ble_eq_true rfl) fun r2 H14 _ e14 h14 => ?_
  have e15 : Ex H3 H14 := ((((((e4.trans e5).trans e6).trans e7).trans e8).trans e9).trans e10).trans (e1012.trans (e13.trans e14))
  dsimp only [tTup, tCons, tNil, tC]
  refine ⟨_, rfl, s2, fun r3 hr3 => ?_⟩
  have e16 := Evl.Ex.new hr3 (o := HO.tup [.str "negative", .ref p1])
  have h16 : upd H14 r3 (HO.tup [.str "negative", .ref p1]) r3 = some (HO.tup [.str "negative", .ref p1]) := upd_same
  generalize upd H14 r3 (HO.tup [.str "negative", .ref p1]) = H16 at e16 h16 ⊢
  refine ⟨_, rfl, s3, fun r4 hr4 => ?_⟩
  have e17 := Evl.Ex.new hr4 (o := HO.tup [.str "most", .ref r3, .ref p2])
  have h17 : upd H16 r4 (HO.tup [.str "most", .ref r3, .ref p2]) r4 = some (HO.tup [.str "most", .ref r3, .ref p2]) := upd_same
  generalize upd H16 r4 (HO.tup [.str "most", .ref r3, .ref p2]) = H17 at e17 h17 ⊢
  refine ⟨s3, fun L4 hL4 => ?_⟩
  have e18 := Evl.Ex.new hL4 (o := HO.lst [.ref r1, .ref r2, .ref r4])
  refine ⟨L3, L4, _, _, rfl, rfl, e18 _ _ (e17 _ _ (e16 _ _ (e14 _ _ (e13 _ _ l12)))), upd_same, (by show 16 ≤ sizeLine; decide), fun L5 hL5 => ?_⟩
  have e19 := Evl.Ex.new hL5 (o := HO.lst (([.ref p1, .ref p1, .ref p1, .ref p1, .ref p3, .ref p3, .ref p3, .ref p8, .ref p9] ++ [.ref q1, .ref q2, .ref q3, .ref q4]) ++ [.ref r1, .ref r2, .ref r4]))
  have l19 : upd (upd H17 L4 (HO.lst [.ref r1, .ref r2, .ref r4])) L5 (HO.lst (([.ref p1, .ref p1, .ref p1, .ref p1, .ref p3, .ref p3, .ref p3, .ref p8, .ref p9] ++ [.ref q1, .ref q2, .ref q3, .ref q4]) ++ [.ref r1, .ref r2, .ref r4])) L5 = some (HO.lst (([.ref p1, .ref p1, .ref p1, .ref p1, .ref p3, .ref p3, .ref p3, .ref p8, .ref p9] ++ [.ref q1, .ref q2, .ref q3, .ref q4]) ++ [.ref r1, .ref r2, .ref r4])) := upd_same
  have e20 := e18.trans e19
  clear e18 e19
  generalize upd (upd H17 L4 (HO.lst [.ref r1, .ref r2, .ref r4])) L5 (HO.lst (([.ref p1, .ref p1, .ref p1, .ref p1, .ref p3, .ref p3, .ref p3, .ref p8, .ref p9] ++ [.ref q1, .ref q2, .ref q3, .ref q4]) ++ [.ref r1, .ref r2, .ref r4])) = H20 at e20 l19 ⊢
  -- what stands in the end
  have f17 : Ex H17 H20 := e20
  have f16 := e17.trans f17
  have f14 := e16.trans f16
  have f13 := e14.trans f14
  have f12 := e13.trans f13
  have f10 := e1012.trans f12
  have f9 := e10.trans f10
  have f8 := e9.trans f9
  have f7 := e8.trans f8
  have f6 := e7.trans f7
  have f5 := e6.trans f6
  have f4 := e5.trans f5
  have b20 := b.ex (e15.trans f14)
  have k1 : 0 < 1 + d / 48 % 5 := by omega
  have k2 : 1 + d / 48 % 5 < 1000 := by omega
  have w1 : (Tm.nam x1).wf ns := hx1
  have w2 : (Tm.nam x2).wf ns := hx2
  have o1 := g1.ok
  have o2 := g2.ok
  have gn : ∀ z, TGood ns (.num z) := fun z => ⟨trivial, by simp [Tm.dep], by simp [Tm.ok]⟩
  have G1 : GT K ns H20 (.ref p1) := ⟨_, b20.d1, g1⟩
  have G3 : GT K ns H20 (.ref p3) := ⟨_, b20.d3, gn _⟩
  have G8 : GT K ns H20 (.ref p8) := ⟨_, dt_num (f4 _ _ h4), gn _⟩
  have G9 : GT K ns H20 (.ref p9) := ⟨_, dt_plus (f5 _ _ h5) b20.d1 b20.d3, ⟨⟨w1, trivial⟩, by simp [Tm.dep], by simp only [Tm.ok] at o1 ⊢; simp [o1]⟩⟩
  have Gq1 : GT K ns H20 (.ref q1) := ⟨_, dt_minus (f7 _ _ h7) b20.d1 b20.d2, ⟨⟨w1, w2⟩, by simp [Tm.dep], by simp only [Tm.ok] at o1 o2 ⊢; simp [o1, o2]⟩⟩
  have Gq2 : GT K ns H20 (.ref q2) := ⟨_, dt_times (f8 _ _ h8) b20.d1 b20.d2, ⟨⟨⟨x1, rfl⟩, w1, w2⟩, by simp [Tm.dep], by simp only [Tm.ok] at o1 o2 ⊢; simp [o1, o2]⟩⟩
  have Gq3 : GT K ns H20 (.ref q3) := ⟨_, dt_neg (f9 _ _ h9) b20.d1, ⟨w1, by simp [Tm.dep], by simp only [Tm.ok] at o1 ⊢; exact o1⟩⟩
  have Gq4 : GT K ns H20 (.ref q4) := ⟨_, dt_quo (f10 _ _ h10) b20.d1, ⟨⟨w1, k1, k2⟩, by simp [Tm.dep], by simp only [Tm.ok] at o1 ⊢; exact o1⟩⟩
  have Gr1 : GT K ns H20 (.ref r1) := ⟨_, dt_rem (f13 _ _ h13) b20.d2, ⟨⟨w2, k1, k2⟩, by simp [Tm.dep], by simp only [Tm.ok] at o2 ⊢; exact o2⟩⟩
  have Gr2 : GT K ns H20 (.ref r2) := ⟨_, dt_least (f14 _ _ h14) b20.d1 b20.d3, ⟨⟨w1, trivial⟩, by simp [Tm.dep], by simp only [Tm.ok] at o1 ⊢; simp [o1]⟩⟩
  have Gr4 : GT K ns H20 (.ref r4) := ⟨_, dt_most (f17 _ _ h17) (dt_neg (f16 _ _ h16) b20.d1) b20.d2, ⟨⟨w1, w2⟩, by simp [Tm.dep], by simp only [Tm.ok] at o1 o2 ⊢; simp [o1, o2]⟩⟩
  obtain ⟨y, hy, aty⟩ := atI_lt (xs := ([.ref p1, .ref p1, .ref p1, .ref p1, .ref p3, .ref p3, .ref p3, .ref p8, .ref p9] ++ [.ref q1, .ref q2, .ref q3, .ref q4]) ++ [.ref r1, .ref r2, .ref r4]) (n := 16) rfl (d % 16) (by omega) (by omega)
  refine ⟨_, rfl, _, rfl, .inl ⟨_, rfl, _, _, rfl, rfl, (by show (0 : Int) < _; decide), L5, _, _, _, rfl, rfl, SqL.of l19, aty, ?_⟩⟩
  refine q y H20 b20.e ?_
  simp only [List.mem_append, List.mem_cons, List.not_mem_nil, or_false] at hy
  rcases hy with ((h | h | h | h | h | h | h | h | h) | (h | h | h | h)) | (h | h | h) <;> (rw [h]; assumption)
end
end W16
set_option Elab.async false
set_option linter.all false
set_option maxRecDepth 100000
set_option maxHeartbeats 4000000
namespace W16
open PySem PySem.Spec PyProof.Rows L2
open PySem.PyData (strOk)
open Evl (Ex)
def spLeaf (K : PySem.W.Frag) : Sp := fun vs H Q _ => ∃ (d1 d2 g pl : Int) (few : Bool) (an : Addr) (ns : List Str), vs = [.int d1, .int d2, .ref an, .int g, .bl few, .int pl] ∧ SqL K H an (ns.map V.str) ∧ Nms ns ∧ ∀ f v H', Ex H H' → DF K H' v f → f.wf ns → f.size = 1 → Q v H'
theorem ok_cm {o : CO} {ns : List Str} {t u : Tm} (h1 : TGood ns t) (h2 : TGood ns u) : (Cm.mk o t u).wf ns := ⟨h1.wf, h2.wf, by simp [Cm.ok, h1.ok, h2.ok], h1.dep, h2.dep⟩
theorem wf_cmp {ns : List Str} {c : Cm} (h : c.wf ns) : (Fm.cmp c).wf ns := fun d hd => by rw [List.mem_singleton.mp hd]; exact h
section
variable {P : Program} {w : World} {K : PySem.W.Frag} {mg : Str → Option Value} {base : Heap}
abbrev nm_qleaf : List Str := ["_law_one", "_law_two", "_law_names_here", "_law_great", "_law_few", "_law_plain", "_law_word"]
theorem sc_qleaf : FnScope nm_qleaf ["_law_one", "_law_two", "_law_names_here", "_law_great", "_law_few", "_law_plain"] (defScope s_qleaf) := ⟨rfl, rfl, rfl, by decide +kernel, rfl, by decide +kernel, by decide +kernel⟩
theorem ok__law_leaf (T : T16 K w mg) : Ok P w K mg base 2 (gA K "_law_leaf") ["_law_one", "_law_two", "_law_names_here", "_law_great", "_law_few", "_law_plain"] (spLeaf K) := by
  refine mkOk T.F__law_leaf sc_qleaf (fun _ _ _ _ _ _ us hl => match us, hl with | [_, _, _, _, _, _], _ => rfl) (fun vs H Q E h => ?_) fun cdv A outer s H vs Q E hr h => ?_
  · obtain ⟨d1, d2, g, pl, few, an, ns, rfl, _⟩ := h
    rfl
  obtain ⟨d1, d2, g, pl, few, an, ns, rfl, hN, N, q⟩ := h
  refine ⟨_, (pss_cons (ps_if (pt_cmpR op_lt (pe_op op_mod (pe_callTy call_int1 (by rfl) T.z_int (by decide +kernel) (pa_cons (pv 0) pa_nil)) pe_int) (pv 5) (nomark _)) (pss_one (ps_ret (pe_ix ix_list (pe_lst (pa_cons (pe_tup (pa_cons pe_str pa_nil)) (pa_cons (pe_tup (pa_cons pe_str pa_nil)) pa_nil))) (pe_op op_mod (pe_callTy call_int1 (by rfl) T.z_int (by decide +kernel) (pa_cons (pv 1) pa_nil)) pe_int) (fun _ _ => rfl)))) pss_nil)
      (pss_cons (ps_set (i := 6) sc_qleaf.nd rfl (.inl rfl) (pe_ix ix_list (pe_lst (pa_cons pe_str (pa_cons pe_str (pa_cons pe_str pa_nil)))) (pe_op op_mod (pe_op op_fdiv (pe_callTy call_int1 (by rfl) T.z_int (by decide +kernel) (pa_cons (pv 0) pa_nil)) pe_int) pe_int) (fun _ _ => rfl)))
      (pss_cons (ps_if (pt_val (pv 4)) (pss_one (ps_ret (pe_tup (pa_cons (pv 6) (pa_cons (pe_tup (pa_cons pe_str (pa_cons (pe_ix ix_list (pv 2) (pe_op op_mod (pe_op op_fdiv (pe_callTy call_int1 (by rfl) T.z_int (by decide +kernel) (pa_cons (pv 0) pa_nil)) pe_int) (pe_callB call_len (by rfl) T.z_len (by decide +kernel) (pa_cons (pv 2) pa_nil))) (fun _ _ => rfl)) pa_nil))) (pa_cons (pe_tup (pa_cons pe_str (pa_cons (pe_op op_mod (pe_callTy call_int1 (by rfl) T.z_int (by decide +kernel) (pa_cons (pv 1) pa_nil)) pe_int) pa_nil))) pa_nil)))))) pss_nil)
      (pss_one (ps_ret (pe_tup (pa_cons (pv 6) (pa_cons (pc (ok__law_term T) (hr.mono (by omega)) T.g__law_term (pa_cons (pe_op op_add (pe_op op_fdiv (pe_callTy call_int1 (by rfl) T.z_int (by decide +kernel) (pa_cons (pv 0) pa_nil)) pe_int) (pe_op op_mul (pe_op op_mod (pe_callTy call_int1 (by rfl) T.z_int (by decide +kernel) (pa_cons (pv 1) pa_nil)) pe_int) pe_int)) (pa_cons (pv 2) (pa_cons (pv 3) pa_nil)))) (pa_cons (pc (ok__law_term T) (hr.mono (by omega)) T.g__law_term (pa_cons (pv 1) (pa_cons (pv 2) (pa_cons (pv 3) pa_nil)))) pa_nil))))))))), ?_⟩
  have hp := N.pos
  have lp : (0 : Int) < (ns.length : Int) := by omega
  have d24 : CDiv d1 24 := ⟨by decide, by decide⟩
  have d8 : CDiv d1 8 := ⟨by decide, by decide⟩
  have P8 : (0 : Int) < 8 := by decide
  have P2 : (0 : Int) < 2 := by decide
  have P3 : (0 : Int) < 3 := by decide
  have P5 : (0 : Int) < 5 := by decide
  have s1 : (1 : Nat) ≤ sizeLine := by decide
  have s2 : (2 : Nat) ≤ sizeLine := by decide
  have s3 : (3 : Nat) ≤ sizeLine := by decide
  refine ⟨_, rfl, .inl ⟨_, rfl, _, _, rfl, rfl, P8, _, rfl, _, _, rfl, rfl, _, rfl, ite2 (fun c => ?_) (fun c => ?_)⟩⟩
  · refine ⟨s1, fun p1 hp1 => ⟨s1, fun p2 hp2 => ⟨s2, fun L hL => ?_⟩⟩⟩
    have e1 := Evl.Ex.new hp1 (o := HO.tup [.str "true"])
    have e2 := Evl.Ex.new hp2 (o := HO.tup [.str "false"])
    have e3 := Evl.Ex.new hL (o := HO.lst [.ref p1, .ref p2])
    have t1 : DF K (upd (upd (upd H p1 (.tup [.str "true"])) p2 (.tup [.str "false"])) L (.lst [.ref p1, .ref p2])) (.ref p1) .tt := dp_tt (SqT.of (e3 _ _ (e2 _ _ upd_same)))
    have t2 : DF K (upd (upd (upd H p1 (.tup [.str "true"])) p2 (.tup [.str "false"])) L (.lst [.ref p1, .ref p2])) (.ref p2) .ff := dp_ff (SqT.of (e3 _ _ upd_same))
    obtain ⟨y, hy, aty⟩ := atI_lt (xs := [V.ref p1, .ref p2]) (n := 2) rfl (d2 % 2) (by omega) (by omega)
    refine ⟨_, rfl, .inl ⟨_, rfl, _, _, rfl, rfl, P2, L, _, _, _, rfl, rfl, SqL.of upd_same, aty, ?_⟩⟩
    rcases List.mem_cons.mp hy with h | h
    · rw [h]; exact q .tt _ _ (e1.trans (e2.trans e3)) t1 (fun c hc => by simp [found] at hc) rfl
    · rw [List.mem_singleton.mp h]; exact q .ff _ _ (e1.trans (e2.trans e3)) t2 (fun c hc => by simp [found] at hc) rfl
  refine nxt ⟨s3, fun L hL => ?_⟩
  have e1 := Evl.Ex.new hL (o := HO.lst [.str "equal", .str "below", .str "upto"])
  obtain ⟨y, hy, aty⟩ := atI_lt (xs := [V.str "equal", .str "below", .str "upto"]) (n := 3) rfl (d1 / 8 % 3) (by omega) (by omega)
  refine ⟨_, rfl, .inl ⟨_, rfl, _, _, rfl, rfl, d8, _, _, rfl, rfl, P3, L, _, _, _, rfl, rfl, SqL.of upd_same, aty, ?_⟩⟩
  obtain ⟨o, rfl⟩ : ∃ o : CO, y = .str o.s := by
    simp only [List.mem_cons, List.not_mem_nil, or_false] at hy
    rcases hy with h | h | h
    · exact ⟨.eq, h⟩
    · exact ⟨.below, h⟩
    · exact ⟨.upto, h⟩
  dsimp only [gName]
  generalize upd H L (HO.lst [.str "equal", .str "below", .str "upto"]) = H1 at e1 ⊢
  have hN1 := Evl.ex_l e1 hN
  refine ⟨_, rfl, few, rfl, ite2 (fun c => ?_) (fun c => ?_)⟩
  · obtain ⟨x1, hx1, at1⟩ := atI_mod hp (d1 / 24)
    dsimp only [tRet, tTup, tCons, tNil, tC]
    refine ⟨_, rfl, _, rfl, _, rfl, .inl ⟨_, rfl, _, _, rfl, rfl, d24, _, rfl, _, ns.length, rfl, .inl ⟨_, hN1, by rw [List.length_map]⟩, _, _, rfl, rfl, lp, an, _, _, _, rfl, rfl, hN1, at1, s2, fun p1 hp1 => ?_⟩⟩
    have e2 := Evl.Ex.new hp1 (o := HO.tup [.str "name", .str x1])
    have h2 : upd H1 p1 (.tup [.str "name", .str x1]) p1 = some (.tup [.str "name", .str x1]) := upd_same
    generalize upd H1 p1 (HO.tup [.str "name", .str x1]) = H2 at e2 h2 ⊢
    refine ⟨_, rfl, .inl ⟨_, rfl, _, _, rfl, rfl, P3, s2, fun p2 hp2 => ?_⟩⟩
    have e3 := Evl.Ex.new hp2 (o := HO.tup [.str "number", .int (d2 % 3)])
    have h3 : upd H2 p2 (.tup [.str "number", .int (d2 % 3)]) p2 = some (.tup [.str "number", .int (d2 % 3)]) := upd_same
    dsimp only
    generalize upd H2 p2 (HO.tup [.str "number", .int (d2 % 3)]) = H3 at e3 h3 ⊢
    refine ⟨s3, fun p3 hp3 => ?_⟩
    have e4 := Evl.Ex.new hp3 (o := HO.tup [.str o.s, .ref p1, .ref p2])
    obtain ⟨n1, n2⟩ := gt_nam (K := K) N hx1 h2
    refine q (.cmp ⟨o, .nam x1, .num (d2 % 3)⟩) _ _ (e1.trans (e2.trans (e3.trans e4))) ?_ (wf_cmp (ok_cm n2 ⟨trivial, by simp [Tm.dep], by simp [Tm.ok]⟩)) rfl
    show Dp K _ _ (fD (.cmp ⟨o, .nam x1, .num (d2 % 3)⟩))
    simp only [fD]
    exact dp_cmp upd_same (Dp.ex' n1 (e3.trans e4)) (Dp.ex' (dt_num h3) e4)
  · refine nxt ?_
    dsimp only [tRet, tTup, tCons, tNil, tC]
    refine ⟨_, rfl, _, rfl, .inl ⟨_, rfl, _, _, rfl, rfl, d24, _, rfl, .inl ⟨_, rfl, _, _, rfl, rfl, P5, _, _, rfl, rfl, .inr ⟨by decide, by decide⟩, _, _, rfl, rfl, _, rfl, _, rfl, _, g, an, ns, rfl, hN1, N, fun v1 H2 e2 G2 => ?_⟩⟩⟩
    refine ⟨_, rfl, _, rfl, _, rfl, d2, g, an, ns, rfl, Evl.ex_l e2 hN1, N, fun v2 H3 e3 G3 => ⟨s3, fun p3 hp3 => ?_⟩⟩
    have e4 := Evl.Ex.new hp3 (o := HO.tup [.str o.s, v1, v2])
    obtain ⟨t, ht, gt⟩ := G2
    obtain ⟨u, hu, gu⟩ := G3
    refine q (.cmp ⟨o, t, u⟩) _ _ (e1.trans (e2.trans (e3.trans e4))) ?_ (wf_cmp (ok_cm gt gu)) rfl
    show Dp K _ _ (fD (.cmp ⟨o, t, u⟩))
    simp only [fD]
    exact dp_cmp upd_same (Dp.ex' ht (e3.trans e4)) (Dp.ex' hu e4)
end
end W16
set_option Elab.async false
set_option linter.all false
set_option maxRecDepth 100000
set_option maxHeartbeats 4000000
namespace W16
open PySem PySem.Spec PyProof.Rows L2
open PySem.PyData (strOk)
open Evl (Ex)
theorem fDs_noL : ∀ fs : List Fm, noLs (fs.map fD) = true
  | [] => by simp [noLs]
  | c :: r => by rw [List.map_cons, noLs, fD_noL, fDs_noL r]; rfl
theorem dpa_unsnoc {K : PySem.W.Frag} {H : Hp} {g : Fm} : ∀ {gs : List Fm} {vs : List V}, DpAll K H vs ((gs ++ [g]).map fD) → ∃ us u, vs = us ++ [u] ∧ DpAll K H us (gs.map fD) ∧ DF K H u g
  | [], vs, h => by
    obtain ⟨x, rfl, hx⟩ := DpAll.one (show DpAll K H vs [fD g] from h)
    exact ⟨[], x, rfl, .nil, hx⟩
  | f :: gs, vs, h => by
    cases h with
    | cons h1 h2 =>
      obtain ⟨us, u, rfl, h3, h4⟩ := dpa_unsnoc (gs := gs) h2
      exact ⟨_ :: us, u, rfl, .cons h1 h3, h4⟩
structure Stk (K : PySem.W.Frag) (H0 : Hp) (ns : List Str) (Ds : Addr) (H : Hp) (vs : List V) (fs : List Fm) : Prop where
  e : Ex H0 H
  st : H Ds = some (.lst vs)
  d : DpAll K H vs (fs.map fD)
  wf : ∀ f ∈ fs, f.wf ns
section
variable {K : PySem.W.Frag} {H0 H H' : Hp} {ns : List Str} {Ds : Addr} {vs : List V} {fs gs : List Fm} {f g : Fm} {v : V}
theorem Stk.pop (h0 : H0 Ds = none) (s : Stk K H0 ns Ds H vs (gs ++ [g])) : ∃ us u, vs = us ++ [u] ∧ vs[vs.length - 1]? = some u ∧ vs.dropLast = us ∧ Stk K H0 ns Ds (upd H Ds (.lst us)) us gs ∧ DF K (upd H Ds (.lst us)) u g ∧ g.wf ns := by
  obtain ⟨us, u, rfl, h1, h2⟩ := dpa_unsnoc s.d
  have nx : NEx H (upd H Ds (.lst us)) := NEx.lst s.st
  exact ⟨us, u, rfl, by simp, by simp, ⟨Evl.Ex.mut s.e h0, upd_same, dpa_nex nx _ _ (fDs_noL gs) h1, fun f hf => s.wf f (List.mem_append_left _ hf)⟩, h2.nex nx, s.wf g (List.mem_append_right _ (List.mem_singleton.mpr rfl))⟩
theorem Stk.keep {o : HO} (s : Stk K H0 ns Ds H vs fs) (e : Ex H H') : Stk K H0 ns Ds H' vs fs := ⟨s.e.trans e, e _ _ s.st, dpa_ex e _ _ s.d, s.wf⟩
theorem Stk.push (h0 : H0 Ds = none) (s : Stk K H0 ns Ds H vs gs) (e : Ex H H') (hv : DF K H' v f) (hw : f.wf ns) : Stk K H0 ns Ds (upd H' Ds (.lst (vs ++ [v]))) (vs ++ [v]) (gs ++ [f]) := by
  have nx : NEx H' (upd H' Ds (.lst (vs ++ [v]))) := NEx.lst (e _ _ s.st)
  refine ⟨Evl.Ex.mut (s.e.trans e) h0, upd_same, ?_, fun x hx => ?_⟩
  · rw [List.map_append]
    exact dpa_snoc (hv.nex nx) (dpa_nex nx _ _ (fDs_noL gs) (dpa_ex e _ _ s.d))
  · rcases List.mem_append.mp hx with z | z
    · exact s.wf x z
    · rw [List.mem_singleton.mp z]; exact hw
theorem Stk.len (s : Stk K H0 ns Ds H vs fs) : vs.length = fs.length := by rw [dpa_len s.d, List.length_map]
end
def szs (fs : List Fm) : Nat := (fs.map Fm.size).sum
theorem szs_snoc (fs : List Fm) (f : Fm) : szs (fs ++ [f]) = szs fs + f.size := by unfold szs; rw [List.map_append, List.sum_append]; simp
theorem szs_len : ∀ fs : List Fm, fs.length ≤ szs fs
  | [] => Nat.zero_le _
  | f :: r => by
    have h1 := szs_len r
    have h2 := size_pos f
    unfold szs at h1 ⊢
    rw [List.map_cons, List.sum_cons, List.length_cons]
    omega
theorem snoc_of {fs : List Fm} (h : 1 ≤ fs.length) : ∃ gs g, fs = gs ++ [g] := by
  rcases List.eq_nil_or_concat fs with e | ⟨gs, g, e⟩
  · rw [e] at h; simp at h
  · exact ⟨gs, g, by rw [e]; simp⟩
def bws : List V := [.str "and", .str "or", .str "implies", .str "same", .str "until", .str "release", .str "unless", .str "strong"]
def uws : List V := [.str "not", .str "next", .str "eventually", .str "always", .str "not", .str "next"]
theorem bws_at (z : Int) (h1 : 0 ≤ z) (h2 : z < 8) : ∃ o : BO, atI bws z = some (.str o.s) := by
  obtain ⟨y, hy, h⟩ := atI_lt (xs := bws) (n := 8) rfl z h1 h2
  have : ∃ o : BO, y = .str o.s := by
    simp only [bws, List.mem_cons, List.not_mem_nil, or_false] at hy
    rcases hy with h | h | h | h | h | h | h | h
    · exact ⟨.and, h⟩
    · exact ⟨.or, h⟩
    · exact ⟨.imp, h⟩
    · exact ⟨.same, h⟩
    · exact ⟨.til, h⟩
    · exact ⟨.rel, h⟩
    · exact ⟨.unl, h⟩
    · exact ⟨.strong, h⟩
  obtain ⟨o, rfl⟩ := this
  exact ⟨o, h⟩
theorem uws_at (z : Int) (h1 : 0 ≤ z) (h2 : z < 6) : ∃ o : UO, atI uws z = some (.str o.s) := by
  obtain ⟨y, hy, h⟩ := atI_lt (xs := uws) (n := 6) rfl z h1 h2
  have : ∃ o : UO, y = .str o.s := by
    simp only [uws, List.mem_cons, List.not_mem_nil, or_false] at hy
    rcases hy with h | h | h | h | h | h
    · exact ⟨.not, h⟩
    · exact ⟨.next, h⟩
    · exact ⟨.ev, h⟩
    · exact ⟨.alw, h⟩
    · exact ⟨.not, h⟩
    · exact ⟨.next, h⟩
  obtain ⟨o, rfl⟩ := this
  exact ⟨o, h⟩
theorem ds_at {ds : List Int} {i : Nat} (h : i < ds.length) : ∃ d ∈ ds, atI (ds.map V.int) (i : Int) = some (.int d) := ⟨ds[i], List.getElem_mem h, atI_nat (by rw [List.getElem?_map, List.getElem?_eq_getElem h]; rfl)⟩
def spForm (K : PySem.W.Frag) : Sp := fun vs H Q _ => ∃ (ad an : Addr) (g pl : Int) (few : Bool) (ns : List Str) (ds : List Int) (m : Nat), vs = [.ref ad, .ref an, .int g, .bl few, .int pl] ∧ SqL K H ad (ds.map V.int) ∧ ds.length = 3 * m ∧ 1 ≤ m ∧ m ≤ 24 ∧ SqL K H an (ns.map V.str) ∧ Nms ns ∧ ∀ f v H', Ex H H' → DF K H' v f → f.wf ns → f.size ≤ 47 → Q v H'
section
variable {P : Program} {w : World} {K : PySem.W.Frag} {mg : Str → Option Value} {base : Heap}
abbrev nm_qformula : List Str := ["_law_draws_here", "_law_names_here", "_law_great", "_law_few", "_law_plain", "_law_unary", "_law_binary", "_law_stack", "_law_k", "_law_choice", "_law_second", "_law_first"]
theorem sc_qformula : FnScope nm_qformula ["_law_draws_here", "_law_names_here", "_law_great", "_law_few", "_law_plain"] (defScope s_qformula) := ⟨rfl, rfl, rfl, by decide +kernel, rfl, by decide +kernel, by decide +kernel⟩
theorem ok__law_formula (T : T16 K w mg) : Ok P w K mg base 3 (gA K "_law_formula") ["_law_draws_here", "_law_names_here", "_law_great", "_law_few", "_law_plain"] (spForm K) := by
  refine mkOk T.F__law_formula sc_qformula (fun _ _ _ _ _ _ us hl => match us, hl with | [_, _, _, _, _], _ => rfl) (fun vs H Q E h => ?_) fun cdv A outer s H vs Q E hr h => ?_
  · obtain ⟨ad, an, g, pl, few, ns, ds, m, rfl, _⟩ := h
    rfl
  obtain ⟨ad, an, g, pl, few, ns, ds, m, rfl, hA, hdl, hm1, hm2, hN, N, q⟩ := h
  refine ⟨_, (pss_cons (ps_set (i := 5) sc_qformula.nd rfl (.inl rfl) (pe_lst (pa_cons pe_str (pa_cons pe_str (pa_cons pe_str (pa_cons pe_str (pa_cons pe_str (pa_cons pe_str pa_nil))))))))
      (pss_cons (ps_set (i := 6) sc_qformula.nd rfl (.inl rfl) (pe_lst (pa_cons pe_str (pa_cons pe_str (pa_cons pe_str (pa_cons pe_str (pa_cons pe_str (pa_cons pe_str (pa_cons pe_str (pa_cons pe_str pa_nil))))))))))
      (pss_cons (ps_set (i := 7) sc_qformula.nd rfl (.inl rfl) (pe_lst pa_nil))
      (pss_cons (ps_for PassesOwn.never rfl (pi_range1 (by rfl) T.z_range (pa_cons (pe_op op_fdiv (pe_callB call_len (by rfl) T.z_len (by decide +kernel) (pa_cons (pv 0) pa_nil)) pe_int) pa_nil)) (pg_name (i := 8) sc_qformula.nd rfl (.inl rfl)) (pss_cons (ps_set (i := 9) sc_qformula.nd rfl (.inl rfl) (pe_op op_mod (pe_callTy call_int1 (by rfl) T.z_int (by decide +kernel) (pa_cons (pe_ix ix_list (pv 0) (pe_op op_mul pe_int (pv 8)) (fun _ _ => rfl)) pa_nil)) pe_int))
      (pss_one (ps_if (PW.pt (pw_and (pt_cmpR op_ge (pv 9) pe_int (nomark _)) (pw_and1 (pt_cmpR op_gt (pe_callB call_len (by rfl) T.z_len (by decide +kernel) (pa_cons (pv 7) pa_nil)) pe_int (nomark _))))) (pss_cons (ps_set (i := 10) sc_qformula.nd rfl (.inl rfl) (pe_bm0 PySem.F.plainAttrs_list PySem.F.slot_list_pop PySem.F.type_list_pop mt_pop (pv 7)))
      (pss_cons (ps_set (i := 11) sc_qformula.nd rfl (.inl rfl) (pe_bm0 PySem.F.plainAttrs_list PySem.F.slot_list_pop PySem.F.type_list_pop mt_pop (pv 7)))
      (pss_one (ps_expr (pe_bm PySem.F.plainAttrs_list PySem.F.slot_list_append PySem.F.type_list_append mt_append (pv 7) (pa_cons (pe_tup (pa_cons (pe_ix ix_list (pv 6) (pe_op op_sub (pv 9) pe_int) (fun _ _ => rfl)) (pa_cons (pv 11) (pa_cons (pv 10) pa_nil)))) pa_nil)))))) (pss_one (ps_if (PW.pt (pw_and (pt_cmpR op_le pe_int (pv 9) (nomark _)) (pw_and (pt_cmpR op_lt (pv 9) pe_int (nomark _)) (pw_and1 (pt_cmpR op_gt (pe_callB call_len (by rfl) T.z_len (by decide +kernel) (pa_cons (pv 7) pa_nil)) pe_int (nomark _)))))) (pss_cons (ps_set (i := 11) sc_qformula.nd rfl (.inl rfl) (pe_bm0 PySem.F.plainAttrs_list PySem.F.slot_list_pop PySem.F.type_list_pop mt_pop (pv 7)))
      (pss_one (ps_expr (pe_bm PySem.F.plainAttrs_list PySem.F.slot_list_append PySem.F.type_list_append mt_append (pv 7) (pa_cons (pe_tup (pa_cons (pe_ix ix_list (pv 5) (pe_op op_sub (pv 9) pe_int) (fun _ _ => rfl)) (pa_cons (pv 11) pa_nil))) pa_nil))))) (pss_one (ps_expr (pe_bm PySem.F.plainAttrs_list PySem.F.slot_list_append PySem.F.type_list_append mt_append (pv 7) (pa_cons (pc (ok__law_leaf T) (hr.mono (by omega)) T.g__law_leaf (pa_cons (pe_ix ix_list (pv 0) (pe_op op_add (pe_op op_mul pe_int (pv 8)) pe_int) (fun _ _ => rfl)) (pa_cons (pe_ix ix_list (pv 0) (pe_op op_add (pe_op op_mul pe_int (pv 8)) pe_int) (fun _ _ => rfl)) (pa_cons (pv 1) (pa_cons (pv 2) (pa_cons (pv 3) (pa_cons (pv 4) pa_nil))))))) pa_nil))))))))))
      (pss_cons (ps_for PassesOwn.never rfl (pi_range1 (by rfl) T.z_range (pa_cons (pe_op op_sub (pe_callB call_len (by rfl) T.z_len (by decide +kernel) (pa_cons (pv 7) pa_nil)) pe_int) pa_nil)) (pg_name (i := 8) sc_qformula.nd rfl (.inl rfl)) (pss_cons (ps_set (i := 10) sc_qformula.nd rfl (.inl rfl) (pe_bm0 PySem.F.plainAttrs_list PySem.F.slot_list_pop PySem.F.type_list_pop mt_pop (pv 7)))
      (pss_cons (ps_set (i := 11) sc_qformula.nd rfl (.inl rfl) (pe_bm0 PySem.F.plainAttrs_list PySem.F.slot_list_pop PySem.F.type_list_pop mt_pop (pv 7)))
      (pss_one (ps_expr (pe_bm PySem.F.plainAttrs_list PySem.F.slot_list_append PySem.F.type_list_append mt_append (pv 7) (pa_cons (pe_tup (pa_cons (pe_ix ix_list (pv 6) (pe_op op_mod (pe_callTy call_int1 (by rfl) T.z_int (by decide +kernel) (pa_cons (pe_ix ix_list (pv 0) (pv 8) (fun _ _ => rfl)) pa_nil)) pe_int) (fun _ _ => rfl)) (pa_cons (pv 11) (pa_cons (pv 10) pa_nil)))) pa_nil)))))))
      (pss_one (ps_ret (pe_ix ix_list (pv 7) pe_int (fun _ _ => rfl))))))))), ?_⟩
  refine ⟨(by show 6 ≤ sizeLine; decide), fun U hU => ⟨(by show 8 ≤ sizeLine; decide), fun B hB => ?_⟩⟩
  have e1 := Evl.Ex.new hU (o := HO.lst uws)
  have e2 := Evl.Ex.new hB (o := HO.lst bws)
  have gU : upd (upd H U (.lst uws)) B (.lst bws) U = some (.lst uws) := e2 _ _ upd_same
  have gB : upd (upd H U (.lst uws)) B (.lst bws) B = some (.lst bws) := upd_same
  have e12 : Ex H (upd (upd H U (.lst uws)) B (.lst bws)) := e1.trans e2
  show tSeq _ _ _ _ (upd (upd H U (.lst uws)) B (.lst bws))
  generalize upd (upd H U (.lst uws)) B (.lst bws) = H2 at e12 gU gB ⊢
  clear e1 e2 hB
  refine ⟨Nat.zero_le _, fun Ds hDs => ?_⟩
  have P24 : (0 : Int) < 24 := by decide
  have P8 : (0 : Int) < 8 := by decide
  have s2 : (2 : Nat) ≤ sizeLine := by decide
  have s3 : (3 : Nat) ≤ sizeLine := by decide
  have hA2 : SqL K H2 ad (ds.map V.int) := Evl.ex_l e12 hA
  have S0 : Stk K H2 ns Ds (upd H2 Ds (.lst [])) [] [] := ⟨Evl.Ex.new hDs, upd_same, .nil, fun f hf => by simp at hf⟩
  refine ⟨_, rfl, _, 3 * m, rfl, .inl ⟨_, Evl.ex_l S0.e hA2, by rw [List.length_map, hdl]⟩, _, _, rfl, rfl, ⟨by decide, by decide⟩, _, rfl, by omega, by omega, ?_⟩
  rw [show (((3 * m : Nat) : Int) / 3).toNat = m by omega]
  refine for_range (lo := 0) (n := m) (fun i σ H' => ∃ (vs : List V) (fs : List Fm) (x8 x9 x10 x11 : Option V), Stk K H2 ns Ds H' vs fs ∧ szs fs ≤ i ∧ (0 < i → 1 ≤ fs.length) ∧ σ = [some (.ref ad), some (.ref an), some (.int g), some (.bl few), some (.int pl), some (.ref U), some (.ref B), some (.ref Ds), x8, x9, x10, x11]) ⟨[], [], none, none, none, none, S0, Nat.le_refl _, fun h => absurd h (Nat.lt_irrefl 0), rfl⟩ ?_ ?_
  · rintro i σ H' hi ⟨vs, fs, x8, x9, x10, x11, S, hsz, hln, rfl⟩
    rw [Int.zero_add]
    have hA3 := Evl.ex_l S.e hA2
    have hN3 := Evl.ex_l (e12.trans S.e) hN
    have hlen := szs_len fs
    have hvl := S.len
    obtain ⟨d, hd, atd⟩ := ds_at (ds := ds) (i := 3 * i) (by omega)
    have at3 : atI (ds.map V.int) (3 * (i : Int)) = some (.int d) := by rw [show (3 * (i : Int)) = ((3 * i : Nat) : Int) by omega]; exact atd
    refine ⟨_, rfl, _, rfl, _, _, rfl, rfl, .inl ⟨by decide, by decide⟩, ad, _, _, _, rfl, rfl, hA3, at3, .inl ⟨_, rfl, _, _, rfl, rfl, P24, ?_⟩⟩
    have c0 : 0 ≤ d % 24 := by omega
    have c24 : d % 24 < 24 := by omega
    dsimp only [gName]
    generalize d % 24 = c at c0 c24 ⊢
    have leaf : ∀ D : Ends, (∀ σ H', (∃ (vs : List V) (fs : List Fm) (x8 x9 x10 x11 : Option V), Stk K H2 ns Ds H' vs fs ∧ szs fs ≤ i + 1 ∧ (0 < i + 1 → 1 ≤ fs.length) ∧ σ = [some (.ref ad), some (.ref an), some (.int g), some (.bl few), some (.int pl), some (.ref U), some (.ref B), some (.ref Ds), x8, x9, x10, x11]) → D.nx σ H') → tDrop (tBM K "list" rAppend (tVar 7) (tCons (tCall (spLeaf K) [] E0 (tCons (tOp (rIxL K) (tVar 0) (tOp (rI0 fun i j => .int (i + j)) (tOp (rI CMul fun i j => .int (i * j)) (tC (.int 3)) (tVar 8)) (tC (.int 1)))) (tCons (tOp (rIxL K) (tVar 0) (tOp (rI0 fun i j => .int (i + j)) (tOp (rI CMul fun i j => .int (i * j)) (tC (.int 3)) (tVar 8)) (tC (.int 2)))) (tCons (tVar 1) (tCons (tVar 2) (tCons (tVar 3) (tCons (tVar 4) tNil))))))) tNil))
        D
        [some (.ref ad), some (.ref an), some (.int g), some (.bl few), some (.int pl), some (.ref U), some (.ref B), some (.ref Ds), some (.int i), some (.int c), x10, x11] H' := by
      intro D hD
      obtain ⟨d1, _, at1⟩ := ds_at (ds := ds) (i := 3 * i + 1) (by omega)
      obtain ⟨d2, _, at2⟩ := ds_at (ds := ds) (i := 3 * i + 2) (by omega)
      have at1' : atI (ds.map V.int) (3 * (i : Int) + 1) = some (.int d1) := by rw [show (3 * (i : Int) + 1) = ((3 * i + 1 : Nat) : Int) by omega]; exact at1
      have at2' : atI (ds.map V.int) (3 * (i : Int) + 2) = some (.int d2) := by rw [show (3 * (i : Int) + 2) = ((3 * i + 2 : Nat) : Int) by omega]; exact at2
      refine ⟨_, rfl, .inl ⟨rfl, _, SqL.of S.st⟩, _, rfl, _, rfl, _, _, rfl, rfl, .inl ⟨by decide, by decide⟩, _, _, rfl, rfl, ad, _, _, _, rfl, rfl, hA3, at1', _, rfl, _, rfl, _, _, rfl, rfl, .inl ⟨by decide, by decide⟩, _, _, rfl, rfl, ad, _, _, _, rfl, rfl, hA3, at2', _, rfl, _, rfl, _, rfl, _, rfl, d1, d2, g, pl, few, an, ns, rfl, hN3, N, fun f v H5 e5 hv hw hs1 => ?_⟩
      refine ⟨Ds, vs, v, rfl, rfl, e5 _ _ S.st, Evl.sz_lt (by omega), hD _ _ ⟨vs ++ [v], fs ++ [f], _, _, _, _, S.push hDs e5 hv hw, ?_, fun _ => by rw [List.length_append, List.length_singleton]; omega, rfl⟩⟩
      rw [szs_snoc, hs1]
      omega
    refine ⟨_, rfl, _, _, rfl, rfl, _, rfl, ite2 (fun c1 => ⟨_, rfl, _, fs.length, rfl, .inl ⟨_, SqL.of S.st, hvl.symm⟩, _, _, rfl, rfl, _, rfl, ite2 (fun c2 => ?_) (fun c2 => ?_)⟩) (fun c1 => ?_)⟩
    · have c1' : (16 : Int) ≤ c := of_decide_eq_true c1
      have c2' : (1 : Int) < (fs.length : Int) := of_decide_eq_true c2
      obtain ⟨gs, g1, rfl⟩ := snoc_of (fs := fs) (by omega)
      rw [List.length_append, List.length_singleton] at c2'
      obtain ⟨hs, h1, rfl⟩ := snoc_of (fs := gs) (by omega)
      obtain ⟨us, u, ev, eg, ed, S2, du, wu⟩ := S.pop hDs
      obtain ⟨ts, t, ev2, eg2, ed2, S3, dt, wt⟩ := S2.pop hDs
      refine ⟨_, rfl, .inl ⟨rfl, _, SqL.of S.st⟩, Ds, vs, u, rfl, rfl, S.st, eg, ?_⟩
      rw [ed]
      refine ⟨_, rfl, .inl ⟨rfl, _, SqL.of S2.st⟩, Ds, us, t, rfl, rfl, S2.st, eg2, ?_⟩
      rw [ed2]
      obtain ⟨o, ato⟩ := bws_at (c - 16) (by omega) (by omega)
      have du3 : DF K (upd (upd H' Ds (.lst us)) Ds (.lst ts)) u g1 := du.nex (NEx.lst S2.st)
      refine ⟨_, rfl, .inl ⟨rfl, _, SqL.of S3.st⟩, _, rfl, _, rfl, _, _, rfl, rfl, B, _, _, _, rfl, rfl, SqL.of (S3.e _ _ gB), ato, _, rfl, _, rfl, s3, fun p hp => ?_⟩
      have e5 := Evl.Ex.new hp (o := HO.tup [.str o.s, t, u])
      have ts1 := szs_len hs
      have tl := S3.len
      rw [szs_snoc, szs_snoc] at hsz
      refine ⟨Ds, ts, _, rfl, rfl, e5 _ _ S3.st, Evl.sz_lt (by omega), ts ++ [.ref p], hs ++ [.bin o h1 g1], _, _, _, _, S3.push hDs e5 (dp_bin upd_same (Dp.ex' dt e5) (Dp.ex' du3 e5)) (fun c hc => (List.mem_append.mp hc).elim (wt c) (wu c)), ?_, fun _ => by rw [List.length_append, List.length_singleton]; omega, rfl⟩
      rw [szs_snoc]
      simp only [Fm.size]
      omega
    · have c1' : (16 : Int) ≤ c := of_decide_eq_true c1
      refine ⟨_, rfl, _, _, rfl, rfl, _, rfl, ite2 (fun c3 => ⟨_, rfl, _, _, rfl, rfl, _, rfl, ite2 (fun c4 => ?_) (fun c4 => leaf _ fun _ _ h => h)⟩) (fun c3 => leaf _ fun _ _ h => h)⟩
      have c4' : c < (16 : Int) := of_decide_eq_true c4
      omega
    · have c1' : ¬ (16 : Int) ≤ c := fun z => c1 (decide_eq_true z)
      refine ⟨_, rfl, _, _, rfl, rfl, _, rfl, ite2 (fun c3 => ⟨_, rfl, _, _, rfl, rfl, _, rfl, ite2 (fun c4 => ⟨_, rfl, _, fs.length, rfl, .inl ⟨_, SqL.of S.st, hvl.symm⟩, _, _, rfl, rfl, _, rfl, ite2 (fun c5 => ?_) (fun c5 => leaf _ fun _ _ h => h)⟩) (fun c4 => leaf _ fun _ _ h => h)⟩) (fun c3 => leaf _ fun _ _ h => h)⟩
      have c3' : (10 : Int) ≤ c := of_decide_eq_true c3
      have c5' : (0 : Int) < (fs.length : Int) := of_decide_eq_true c5
      obtain ⟨gs, g1, rfl⟩ := snoc_of (fs := fs) (by omega)
      obtain ⟨us, u, ev, eg, ed, S2, du, wu⟩ := S.pop hDs
      refine ⟨_, rfl, .inl ⟨rfl, _, SqL.of S.st⟩, Ds, vs, u, rfl, rfl, S.st, eg, ?_⟩
      rw [ed]
      obtain ⟨o, ato⟩ := uws_at (c - 10) (by omega) (by omega)
      refine ⟨_, rfl, .inl ⟨rfl, _, SqL.of S2.st⟩, _, rfl, _, rfl, _, _, rfl, rfl, U, _, _, _, rfl, rfl, SqL.of (S2.e _ _ gU), ato, _, rfl, s2, fun p hp => ?_⟩
      have e5 := Evl.Ex.new hp (o := HO.tup [.str o.s, u])
      have ts1 := szs_len gs
      have tl := S2.len
      rw [szs_snoc] at hsz
      refine ⟨Ds, us, _, rfl, rfl, e5 _ _ S2.st, Evl.sz_lt (by omega), us ++ [.ref p], gs ++ [.un o g1], _, _, _, _, S2.push hDs e5 (dp_un upd_same (Dp.ex' du e5)) wu, ?_, fun _ => by rw [List.length_append, List.length_singleton]; omega, rfl⟩
      rw [szs_snoc]
      simp only [Fm.size]
      omega
  · rintro σ H' ⟨vs, fs, x8, x9, x10, x11, S, hsz, hln, rfl⟩
    have hl1 := hln (by omega)
    have hlen := szs_len fs
    have hvl := S.len
    refine ⟨_, rfl, _, fs.length, rfl, .inl ⟨_, SqL.of S.st, hvl.symm⟩, _, _, rfl, rfl, _, rfl, by omega, by omega, ?_⟩
    rw [show ((fs.length : Int) - 1).toNat = fs.length - 1 by omega]
    refine for_range (lo := 0) (n := fs.length - 1) (fun i σ H' => ∃ (vs : List V) (hs : List Fm) (x8 x9 x10 x11 : Option V), Stk K H2 ns Ds H' vs hs ∧ szs hs ≤ m + i ∧ hs.length + i = fs.length ∧ σ = [some (.ref ad), some (.ref an), some (.int g), some (.bl few), some (.int pl), some (.ref U), some (.ref B), some (.ref Ds), x8, x9, x10, x11]) ⟨vs, fs, _, _, _, _, S, hsz, rfl, rfl⟩ ?_ ?_
    · rintro i σ H' hi ⟨vs, ks, x8, x9, x10, x11, S, hsz2, hl2, rfl⟩
      rw [Int.zero_add]
      have hA3 := Evl.ex_l S.e hA2
      obtain ⟨d, hd, atd⟩ := ds_at (ds := ds) (i := i) (by omega)
      obtain ⟨gs, g1, rfl⟩ := snoc_of (fs := ks) (by omega)
      rw [List.length_append, List.length_singleton] at hl2
      obtain ⟨hs, h1, rfl⟩ := snoc_of (fs := gs) (by omega)
      obtain ⟨us, u, ev, eg, ed, S2, du, wu⟩ := S.pop hDs
      obtain ⟨ts, t, ev2, eg2, ed2, S3, dt, wt⟩ := S2.pop hDs
      refine ⟨_, rfl, .inl ⟨rfl, _, SqL.of S.st⟩, Ds, vs, u, rfl, rfl, S.st, eg, ?_⟩
      rw [ed]
      refine ⟨_, rfl, .inl ⟨rfl, _, SqL.of S2.st⟩, Ds, us, t, rfl, rfl, S2.st, eg2, ?_⟩
      rw [ed2]
      obtain ⟨o, ato⟩ := bws_at (d % 8) (by omega) (by omega)
      have du3 : DF K (upd (upd H' Ds (.lst us)) Ds (.lst ts)) u g1 := du.nex (NEx.lst S2.st)
      refine ⟨_, rfl, .inl ⟨rfl, _, SqL.of S3.st⟩, _, rfl, _, rfl, _, rfl, ad, _, _, _, rfl, rfl, Evl.ex_l S3.e hA2, atd, .inl ⟨_, rfl, _, _, rfl, rfl, P8, B, _, _, _, rfl, rfl, SqL.of (S3.e _ _ gB), ato, _, rfl, _, rfl, s3, fun p hp => ?_⟩⟩
      have e5 := Evl.Ex.new hp (o := HO.tup [.str o.s, t, u])
      have ts1 := szs_len hs
      have tl := S3.len
      rw [szs_snoc, szs_snoc] at hsz2
      rw [List.length_append, List.length_singleton] at hl2
      refine ⟨Ds, ts, _, rfl, rfl, e5 _ _ S3.st, Evl.sz_lt (by omega), ts ++ [.ref p], hs ++ [.bin o h1 g1], _, _, _, _, S3.push hDs e5 (dp_bin upd_same (Dp.ex' dt e5) (Dp.ex' du3 e5)) (fun c hc => (List.mem_append.mp hc).elim (wt c) (wu c)), ?_, by rw [List.length_append, List.length_singleton]; omega, rfl⟩
      rw [szs_snoc]
      simp only [Fm.size]
      omega
    · rintro σ H' ⟨vs, ks, x8, x9, x10, x11, S, hsz2, hl2, rfl⟩
      obtain ⟨gs, g1, rfl⟩ := snoc_of (fs := ks) (by omega)
      rw [List.length_append, List.length_singleton] at hl2
      have eg0 : gs = [] := List.eq_nil_of_length_eq_zero (by omega)
      subst eg0
      rw [szs_snoc] at hsz2
      have ez : szs [] = 0 := rfl
      obtain ⟨x, rfl, hx⟩ := DpAll.one (show DpAll K H' vs [fD g1] from S.d)
      exact ⟨_, rfl, Ds, _, _, _, rfl, rfl, SqL.of S.st, atI_nat (j := 0) rfl, q g1 x H' (e12.trans S.e) hx (S.wf g1 (by simp)) (by omega)⟩
end
end W16
set_option Elab.async false
set_option linter.all false
set_option maxRecDepth 100000
set_option maxHeartbeats 4000000
namespace W16
open PySem PySem.Spec PyProof.Rows L2
open PySem.PyData (strOk)
open Evl (Ex)
theorem isiE {K : PySem.W.Frag} {te : TE} {σ : L2.St} {H : Hp} {x : V} {a b : String} {r : Bool} {Q : VK} (he : ∀ R : VK, R x H → te σ H R) (ty : TyX K H x (.type a)) (hk : kitB a b = some r) (q : Q (.bl r) H) : tCB (rIsi K) (tCons te (tCons (tC (.ty b)) tNil)) σ H Q := he _ (isiQ ty hk q)
def spSome (K : PySem.W.Frag) : Sp := fun vs H Q _ => ∃ (a an : Addr) (cs : List Int) (ns : List Str) (m : Nat), vs = [.ref a, .int 1, .ref an, .int m] ∧ SqL K H a (cs.map V.int) ∧ SqL K H an (ns.map V.str) ∧ Nms ns ∧ 1 ≤ m ∧ m ≤ 24 ∧ ∀ f v H', Ex H H' → DF K H' v f → f.wf ns → f.size ≤ 47 → Q v H'
structure StOk (K : PySem.W.Frag) (ns : List Str) (H : Hp) (xs : List V) (sts : List (List Int)) : Prop where
  len : xs.length = sts.length
  at_ : ∀ (i : Nat) (x : V), xs[i]? = some x → ∃ a zs, sts[i]? = some zs ∧ x = .ref a ∧ SqT K H a (zs.map V.int) ∧ Env1 ns zs
def spStates (K : PySem.W.Frag) : Sp := fun vs H Q _ => ∃ (ad an : Addr) (g : Int) (ns : List Str) (ds : List Int) (n : Nat), vs = [.ref ad, .int n, .ref an, .int g] ∧ SqL K H ad (ds.map V.int) ∧ ds.length = n * ns.length ∧ n ≤ 18 ∧ SqL K H an (ns.map V.str) ∧ Nms ns ∧ 0 ≤ g ∧ g < 1000000000000000000 ∧
  ∀ (D : Addr) (H' : Hp) (xs : List V) (sts : List (List Int)), H D = none → Ex H H' → H' D = some (.lst xs) → xs.length = n → StOk K ns H' xs sts → Q (.ref D) H'
def spBits (K : PySem.W.Frag) : Sp := fun vs H Q _ => ∃ (a b : Addr) (n : Nat) (f : Nat → Bool), vs = [.ref a, .ref b] ∧ n ≤ 1000 ∧ SqL K H a (bls n f) ∧ SqL K H b (bls n f) ∧ Q (.bl true) H
section
variable {P : Program} {w : World} {K : PySem.W.Frag} {mg : Str → Option Value} {base : Heap}
abbrev nm_qsome : List Str := ["_law_script", "_law_first", "_law_names_here", "_law_many_here", "_law_great", "_law_choice"]
theorem sc_qsome : FnScope nm_qsome ["_law_script", "_law_first", "_law_names_here", "_law_many_here"] (defScope s_qsome) := ⟨rfl, rfl, rfl, by decide +kernel, rfl, by decide +kernel, by decide +kernel⟩
theorem ok__law_some (T : T16 K w mg) : Ok P w K mg base 4 (gA K "_law_some") ["_law_script", "_law_first", "_law_names_here", "_law_many_here"] (spSome K) := by
  refine mkOk T.F__law_some sc_qsome (fun _ _ _ _ _ _ us hl => match us, hl with | [_, _, _, _], _ => rfl) (fun vs H Q E h => ?_) fun cdv A outer s H vs Q E hr h => ?_
  · obtain ⟨a, an, cs, ns, m, rfl, _⟩ := h
    rfl
  obtain ⟨a, an, cs, ns, m, rfl, hS, hN, N, hm1, hm2, q⟩ := h
  refine ⟨_, (pss_cons (ps_set (i := 4) sc_qsome.nd rfl (.inl rfl) (pe_op op_mod (pe_callTy call_int1 (by rfl) T.z_int (by decide +kernel) (pa_cons (pc (ok__law_cell T) (hr.mono (by omega)) T.g__law_cell (pa_cons (pv 0) (pa_cons (pe_op op_add (pv 1) pe_int) pa_nil))) pa_nil)) (pe_op op_sub (pe_op op_pow pe_int pe_int) pe_int)))
      (pss_cons (ps_set (i := 5) sc_qsome.nd rfl (.inl rfl) (pe_op op_mod (pe_callTy call_int1 (by rfl) T.z_int (by decide +kernel) (pa_cons (pc (ok__law_cell T) (hr.mono (by omega)) T.g__law_cell (pa_cons (pv 0) (pa_cons (pe_op op_add (pv 1) pe_int) pa_nil))) pa_nil)) pe_int))
      (pss_one (ps_ret (pc (ok__law_formula T) (hr.mono (by omega)) T.g__law_formula (pa_cons (pc (ok__law_draws T) (hr.mono (by omega)) T.g__law_draws (pa_cons (pv 0) (pa_cons (pv 1) (pa_cons (pe_op op_mul pe_int (pv 3)) pa_nil)))) (pa_cons (pv 2) (pa_cons (pv 4) (pa_cons (pe_cmpR op_eq (pe_op op_fdiv (pv 5) pe_int) pe_int (nomark _)) (pa_cons (pe_ix ix_list (pe_lst (pa_cons pe_int (pa_cons pe_int (pa_cons pe_int (pa_cons pe_int pa_nil))))) (pe_op op_mod (pv 5) pe_int) (fun _ _ => rfl)) pa_nil)))))))))), ?_⟩
  have P8 : (0 : Int) < 8 := by decide
  have P4 : (0 : Int) < 4 := by decide
  refine ⟨_, rfl, _, rfl, _, _, rfl, rfl, a, cs, _, rfl, by decide, hS, fun z => .inl ⟨_, rfl, _, _, rfl, rfl, ⟨by decide, by decide, by decide⟩, _, _, rfl, rfl, _, _, rfl, rfl, (by show (0 : Int) < 10 ^ (18 : Int).toNat - 2; decide), ?_⟩⟩
  refine ⟨_, rfl, _, rfl, _, _, rfl, rfl, a, cs, _, rfl, by decide, hS, fun z2 => .inl ⟨_, rfl, _, _, rfl, rfl, P8, ?_⟩⟩
  refine ⟨_, rfl, _, rfl, _, rfl, _, _, rfl, rfl, .inl ⟨by decide, by decide⟩, ?_⟩
  refine ⟨a, cs, 1, 3 * m, (by rw [show ((3 * m : Nat) : Int) = 3 * (m : Int) by omega]; rfl), by decide, by decide, by omega, hS, fun D H1 ds hD e1 hB hl hds => ?_⟩
  refine ⟨_, rfl, _, rfl, _, rfl, _, _, rfl, rfl, ⟨by decide, by decide⟩, rfl, (by show 4 ≤ sizeLine; decide), fun L hL => ?_⟩
  have e2 := Evl.Ex.new hL (o := HO.lst [.int 1, .int 0, .int 2, .int 4])
  obtain ⟨y, hy, aty⟩ := atI_lt (xs := [V.int 1, .int 0, .int 2, .int 4]) (n := 4) rfl (z2 % 8 % 4) (by omega) (by omega)
  obtain ⟨pl, rfl⟩ : ∃ pl : Int, y = .int pl := by
    simp only [List.mem_cons, List.not_mem_nil, or_false] at hy
    rcases hy with h | h | h | h
    · exact ⟨_, h⟩
    · exact ⟨_, h⟩
    · exact ⟨_, h⟩
    · exact ⟨_, h⟩
  refine ⟨_, rfl, _, _, rfl, rfl, P4, L, _, _, _, rfl, rfl, SqL.of upd_same, aty, ?_⟩
  exact ⟨D, an, _, pl, _, ns, ds, m, rfl, SqL.of (e2 _ _ hB), hl, hm1, hm2, Evl.ex_l (e1.trans e2) hN, N, fun f v H' e => q f v H' ((e1.trans e2).trans e)⟩
abbrev nm_qbits : List Str := ["_law_actual", "_law_expected", "_law_k"]
theorem sc_qbits : FnScope nm_qbits ["_law_actual", "_law_expected"] (defScope s_qbits) := ⟨rfl, rfl, rfl, by decide +kernel, rfl, by decide +kernel, by decide +kernel⟩
theorem ok__law_bits (T : T16 K w mg) : Ok P w K mg base 1 (gA K "_law_bits") ["_law_actual", "_law_expected"] (spBits K) := by
  refine mkOk T.F__law_bits sc_qbits (fun _ _ _ _ _ _ us hl => match us, hl with | [_, _], _ => rfl) (fun vs H Q E h => ?_) fun cdv A outer s H vs Q E hr h => ?_
  · obtain ⟨a, b, n, f, rfl, _⟩ := h
    rfl
  obtain ⟨a, b, n, f, rfl, hn, h1, h2, q⟩ := h
  refine ⟨_, (pss_cons (ps_if (PW.pt (pw_or (pt_not (pt_val (pe_callB call_isi (by rfl) T.z_isinstance (by decide +kernel) (pa_cons (pv 0) (pa_cons (pe_ty (n := "list") T.z_list (by decide +kernel)) pa_nil))))) (pw_or1 (pt_cmpR op_ne (pe_callB call_len (by rfl) T.z_len (by decide +kernel) (pa_cons (pv 0) pa_nil)) (pe_callB call_len (by rfl) T.z_len (by decide +kernel) (pa_cons (pv 1) pa_nil)) (nomark _))))) (pss_one (ps_ret pe_bl)) pss_nil)
      (pss_cons (ps_for PassesOwn.never rfl (pi_range1 (by rfl) T.z_range (pa_cons (pe_callB call_len (by rfl) T.z_len (by decide +kernel) (pa_cons (pv 1) pa_nil)) pa_nil)) (pg_name (i := 2) sc_qbits.nd rfl (.inl rfl)) (pss_one (ps_if (PW.pt (pw_or (pt_not (pt_val (pe_callB call_isi (by rfl) T.z_isinstance (by decide +kernel) (pa_cons (pe_ix ix_list (pv 0) (pv 2) (fun _ _ => rfl)) (pa_cons (pe_ty (n := "bool") T.z_bool (by decide +kernel)) pa_nil))))) (pw_or1 (pt_cmpR op_ne (pe_ix ix_list (pv 0) (pv 2) (fun _ _ => rfl)) (pe_ix ix_list (pv 1) (pv 2) (fun _ _ => rfl)) (nomark _))))) (pss_one (ps_ret pe_bl)) pss_nil)))
      (pss_one (ps_ret pe_bl)))), ?_⟩
  refine isiV (b := "list") (a := "list") (r := true) rfl (tyx_lst h1) (by decide +kernel) ⟨_, rfl, iteF ⟨_, rfl, _, n, rfl, .inl ⟨_, h1, (bls_len _ _).symm⟩, _, rfl, _, n, rfl, .inl ⟨_, h2, (bls_len _ _).symm⟩, rfl, _, rfl, ?_⟩⟩
  rw [decide_eq_true (show (V.int (n : Int)) = V.int (n : Int) from rfl)]
  refine iteF (nxt ⟨_, rfl, _, n, rfl, .inl ⟨_, h2, (bls_len _ _).symm⟩, (n : Int), rfl, by omega, by omega, for_range (lo := 0) (n := n) (fun i σ H' => H' = H ∧ ∃ x2, σ = [some (.ref a), some (.ref b), x2]) ⟨rfl, none, rfl⟩ ?_ ?_⟩)
  · rintro i σ H' hi ⟨rfl, x2, rfl⟩
    rw [Int.zero_add]
    refine isiE (b := "bool") (a := "bool") (r := true) (fun R h => ⟨_, rfl, _, rfl, a, _, _, _, rfl, rfl, h1, bls_at f hi, h⟩) (.base (.bl _)) (by decide +kernel) ⟨_, rfl, iteF ⟨_, rfl, _, rfl, a, _, _, _, rfl, rfl, h1, bls_at f hi, _, rfl, _, rfl, b, _, _, _, rfl, rfl, h2, bls_at f hi, rfl, _, rfl, ?_⟩⟩
    rw [decide_eq_true (show (V.bl (f i)) = V.bl (f i) from rfl)]
    exact iteF ⟨rfl, _, rfl⟩
  · rintro σ H' ⟨rfl, x2, rfl⟩
    exact q
abbrev nm_qstates : List Str := ["_law_draws_here", "_law_many_here", "_law_names_here", "_law_great", "_law_states_here", "_law_k", "_law_state", "_law_j", "_law_draw", "_law_worth"]
theorem sc_qstates : FnScope nm_qstates ["_law_draws_here", "_law_many_here", "_law_names_here", "_law_great"] (defScope s_qstates) := ⟨rfl, rfl, rfl, by decide +kernel, rfl, by decide +kernel, by decide +kernel⟩
theorem ok__law_states (T : T16 K w mg) : Ok P w K mg base 1 (gA K "_law_states") ["_law_draws_here", "_law_many_here", "_law_names_here", "_law_great"] (spStates K) := by
  refine mkOk T.F__law_states sc_qstates (fun _ _ _ _ _ _ us hl => match us, hl with | [_, _, _, _], _ => rfl) (fun vs H Q E h => ?_) fun cdv A outer s H vs Q E hr h => ?_
  · obtain ⟨ad, an, g, ns, ds, n, rfl, _⟩ := h
    rfl
  obtain ⟨ad, an, g, ns, ds, n, rfl, hA, hdl, hn, hN, N, hg1, hg2, q⟩ := h
  refine ⟨_, (pss_cons (ps_set (i := 4) sc_qstates.nd rfl (.inl rfl) (pe_lst pa_nil))
      (pss_cons (ps_for PassesOwn.never rfl (pi_range1 (by rfl) T.z_range (pa_cons (pv 1) pa_nil)) (pg_name (i := 5) sc_qstates.nd rfl (.inl rfl)) (pss_cons (ps_set (i := 6) sc_qstates.nd rfl (.inl rfl) (pe_tup pa_nil))
      (pss_cons (ps_for PassesOwn.never rfl (pi_range1 (by rfl) T.z_range (pa_cons (pe_callB call_len (by rfl) T.z_len (by decide +kernel) (pa_cons (pv 2) pa_nil)) pa_nil)) (pg_name (i := 7) sc_qstates.nd rfl (.inl rfl)) (pss_cons (ps_set (i := 8) sc_qstates.nd rfl (.inl rfl) (pe_callTy call_int1 (by rfl) T.z_int (by decide +kernel) (pa_cons (pe_ix ix_list (pv 0) (pe_op op_add (pe_op op_mul (pv 5) (pe_callB call_len (by rfl) T.z_len (by decide +kernel) (pa_cons (pv 2) pa_nil))) (pv 7)) (fun _ _ => rfl)) pa_nil)))
      (pss_cons (ps_set (i := 9) sc_qstates.nd rfl (.inl rfl) (pe_op op_sub (pe_op op_mod (pv 8) pe_int) pe_int))
      (pss_cons (ps_if (pt_cmpR op_eq (pe_op op_mod (pe_op op_fdiv (pv 8) pe_int) pe_int) pe_int (nomark _)) (pss_one (ps_set (i := 9) sc_qstates.nd rfl (.inl rfl) (pe_ix ix_list (pe_lst (pa_cons (pv 3) (pa_cons (pe_op op_sub pe_int (pv 3)) pa_nil))) (pe_op op_mod (pe_op op_fdiv (pv 8) pe_int) pe_int) (fun _ _ => rfl)))) pss_nil)
      (pss_one (ps_set (i := 6) sc_qstates.nd rfl (.inl rfl) (pe_op op_catA (pv 6) (pe_tup (pa_cons (pv 9) pa_nil)))))))))
      (pss_one (ps_expr (pe_bm PySem.F.plainAttrs_list PySem.F.slot_list_append PySem.F.type_list_append mt_append (pv 4) (pa_cons (pv 6) pa_nil)))))))
      (pss_one (ps_ret (pv 4))))), ?_⟩
  have P5 : (0 : Int) < 5 := by decide
  have P16 : (0 : Int) < 16 := by decide
  have P2 : (0 : Int) < 2 := by decide
  have k3 := N.few
  refine ⟨Nat.zero_le _, fun Ds hDs => ?_⟩
  have hlN : (ns.map V.str).length = ns.length := List.length_map _
  refine ⟨_, rfl, (n : Int), rfl, by omega, by omega, for_range (lo := 0) (n := n) (fun i σ H' => Ex H H' ∧ ∃ (xs : List V) (sts : List (List Int)) (x5 x6 x7 x8 x9 : Option V), H' Ds = some (.lst xs) ∧ xs.length = i ∧ StOk K ns H' xs sts ∧ σ = [some (.ref ad), some (.int n), some (.ref an), some (.int g), some (.ref Ds), x5, x6, x7, x8, x9]) ⟨Evl.Ex.new hDs, [], [], none, none, none, none, none, upd_same, rfl, ⟨rfl, fun i x h => by simp at h⟩, rfl⟩ ?_ ?_⟩
  · rintro i σ H1 hi ⟨e1, xs, sts, x5, x6, x7, x8, x9, hB, hxl, hst, rfl⟩
    rw [Int.zero_add]
    refine ⟨Nat.zero_le _, fun p hp => ?_⟩
    have e2 : Ex H1 (upd H1 p (.tup [])) := Evl.Ex.new hp
    have h2 : upd H1 p (.tup []) p = some (.tup []) := upd_same
    dsimp only [gName]
    generalize upd H1 p (.tup []) = H2 at e2 h2 ⊢
    refine ⟨_, rfl, _, ns.length, rfl, .inl ⟨_, Evl.ex_l (e1.trans e2) hN, hlN.symm⟩, (ns.length : Int), rfl, by omega, by omega, for_range (lo := 0) (n := ns.length) (fun j σ H' => Ex H2 H' ∧ ∃ (t : Addr) (zs : List Int) (x7 x8 x9 : Option V), SqT K H' t (zs.map V.int) ∧ zs.length = j ∧ (∀ z ∈ zs, -(2 ^ 63) < z ∧ z < 2 ^ 63) ∧ σ = [some (.ref ad), some (.int n), some (.ref an), some (.int g), some (.ref Ds), some (.int i), some (.ref t), x7, x8, x9]) ⟨Evl.Ex.refl _, p, [], x7, x8, x9, SqT.of h2, rfl, fun z hz => by simp at hz, rfl⟩ ?_ ?_⟩
    · rintro j σ H3 hj ⟨e3, t, zs, x7, x8, x9, hT, hzl, hzs, rfl⟩
      rw [Int.zero_add]
      have e13 := e1.trans (e2.trans e3)
      have hlt : i * ns.length + j < ds.length := by
        rw [hdl]
        calc i * ns.length + j < i * ns.length + ns.length := by omega
          _ = (i + 1) * ns.length := by rw [Nat.succ_mul]
          _ ≤ n * ns.length := Nat.mul_le_mul_right _ (by omega)
      obtain ⟨d, _, atd⟩ := ds_at (ds := ds) hlt
      have atd' : atI (ds.map V.int) ((i : Int) * (ns.length : Int) + (j : Int)) = some (.int d) := by rw [show ((i : Int) * (ns.length : Int) + (j : Int)) = ((i * ns.length + j : Nat) : Int) by rw [Int.natCast_add, Int.natCast_mul]]; exact atd
      refine ⟨_, rfl, _, rfl, _, rfl, _, ns.length, rfl, .inl ⟨_, Evl.ex_l e13 hN, hlN.symm⟩, _, _, rfl, rfl, .inr ⟨by omega, by omega⟩, _, rfl, _, _, rfl, rfl, ad, _, _, _, rfl, rfl, Evl.ex_l e13 hA, atd', .inl ⟨_, rfl, ?_⟩⟩
      refine ⟨_, rfl, _, _, rfl, rfl, P5, _, _, rfl, rfl, ?_⟩
      have fin : ∀ (z : Int) (H4 : Hp) (D : Ends), Ex H3 H4 → -(2 ^ 63) < z → z < 2 ^ 63 → (∀ σ H', (Ex H2 H' ∧ ∃ (t : Addr) (zs : List Int) (x7 x8 x9 : Option V), SqT K H' t (zs.map V.int) ∧ zs.length = j + 1 ∧ (∀ z ∈ zs, -(2 ^ 63) < z ∧ z < 2 ^ 63) ∧ σ = [some (.ref ad), some (.int n), some (.ref an), some (.int g), some (.ref Ds), some (.int i), some (.ref t), x7, x8, x9]) → D.nx σ H') →
          tAsg (tOp (rCatA K) (tVar 6) (tTup (tCons (tVar 9) tNil))) (gName 6) D [some (.ref ad), some (.int n), some (.ref an), some (.int g), some (.ref Ds), some (.int i), some (.ref t), some (.int j), some (.int d), some (.int z)] H4 := by
        intro z H4 D e4 hz1 hz2 hD
        refine ⟨_, rfl, _, rfl, (by show 1 ≤ sizeLine; decide), fun p hp => ?_⟩
        have e5 := Evl.Ex.new hp (o := HO.tup [.int z])
        have hzz : ∀ y ∈ zs ++ [z], -(2 ^ 63) < y ∧ y < 2 ^ 63 := fun y hy => by
          rcases List.mem_append.mp hy with h | h
          · exact hzs y h
          · rw [List.mem_singleton.mp h]; exact ⟨hz1, hz2⟩
        refine ⟨t, p, _, _, rfl, rfl, Evl.ex_t (e4.trans e5) hT, SqT.of upd_same, ?_, fun h0 => ?_, fun _ h => (by cases h), fun _ _ p2 hp2 => ?_⟩
        · rw [List.length_map]
          exact Nat.le_trans (show zs.length + 1 ≤ 100 by omega) (by decide)
        · have z0 : zs = [] := List.map_eq_nil_iff.mp h0
          subst z0
          exact hD _ _ ⟨(e3.trans e4).trans e5, p, [z], _, _, _, SqT.of upd_same, by rw [← hzl]; rfl, hzz, rfl⟩
        · have e6 := Evl.Ex.new hp2 (o := HO.tup (zs.map V.int ++ [.int z]))
          exact hD _ _ ⟨((e3.trans e4).trans e5).trans e6, p2, zs ++ [z], _, _, _, by rw [List.map_append]; exact SqT.of upd_same, by rw [List.length_append, List.length_singleton, hzl], hzz, rfl⟩
      refine ⟨_, rfl, _, _, rfl, rfl, ⟨by decide, by decide⟩, _, _, rfl, rfl, P16, rfl, _, rfl, ite2 (fun c => ?_) (fun c => nxt (fin _ _ _ (Evl.Ex.refl _) (by omega) (by omega) fun _ _ h => h))⟩
      refine ⟨_, rfl, _, rfl, _, _, rfl, rfl, (by show 2 ≤ sizeLine; decide), fun L hL => ?_⟩
      obtain ⟨y, hy, aty⟩ := atI_lt (xs := [V.int g, .int (0 - g)]) (n := 2) rfl (d / 80 % 2) (by omega) (by omega)
      obtain ⟨z, rfl, hz1, hz2⟩ : ∃ z : Int, y = .int z ∧ -(2 ^ 63) < z ∧ z < 2 ^ 63 := by
        simp only [List.mem_cons, List.not_mem_nil, or_false] at hy
        rcases hy with h | h
        · exact ⟨_, h, by omega, by omega⟩
        · exact ⟨_, h, by omega, by omega⟩
      refine ⟨_, rfl, _, _, rfl, rfl, ⟨by decide, by decide⟩, _, _, rfl, rfl, P2, L, _, _, _, rfl, rfl, SqL.of upd_same, aty, ?_⟩
      exact fin z _ _ (Evl.Ex.new hL) hz1 hz2 fun _ _ h => h
    · rintro σ H3 ⟨e3, t, zs, x7, x8, x9, hT, hzl, hzs, rfl⟩
      have e23 := e2.trans e3
      have hB3 := e23 _ _ hB
      have nx : NEx H3 (upd H3 Ds (.lst (xs ++ [.ref t]))) := NEx.lst hB3
      refine ⟨_, rfl, .inl ⟨rfl, _, SqL.of hB3⟩, _, rfl, Ds, xs, _, rfl, rfl, hB3, Evl.sz_lt (by omega), Evl.Ex.mut (e1.trans e23) hDs, xs ++ [.ref t], sts ++ [zs], _, _, _, _, _, upd_same, by rw [List.length_append, List.length_singleton, hxl], ⟨by rw [List.length_append, List.length_append, hst.len]; rfl, fun k x hx => ?_⟩, rfl⟩
      by_cases hk : k < xs.length
      · rw [List.getElem?_append_left hk] at hx
        obtain ⟨b, ws, w1, w2, w3, w4⟩ := hst.at_ k x hx
        exact ⟨b, ws, by rw [List.getElem?_append_left (by rw [← hst.len]; exact hk)]; exact w1, w2, nex_t nx (Evl.ex_t e23 w3), w4⟩
      · have hk2 := (List.getElem?_eq_some_iff.mp hx).1
        rw [List.length_append, List.length_singleton] at hk2
        have ek : k = xs.length := by omega
        subst ek
        rw [List.getElem?_append_right (Nat.le_refl _), Nat.sub_self] at hx
        obtain rfl := Option.some.inj hx
        exact ⟨t, zs, by rw [List.getElem?_append_right (by rw [hst.len]; exact Nat.le_refl _), hst.len, Nat.sub_self]; rfl, rfl, nex_t nx hT, hzl.symm, hzs⟩
  · rintro σ H1 ⟨e1, xs, sts, x5, x6, x7, x8, x9, hB, hxl, hst, rfl⟩
    exact ⟨_, rfl, q Ds H1 xs sts hDs e1 hB hxl hst⟩
end
end W16
set_option Elab.async false
set_option linter.all false
set_option maxRecDepth 100000
set_option maxHeartbeats 4000000
namespace W16
open PySem PySem.Spec PyProof.Rows L2
open PySem.PyData (strOk)
open Evl (Ex)
/-- the parts of a formula that is no comparison -/
def kids : Fm → List Fm
  | .un _ f => [f]
  | .bin _ f g => [f, g]
  | _ => []
theorem kids_args {f : Fm} (h : f.tag.isCmp = false) : f.args = (kids f).map fD := by
  cases f with
  | cmp c => exact absurd (show true = false from h) (by decide)
  | tt => rfl
  | ff => rfl
  | un o f => rfl
  | bin o f g => rfl
theorem kids_found {f : Fm} (h : f.tag.isCmp = false) : found f = (kids f).flatMap found := by
  cases f with
  | cmp c => exact absurd (show true = false from h) (by decide)
  | tt => rfl
  | ff => rfl
  | un o f => simp [kids, found]
  | bin o f g => simp [kids, found]
theorem kids_len (f : Fm) : (kids f).length ≤ 2 := by cases f <;> simp [kids]
theorem kids_dep {f g : Fm} (h : g ∈ kids f) : g.dep + 1 ≤ f.dep := by
  cases f with
  | tt => simp [kids] at h
  | ff => simp [kids] at h
  | cmp c => simp [kids] at h
  | un o f => rw [List.mem_singleton.mp h]; simp only [Fm.dep]; omega
  | bin o f1 f2 =>
    rcases List.mem_cons.mp h with e | e
    · rw [e]; simp only [Fm.dep]; omega
    · rw [List.mem_singleton.mp e]; simp only [Fm.dep]; omega
theorem found_len : ∀ f : Fm, (found f).length ≤ f.size
  | .tt => Nat.zero_le _
  | .ff => Nat.zero_le _
  | .cmp c => Nat.le_refl _
  | .un _ f => Nat.le_succ_of_le (found_len f)
  | .bin _ f g => by
    have h1 := found_len f
    have h2 := found_len g
    simp only [found, List.length_append, Fm.size]
    omega
theorem dpa_app {K : PySem.W.Frag} {H : Hp} : ∀ {xs ys : List V} {ds es : List PyData}, DpAll K H xs ds → DpAll K H ys es → DpAll K H (xs ++ ys) (ds ++ es)
  | [], _, [], _, _, h => h
  | [], _, _ :: _, _, h, _ => by cases h
  | _ :: _, _, [], _, h, _ => by cases h
  | _ :: _, _, _ :: _, _, h, h2 => by
    cases h with
    | cons h3 h4 => exact .cons h3 (dpa_app h4 h2)
theorem take_at {α : Type} {l : List α} {i : Nat} {x : α} (h : l[i]? = some x) : l.take (i + 1) = l.take i ++ [x] := by
  rw [List.take_add_one, h]
  rfl
/-- a tuple's items behind its word -/
theorem slT {K : PySem.W.Frag} {H : Hp} {a : Addr} {s : Str} {xs : List V} {R : V → Hp → Prop} (hS : SqT K H a (.str s :: xs)) (q : ∀ p H', Ex H H' → SqT K H' p xs → R (.ref p) H') : rSlA K (.ref a) (some 1) none H R := by
  refine ⟨a, _, rfl, hS, fun hq => absurd hq.1 ?_, fun _ p hp => ?_⟩
  · rw [show HT.sIx (V.str s :: xs).length 0 (some 1) = min 1 (V.str s :: xs).length from HT.sIx_nat _ 0 1, List.length_cons]
    omega
  rw [cut_tail]
  exact q p _ (Evl.Ex.new hp) (SqT.of upd_same)
def RetC (K : PySem.W.Frag) (cs : List Cm) (H : Hp) (Q : VK) : Prop := ∀ (D : Addr) (H' : Hp) (ys : List V), H D = none → Ex H H' → H' D = some (.lst ys) → DpAll K H' ys (cs.map cD) → Q (.ref D) H'
def spFound (K : PySem.W.Frag) (n : Nat) : Sp := fun vs H Q _ => ∃ (f : Fm) (v : V), vs = [v] ∧ DF K H v f ∧ f.dep ≤ n ∧ f.size ≤ 1000 ∧ RetC K (found f) H Q
theorem kids_size {f g : Fm} (h : g ∈ kids f) : g.size ≤ f.size := by
  cases f with
  | tt => simp [kids] at h
  | ff => simp [kids] at h
  | cmp c => simp [kids] at h
  | un o f => rw [List.mem_singleton.mp h]; simp only [Fm.size]; omega
  | bin o f1 f2 =>
    rcases List.mem_cons.mp h with e | e
    · rw [e]; simp only [Fm.size]; omega
    · rw [List.mem_singleton.mp e]; simp only [Fm.size]; omega
section
variable {P : Program} {w : World} {K : PySem.W.Frag} {mg : Str → Option Value} {base : Heap}
abbrev nm_qfound : List Str := ["_law_tree", "_law_found_here", "_law_part"]
theorem sc_qfound : FnScope nm_qfound ["_law_tree"] (defScope s_qfound) := ⟨rfl, rfl, rfl, by decide +kernel, rfl, by decide +kernel, by decide +kernel⟩
theorem ok__law_found (T : T16 K w mg) : ∀ n, Ok P w K mg base (n + 1) (gA K "_law_found") ["_law_tree"] (spFound K n)
  | 0 => (no_ok T.F__law_found (fun _ _ _ _ _ _ us hl => match us, hl with | [_], _ => rfl) (fun vs H Q E h => by
      obtain ⟨f, v, _, _, h, _⟩ := h
      have h2 := W16.dep_pos f
      omega)).mono (Nat.zero_le _)
  | n + 1 => by
    have ih : Ok P w K mg base (n + 1) (gA K "_law_found") ["_law_tree"] (spFound K n) := ok__law_found T n
    refine mkOk T.F__law_found sc_qfound (fun _ _ _ _ _ _ us hl => match us, hl with | [_], _ => rfl) (fun vs H Q E h => ?_) fun cdv A outer s H vs Q E hr h => ?_
    · obtain ⟨f, v, rfl, _⟩ := h
      rfl
    obtain ⟨f, v, rfl, hD, hdp, hsz, q⟩ := h
    obtain ⟨a, xs, rfl, hS, hA⟩ := DF.out hD
    refine ⟨_, (pss_cons (ps_if (pt_cmpR op_in_seq (pe_ix ix_tup (pv 0) pe_int (fun _ _ => rfl)) (pe_tup (pa_cons pe_str (pa_cons pe_str (pa_cons pe_str pa_nil)))) (by rfl)) (pss_one (ps_ret (pe_lst (pa_cons (pv 0) pa_nil)))) pss_nil)
      (pss_cons (ps_set (i := 1) sc_qfound.nd rfl (.inl rfl) (pe_lst pa_nil))
      (pss_cons (ps_for PassesOwn.never rfl (pi_tup (pe_slice sl_tupA (pv 0) (po_some pe_int) po_none)) (pg_name (i := 2) sc_qfound.nd rfl (.inl rfl)) (pss_one (ps_set (i := 1) sc_qfound.nd rfl (.inl rfl) (pe_op op_cat (pv 1) (pc ih (hr.mono (by omega)) T.g__law_found (pa_cons (pv 2) pa_nil))))))
      (pss_one (ps_ret (pv 1)))))), ?_⟩
    dsimp only [tSeq]
    refine tst_in (K := K) (te := tOp (rIxT K) (tVar 0) (tC (.int 0))) ["equal", "below", "upto"] (by decide) (fun R h => ⟨_, rfl, a, _, 0, _, rfl, rfl, hS, atI_nat (j := 0) rfl, h⟩) fun H1 e1 => ?_
    rw [cmp_in]
    refine ite2 (fun c => ?_) (fun c => ?_)
    · obtain ⟨k, rfl⟩ : ∃ k, f = .cmp k := by
        cases f with
        | cmp k => exact ⟨k, rfl⟩
        | tt => exact absurd (show false = true from c) (by decide)
        | ff => exact absurd (show false = true from c) (by decide)
        | un o f => exact absurd (show false = true from c) (by decide)
        | bin o f g => exact absurd (show false = true from c) (by decide)
      refine ⟨_, rfl, (by show 1 ≤ sizeLine; decide), fun D hD1 => q D _ [.ref a] (none_back e1 hD1) (e1.trans (Evl.Ex.new hD1)) upd_same (.cons (show Dp K _ _ (cD k) from ?_) .nil)⟩
      have z : Dp K _ _ (cD k) := Dp.ex' hD (e1.trans (Evl.Ex.new hD1 (o := HO.lst [.ref a])))
      exact z
    · have hc : f.tag.isCmp = false := eq_false_of_ne_true c
      rw [kids_args hc] at hA
      have hkl := kids_len f
      have hxl : xs.length = (kids f).length := by rw [dpa_len hA, List.length_map]
      refine nxt ⟨Nat.zero_le _, fun D0 hD0 => ?_⟩
      have e2 := Evl.Ex.new hD0 (o := HO.lst [])
      have h2 : upd H1 D0 (.lst []) D0 = some (.lst []) := upd_same
      dsimp only [gName]
      generalize upd H1 D0 (.lst []) = H2 at e2 h2 ⊢
      have e02 := e1.trans e2
      refine ⟨_, rfl, 1, rfl, a, _, rfl, Evl.ex_t e02 hS, fun hq => absurd hq.1 ?_, fun _ p hp => ⟨p, rfl, ⟨_, SqT.of upd_same⟩, ?_⟩⟩
      · rw [show HT.sIx (V.str f.tag.s :: xs).length 0 (some 1) = min 1 (V.str f.tag.s :: xs).length from HT.sIx_nat _ 0 1, List.length_cons]
        omega
      rw [cut_tail]
      have e3 := Evl.Ex.new hp (o := HO.tup xs)
      have hp : SqT K (upd H2 p (.tup xs)) p xs := SqT.of upd_same
      generalize upd H2 p (.tup xs) = H3 at e3 hp ⊢
      have e03 := e02.trans e3
      refine (for_it (walk_tup (K := K) (a := p) (xs := xs)) (fun i σ H' => Ex H3 H' ∧ ∃ (D : Addr) (ys : List V) (x2 : Option V), H' D = some (.lst ys) ∧ H D = none ∧ DpAll K H' ys ((((kids f).take i).flatMap found).map cD) ∧ σ = [some (.ref a), some (.ref D), x2]) ⟨Evl.Ex.refl _, D0, [], none, e3 _ _ h2, none_back e1 hD0, .nil, rfl⟩ (fun i σ H' _ z => Evl.ex_t z.1 hp) ?_ ?_)
      · rintro i y σ H4 H5 hi ⟨e4, D, ys, x2, hB, hDn, hys, rfl⟩ ⟨rfl, hy⟩
        obtain ⟨d, hd1, hd2⟩ := dpa_get hA hy
        obtain ⟨g, hg, rfl⟩ : ∃ g, (kids f)[i]? = some g ∧ fD g = d := by
          rw [List.getElem?_map] at hd1
          cases qq : (kids f)[i]? with
          | none => rw [qq] at hd1; cases hd1
          | some g => rw [qq] at hd1; exact ⟨g, rfl, Option.some.inj hd1⟩
        have hgm := List.mem_of_getElem? hg
        have hgd := kids_dep hgm
        have hgs := kids_size hgm
        have e04 := e03.trans e4
        refine ⟨_, rfl, _, rfl, g, y, rfl, Dp.ex' hd2 e04, by omega, by omega, fun D2 H6 ys2 hD2 e6 hB2 hys2 => ?_⟩
        have l1 : ys.length ≤ 2000 := by
          rw [dpa_len hys, List.length_map]
          have z : (((kids f).take i).flatMap found).length ≤ (found f).length := by
            have ea : (kids f).flatMap found = ((kids f).take i).flatMap found ++ ((kids f).drop i).flatMap found := by rw [← List.flatMap_append, List.take_append_drop]
            rw [kids_found hc, ea, List.length_append]
            omega
          have z2 := found_len f
          omega
        have l2 : ys2.length ≤ 1000 := by
          rw [dpa_len hys2, List.length_map]
          have z2 := found_len g
          omega
        refine ⟨D, D2, ys, ys2, rfl, rfl, e6 _ _ hB, hB2, Nat.le_trans (show ys.length + ys2.length ≤ 3000 by omega) (by decide), fun D3 hD3 => ?_⟩
        have e7 := Evl.Ex.new hD3 (o := HO.lst (ys ++ ys2))
        refine ⟨(e4.trans e6).trans e7, D3, _, _, upd_same, none_back (e04.trans e6) hD3, ?_, rfl⟩
        rw [take_at hg, List.flatMap_append, List.map_append]
        refine dpa_app (dpa_ex (e6.trans e7) _ _ hys) ?_
        rw [show [g].flatMap found = found g from by simp]
        exact dpa_ex e7 _ _ hys2
      · rintro σ H4 ⟨e4, D, ys, x2, hB, hDn, hys, rfl⟩
        refine ⟨_, rfl, q D H4 ys hDn (e03.trans e4) hB ?_⟩
        rw [hxl, List.take_length, ← kids_found hc] at hys
        exact hys
def spAllow (K : PySem.W.Frag) : Sp := fun vs H Q _ => ∃ (f : Fm) (v : V), vs = [v] ∧ DF K H v f ∧ f.dep ≤ 62 ∧ f.size ≤ 1000 ∧ RetC K (allowed f) H Q
abbrev nm_qallowed : List Str := ["_law_formula_here", "_law_allowed_here", "_law_tree"]
theorem sc_qallowed : FnScope nm_qallowed ["_law_formula_here"] (defScope s_qallowed) := ⟨rfl, rfl, rfl, by decide +kernel, rfl, by decide +kernel, by decide +kernel⟩
theorem ok__law_allowed (T : T16 K w mg) : Ok P w K mg base 64 (gA K "_law_allowed") ["_law_formula_here"] (spAllow K) := by
  refine mkOk T.F__law_allowed sc_qallowed (fun _ _ _ _ _ _ us hl => match us, hl with | [_], _ => rfl) (fun vs H Q E h => ?_) fun cdv A outer s H vs Q E hr h => ?_
  · obtain ⟨f, v, rfl, _⟩ := h
    rfl
  obtain ⟨f, v, rfl, hD, hdp, hsz, q⟩ := h
  refine ⟨_, (pss_cons (ps_set (i := 1) sc_qallowed.nd rfl (.inl rfl) (pe_lst pa_nil))
      (pss_cons (ps_for PassesOwn.never rfl (pi_list (pc (ok__law_found T 62) (hr.mono (by omega)) T.g__law_found (pa_cons (pv 0) pa_nil))) (pg_name (i := 2) sc_qallowed.nd rfl (.inl rfl)) (pss_cons (ps_expr (pe_bm PySem.F.plainAttrs_list PySem.F.slot_list_append PySem.F.type_list_append mt_append (pv 1) (pa_cons (pv 2) pa_nil)))
      (pss_cons (ps_if (pt_cmpR op_eq (pe_ix ix_tup (pv 2) pe_int (fun _ _ => rfl)) pe_str (nomark _)) (pss_one (ps_expr (pe_bm PySem.F.plainAttrs_list PySem.F.slot_list_append PySem.F.type_list_append mt_append (pv 1) (pa_cons (pe_tup (pa_cons pe_str (pa_cons (pe_ix ix_tup (pv 2) pe_int (fun _ _ => rfl)) (pa_cons (pe_ix ix_tup (pv 2) pe_int (fun _ _ => rfl)) pa_nil)))) pa_nil)))) pss_nil)
      (pss_one (ps_if (pt_cmpR op_eq (pe_ix ix_tup (pv 2) pe_int (fun _ _ => rfl)) pe_str (nomark _)) (pss_one (ps_expr (pe_bm PySem.F.plainAttrs_list PySem.F.slot_list_append PySem.F.type_list_append mt_append (pv 1) (pa_cons (pe_tup (pa_cons pe_str (pa_cons (pe_ix ix_tup (pv 2) pe_int (fun _ _ => rfl)) (pa_cons (pe_ix ix_tup (pv 2) pe_int (fun _ _ => rfl)) pa_nil)))) pa_nil)))) pss_nil)))))
      (pss_one (ps_ret (pv 1))))), ?_⟩
  refine ⟨Nat.zero_le _, fun D hDn => ?_⟩
  have e1 : Ex H (upd H D (.lst [])) := Evl.Ex.new hDn
  refine ⟨_, rfl, f, v, rfl, Dp.ex' hD e1, hdp, hsz, fun Df H2 ys hDf e2 hBf hys => ?_⟩
  have hB2 : H2 D = some (.lst []) := e2 _ _ upd_same
  have nD : Df ≠ D := fun e => by rw [e, upd_same] at hDf; cases hDf
  have hyl : ys.length = (found f).length := by rw [dpa_len hys, List.length_map]
  have fl := found_len f
  refine ⟨Df, rfl, ⟨_, SqL.of hBf⟩, for_it (walk_list (K := K) (a := Df) (xs := ys)) (fun i σ H' => K1 D H2 H' ∧ ∃ (zs : List V) (x2 : Option V), H' D = some (.lst zs) ∧ zs.length ≤ 2 * i ∧ DpAll K H' zs ((((found f).take i).flatMap flips).map cD) ∧ σ = [some v, some (.ref D), x2]) ⟨fun _ _ _ h => h, [], none, hB2, Nat.zero_le _, .nil, rfl⟩ (fun i σ H' _ z => SqL.of (z.1 _ _ nD hBf)) ?_ ?_⟩
  · rintro i y σ H5 H4 hi ⟨k4, zs, x2, hB, hzl, hzs, rfl⟩ ⟨rfl, hy⟩
    obtain ⟨d, hd1, hd2⟩ := dpa_get hys hy
    obtain ⟨c, hc, rfl⟩ : ∃ c, (found f)[i]? = some c ∧ cD c = d := by
      rw [List.getElem?_map] at hd1
      cases qq : (found f)[i]? with
      | none => rw [qq] at hd1; cases hd1
      | some g => rw [qq] at hd1; exact ⟨g, rfl, Option.some.inj hd1⟩
    have hdc : DC K H4 y c := dp_tex (K1.tex k4 hB2) _ _ (cD_noL c) hd2
    rw [take_at hc, List.flatMap_append, List.map_append, show [c].flatMap flips = flips c from by simp]
    have nx1 : NEx H4 (upd H4 D (.lst (zs ++ [y]))) := NEx.lst hB
    have hzs1 : DpAll K (upd H4 D (.lst (zs ++ [y]))) (zs ++ [y]) ((((found f).take i).flatMap flips).map cD ++ [cD c]) := dpa_snoc (hdc.nex nx1) (dpa_nex nx1 _ _ (cDs_noL _) hzs)
    have hdc1 := hdc.nex nx1
    refine ⟨_, rfl, .inl ⟨rfl, _, SqL.of hB⟩, _, rfl, D, zs, y, rfl, rfl, hB, Evl.sz_lt (by omega), ?_⟩
    have k5 : K1 D H2 (upd H4 D (.lst (zs ++ [y]))) := k4.trans K1.me
    have hB5 : upd H4 D (.lst (zs ++ [y])) D = some (.lst (zs ++ [y])) := upd_same
    generalize upd H4 D (.lst (zs ++ [y])) = H5 at hzs1 hdc1 k5 hB5 ⊢
    obtain ⟨ac, x, u, rfl, hS2, hx2, hu2⟩ := DC.out hd2
    have hS := K1.tex k5 hB2 _ _ hS2
    have hx := dp_tex (K1.tex k5 hB2) _ _ (tD_noL _) hx2
    have hu := dp_tex (K1.tex k5 hB2) _ _ (tD_noL _) hu2
    obtain ⟨o, t1, t2⟩ := c
    have s3 : (3 : Nat) ≤ sizeLine := by decide
    have l1 : (zs ++ [V.ref ac]).length ≤ 2 * i + 1 := by rw [List.length_append, List.length_singleton]; omega
    have add : ∀ (o' : CO) (H7 : Hp) (p : Addr), H5 p = none → H7 = upd H5 p (.tup [.str o'.s, u, x]) → flips ⟨o, t1, t2⟩ = [⟨o, t1, t2⟩, ⟨o', t2, t1⟩] → ∀ N : Hp → Prop, (∀ H8 zs8, K1 D H2 H8 → H8 D = some (.lst zs8) → zs8.length ≤ 2 * (i + 1) → DpAll K H8 zs8 ((((found f).take i).flatMap flips).map cD ++ (flips ⟨o, t1, t2⟩).map cD) → N H8) → rAppend (.ref D) [.ref p] H7 fun _ H8 => N H8 := by
      intro o' H7 p hp eH ef N hN
      subst eH
      have e7 := Evl.Ex.new hp (o := HO.tup [.str o'.s, u, x])
      have nx2 : NEx (upd H5 p (.tup [.str o'.s, u, x])) (upd (upd H5 p (.tup [.str o'.s, u, x])) D (.lst ((zs ++ [.ref ac]) ++ [.ref p]))) := NEx.lst (e7 _ _ hB5)
      refine ⟨D, _, _, rfl, rfl, e7 _ _ hB5, Evl.sz_lt (by omega), hN _ _ ((k5.trans (K1.of e7)).trans K1.me) upd_same (by rw [List.length_append, List.length_singleton]; omega) ?_⟩
      rw [ef, List.map_cons, show ∀ (A : List PyData) b cc, A ++ b :: cc = (A ++ [b]) ++ cc from fun A b cc => by simp]
      refine dpa_snoc (DC.nex (c := ⟨o', t2, t1⟩) (dp_cmp upd_same (Dp.ex' hu e7) (Dp.ex' hx e7)) nx2) (dpa_nex nx2 _ _ ?_ (dpa_ex e7 _ _ hzs1))
      rw [show ∀ (A : List Cm) (b : Cm), A.map cD ++ [cD b] = (A ++ [b]).map cD from fun A b => by simp]
      exact cDs_noL _
    cases o with
    | eq =>
      refine tst_no0 rfl hS ((vsC .eq .below).trans rfl) ?_
      refine nxt (tst_no0 rfl hS ((vsC .eq .upto).trans rfl) ?_)
      exact ⟨k5, _, _, hB5, by omega, hzs1, rfl⟩
    | below =>
      refine tst_yes0 rfl hS ((vsC .below .below).trans rfl) ?_
      refine ⟨_, rfl, .inl ⟨rfl, _, SqL.of hB5⟩, _, rfl, ac, _, 2, _, rfl, rfl, hS, atI_nat (j := 2) rfl, _, rfl, ac, _, 1, _, rfl, rfl, hS, atI_nat (j := 1) rfl, s3, fun p hp => ?_⟩
      refine add .upto _ p hp rfl rfl _ fun H8 zs8 k8 b8 l8 d8 => ?_
      have hS8 : SqT K H8 ac [.str CO.below.s, x, u] := K1.tex k8 hB2 _ _ hS2
      exact tst_no0 rfl hS8 ((vsC .below .upto).trans rfl) ⟨k8, _, _, b8, l8, d8, rfl⟩
    | upto =>
      refine tst_no0 rfl hS ((vsC .upto .below).trans rfl) ?_
      refine nxt (tst_yes0 rfl hS ((vsC .upto .upto).trans rfl) ?_)
      refine ⟨_, rfl, .inl ⟨rfl, _, SqL.of hB5⟩, _, rfl, ac, _, 2, _, rfl, rfl, hS, atI_nat (j := 2) rfl, _, rfl, ac, _, 1, _, rfl, rfl, hS, atI_nat (j := 1) rfl, s3, fun p hp => ?_⟩
      exact add .below _ p hp rfl rfl _ fun H8 zs8 k8 b8 l8 d8 => ⟨k8, _, _, b8, l8, d8, rfl⟩
  · rintro σ H4 ⟨k4, zs, x2, hB, hzl, hzs, rfl⟩
    rw [hyl, List.take_length] at hzs
    exact ⟨_, rfl, q D H4 zs hDn (fun b o h => k4 b o (fun e => by rw [e, hDn] at h; cases h) (e2 _ _ (e1 _ _ h))) hB hzs⟩
end
end W16
set_option Elab.async false
set_option linter.all false
set_option maxRecDepth 100000
set_option maxHeartbeats 4000000
namespace W16
open PySem PySem.Spec PyProof.Rows L2
open PySem.PyData (strOk)
open Evl (Ex)
def pd : Nat → PyData → Prop
  | 0, _ => False
  | n + 1, d => (∃ s, d = .str s) ∨ (∃ i, d = .int i) ∨ ∃ ds, d = .tuple ds ∧ ds.length ≤ 5 ∧ ∀ e ∈ ds, pd n e
theorem pd.mono : ∀ {n m : Nat} {d : PyData}, n ≤ m → pd n d → pd m d
  | 0, _, _, _, h => h.elim
  | n + 1, 0, _, h, _ => by omega
  | n + 1, m + 1, d, h, .inl h1 => .inl h1
  | n + 1, m + 1, d, h, .inr (.inl h1) => .inr (.inl h1)
  | n + 1, m + 1, d, h, .inr (.inr ⟨ds, h1, h2, h3⟩) => .inr (.inr ⟨ds, h1, h2, fun e he => (h3 e he).mono (by omega)⟩)
theorem pd_str (n : Nat) (s : Str) : pd (n + 1) (.str s) := .inl ⟨s, rfl⟩
theorem pd_one {n k : Nat} {s : Str} {d : PyData} (h : pd n d) (hk : n ≤ k) (h1 : 1 ≤ k) : pd (k + 1) (.tuple [.str s, d]) := .inr (.inr ⟨_, rfl, by simp, fun e he => by
  rcases List.mem_cons.mp he with z | z
  · rw [z]; obtain ⟨j, rfl⟩ : ∃ j, k = j + 1 := ⟨k - 1, by omega⟩; exact pd_str j s
  · rw [List.mem_singleton.mp z]; exact h.mono hk⟩)
theorem pd_two {n m k : Nat} {s : Str} {d e : PyData} (h : pd n d) (h2 : pd m e) (hk : n ≤ k) (hk2 : m ≤ k) (h1 : 1 ≤ k) : pd (k + 1) (.tuple [.str s, d, e]) := .inr (.inr ⟨_, rfl, by simp, fun x he => by
  rcases List.mem_cons.mp he with z | z
  · rw [z]; obtain ⟨j, rfl⟩ : ∃ j, k = j + 1 := ⟨k - 1, by omega⟩; exact pd_str j s
  · rcases List.mem_cons.mp z with z | z
    · rw [z]; exact h.mono hk
    · rw [List.mem_singleton.mp z]; exact h2.mono hk2⟩)
theorem pdI (i : Int) : pd 1 (.int i) := .inr (.inl ⟨i, rfl⟩)
theorem pdT : ∀ t : Tm, pd (t.dep + 1) (tD t)
  | .num z => by simp only [tD, Tm.dep]; exact pd_one (pdI z) (Nat.le_refl _) (Nat.le_refl _)
  | .nam x => by simp only [tD, Tm.dep]; exact pd_one (pd_str 0 x) (Nat.le_refl _) (Nat.le_refl _)
  | .neg t => by simp only [tD, Tm.dep]; exact pd_one (pdT t) (Nat.le_refl _) (by omega)
  | .quo t k => by simp only [tD, Tm.dep]; exact pd_two (pdT t) (pdI k) (Nat.le_refl _) (by omega) (by omega)
  | .rem t k => by simp only [tD, Tm.dep]; exact pd_two (pdT t) (pdI k) (Nat.le_refl _) (by omega) (by omega)
  | .plus t u => by simp only [tD, Tm.dep]; exact pd_two (pdT t) (pdT u) (by omega) (by omega) (by omega)
  | .minus t u => by simp only [tD, Tm.dep]; exact pd_two (pdT t) (pdT u) (by omega) (by omega) (by omega)
  | .times t u => by simp only [tD, Tm.dep]; exact pd_two (pdT t) (pdT u) (by omega) (by omega) (by omega)
  | .least t u => by simp only [tD, Tm.dep]; exact pd_two (pdT t) (pdT u) (by omega) (by omega) (by omega)
  | .most t u => by simp only [tD, Tm.dep]; exact pd_two (pdT t) (pdT u) (by omega) (by omega) (by omega)
theorem pdC {c : Cm} (h1 : c.t.dep ≤ 3) (h2 : c.u.dep ≤ 3) : pd 6 (cD c) := pd_two (pdT c.t) (pdT c.u) (by omega) (by omega) (by omega)
def spSame (K : PySem.W.Frag) (n : Nat) : Sp := fun vs H Q _ => ∃ (v u : V) (d e : PyData), vs = [v, u] ∧ Dp K H v d ∧ Dp K H u e ∧ pd n d ∧ pd n e ∧ ∀ b : Bool, (d = e → b = true) → Q (.bl b) H
section
variable {P : Program} {w : World} {K : PySem.W.Frag} {mg : Str → Option Value} {base : Heap}
abbrev nm_qsame : List Str := ["_law_actual", "_law_expected", "_law_k"]
theorem sc_qsame : FnScope nm_qsame ["_law_actual", "_law_expected"] (defScope s_qsame) := ⟨rfl, rfl, rfl, by decide +kernel, rfl, by decide +kernel, by decide +kernel⟩
theorem ok__law_same (T : T16 K w mg) : ∀ n, Ok P w K mg base n (gA K "_law_same") ["_law_actual", "_law_expected"] (spSame K n)
  | 0 => no_ok T.F__law_same (fun _ _ _ _ _ _ us hl => match us, hl with | [_, _], _ => rfl) (fun vs H Q E h => by
      obtain ⟨v, u, d, e, _, _, _, h, _⟩ := h
      exact h)
  | n + 1 => by
    have ih : Ok P w K mg base n (gA K "_law_same") ["_law_actual", "_law_expected"] (spSame K n) := ok__law_same T n
    refine mkOk T.F__law_same sc_qsame (fun _ _ _ _ _ _ us hl => match us, hl with | [_, _], _ => rfl) (fun vs H Q E h => ?_) fun cdv A outer s H vs Q E hr h => ?_
    · obtain ⟨v, u, d, e, rfl, _⟩ := h
      rfl
    obtain ⟨v, u, d, e, rfl, hd, he, pd1, pe1, q⟩ := h
    refine ⟨_, (pss_cons (ps_if (pt_val (pe_callB call_isi (by rfl) T.z_isinstance (by decide +kernel) (pa_cons (pv 1) (pa_cons (pe_ty (n := "str") T.z_str (by decide +kernel)) pa_nil)))) (pss_one (ps_ret (pe_and (pe_callB call_isi (by rfl) T.z_isinstance (by decide +kernel) (pa_cons (pv 0) (pa_cons (pe_ty (n := "str") T.z_str (by decide +kernel)) pa_nil))) (pe_one (pe_cmpR op_eq (pv 0) (pv 1) (nomark _)))))) pss_nil)
      (pss_cons (ps_if (pt_val (pe_callB call_isi (by rfl) T.z_isinstance (by decide +kernel) (pa_cons (pv 1) (pa_cons (pe_ty (n := "int") T.z_int (by decide +kernel)) pa_nil)))) (pss_one (ps_ret (pe_and (pe_callB call_isi (by rfl) T.z_isinstance (by decide +kernel) (pa_cons (pv 0) (pa_cons (pe_ty (n := "int") T.z_int (by decide +kernel)) pa_nil))) (pe_and (pe_not (pe_callB call_isi (by rfl) T.z_isinstance (by decide +kernel) (pa_cons (pv 0) (pa_cons (pe_ty (n := "bool") T.z_bool (by decide +kernel)) pa_nil)))) (pe_one (pe_cmpR op_eq (pv 0) (pv 1) (nomark _))))))) pss_nil)
      (pss_cons (ps_if (PW.pt (pw_and (pt_val (pe_callB call_isi (by rfl) T.z_isinstance (by decide +kernel) (pa_cons (pv 1) (pa_cons (pe_ty (n := "tuple") T.z_tuple (by decide +kernel)) pa_nil)))) (pw_and1 (pt_not (pt_val (pe_callB call_isi (by rfl) T.z_isinstance (by decide +kernel) (pa_cons (pv 0) (pa_cons (pe_ty (n := "tuple") T.z_tuple (by decide +kernel)) pa_nil)))))))) (pss_one (ps_ret pe_bl)) pss_nil)
      (pss_cons (ps_if (PW.pt (pw_and (pt_val (pe_callB call_isi (by rfl) T.z_isinstance (by decide +kernel) (pa_cons (pv 1) (pa_cons (pe_ty (n := "list") T.z_list (by decide +kernel)) pa_nil)))) (pw_and1 (pt_not (pt_val (pe_callB call_isi (by rfl) T.z_isinstance (by decide +kernel) (pa_cons (pv 0) (pa_cons (pe_ty (n := "list") T.z_list (by decide +kernel)) pa_nil)))))))) (pss_one (ps_ret pe_bl)) pss_nil)
      (pss_cons (ps_if (pt_cmpR op_ne (pe_callB call_len (by rfl) T.z_len (by decide +kernel) (pa_cons (pv 0) pa_nil)) (pe_callB call_len (by rfl) T.z_len (by decide +kernel) (pa_cons (pv 1) pa_nil)) (nomark _)) (pss_one (ps_ret pe_bl)) pss_nil)
      (pss_cons (ps_for PassesOwn.never rfl (pi_range1 (by rfl) T.z_range (pa_cons (pe_callB call_len (by rfl) T.z_len (by decide +kernel) (pa_cons (pv 1) pa_nil)) pa_nil)) (pg_name (i := 2) sc_qsame.nd rfl (.inl rfl)) (pss_one (ps_if (pt_not (pt_val (pc ih (hr.mono (by omega)) T.g__law_same (pa_cons (pe_ix ix_tup (pv 0) (pv 2) (fun _ _ => rfl)) (pa_cons (pe_ix ix_tup (pv 1) (pv 2) (fun _ _ => rfl)) pa_nil))))) (pss_one (ps_ret pe_bl)) pss_nil)))
      (pss_one (ps_ret pe_bl)))))))), ?_⟩
    -- what stands as the actual value
    have act : (∃ x, v = .str x ∧ d = .str x) ∨ (∃ i, v = .int i ∧ d = .int i) ∨ ∃ a xs ds, v = .ref a ∧ d = .tuple ds ∧ SqT K H a xs ∧ DpAll K H xs ds ∧ ds.length ≤ 5 ∧ ∀ e ∈ ds, pd n e := by
      rcases pd1 with ⟨x, rfl⟩ | ⟨i, rfl⟩ | ⟨ds, rfl, h2, h3⟩
      · exact .inl ⟨x, Dp.strO hd, rfl⟩
      · exact .inr (.inl ⟨i, Dp.intO hd, rfl⟩)
      · obtain ⟨a, xs, h4, h5, h6⟩ := Dp.tupO hd
        exact .inr (.inr ⟨a, xs, ds, h4, rfl, h5, h6, h2, h3⟩)
    rcases pe1 with ⟨s, rfl⟩ | ⟨j, rfl⟩ | ⟨es, rfl, hl2, hp2⟩
    · obtain rfl := Dp.strO he
      refine isiV (b := "str") (a := "str") (r := true) rfl (.base (.str s)) (by decide +kernel) ⟨_, rfl, iteT ?_⟩
      rcases act with ⟨x, rfl, rfl⟩ | ⟨i, rfl, rfl⟩ | ⟨a, xs, ds, rfl, rfl, hS, hA, hl, hp⟩
      · refine isiV (b := "str") (a := "str") (r := true) rfl (.base (.str x)) (by decide +kernel) ⟨_, rfl, iteT ⟨_, rfl, _, rfl, rfl, q _ fun e => ?_⟩⟩
        exact decide_eq_true (by rw [PyData.str.inj e])
      · refine isiV (b := "str") (a := "int") (r := false) rfl (.base (.int i)) (by decide +kernel) ⟨_, rfl, iteF (q _ fun e => by cases e)⟩
      · refine isiV (b := "str") (a := "tuple") (r := false) rfl (tyx_tup hS) (by decide +kernel) ⟨_, rfl, iteF (q _ fun e => by cases e)⟩
    · obtain rfl := Dp.intO he
      refine isiV (b := "str") (a := "int") (r := false) rfl (.base (.int j)) (by decide +kernel) ⟨_, rfl, iteF (nxt ?_)⟩
      dsimp only [tSeq]
      refine isiV (b := "int") (a := "int") (r := true) rfl (.base (.int j)) (by decide +kernel) ⟨_, rfl, iteT ?_⟩
      rcases act with ⟨x, rfl, rfl⟩ | ⟨i, rfl, rfl⟩ | ⟨a, xs, ds, rfl, rfl, hS, hA, hl, hp⟩
      · refine isiV (b := "int") (a := "str") (r := false) rfl (.base (.str x)) (by decide +kernel) ⟨_, rfl, iteF (q _ fun e => by cases e)⟩
      · refine isiV (b := "int") (a := "int") (r := true) rfl (.base (.int i)) (by decide +kernel) ⟨_, rfl, iteT ?_⟩
        refine isiV (b := "bool") (a := "int") (r := false) rfl (.base (.int i)) (by decide +kernel) ⟨_, rfl, _, rfl, iteT ⟨_, rfl, _, rfl, rfl, q _ fun e => ?_⟩⟩
        exact decide_eq_true (by rw [PyData.int.inj e])
      · refine isiV (b := "int") (a := "tuple") (r := false) rfl (tyx_tup hS) (by decide +kernel) ⟨_, rfl, iteF (q _ fun e => by cases e)⟩
    · obtain ⟨b, ys, rfl, hT, hB⟩ := Dp.tupO he
      refine isiV (b := "str") (a := "tuple") (r := false) rfl (tyx_tup hT) (by decide +kernel) ⟨_, rfl, iteF (nxt ?_)⟩
      dsimp only [tSeq]
      refine isiV (b := "int") (a := "tuple") (r := false) rfl (tyx_tup hT) (by decide +kernel) ⟨_, rfl, iteF (nxt ?_)⟩
      dsimp only [tSeq]
      refine isiV (b := "tuple") (a := "tuple") (r := true) rfl (tyx_tup hT) (by decide +kernel) ⟨_, rfl, iteT ?_⟩
      rcases act with ⟨x, rfl, rfl⟩ | ⟨i, rfl, rfl⟩ | ⟨a, xs, ds, rfl, rfl, hS, hA, hl, hp⟩
      · refine isiV (b := "tuple") (a := "str") (r := false) rfl (.base (.str x)) (by decide +kernel) ⟨_, rfl, iteT (q _ fun e => by cases e)⟩
      · refine isiV (b := "tuple") (a := "int") (r := false) rfl (.base (.int i)) (by decide +kernel) ⟨_, rfl, iteT (q _ fun e => by cases e)⟩
      · refine isiV (b := "tuple") (a := "tuple") (r := true) rfl (tyx_tup hS) (by decide +kernel) ⟨_, rfl, iteF (nxt ?_)⟩
        dsimp only [tSeq]
        refine isiV (b := "list") (a := "tuple") (r := false) rfl (tyx_tup hT) (by decide +kernel) ⟨_, rfl, iteF (nxt ?_)⟩
        have lx : xs.length = ds.length := dpa_len hA
        have ly : ys.length = es.length := dpa_len hB
        refine ⟨_, rfl, _, xs.length, rfl, .inr ⟨_, hS, rfl⟩, _, rfl, _, ys.length, rfl, .inr ⟨_, hT, rfl⟩, rfl, _, rfl, ?_⟩
        by_cases hlen : xs.length = ys.length
        · rw [show decide (V.int (xs.length : Int) = V.int (ys.length : Int)) = true from decide_eq_true (by rw [hlen])]
          refine iteF (nxt ⟨_, rfl, _, ys.length, rfl, .inr ⟨_, hT, rfl⟩, (ys.length : Int), rfl, by omega, by omega, for_range (lo := 0) (n := ys.length) (fun i σ H' => H' = H ∧ ∃ x2, σ = [some (.ref a), some (.ref b), x2]) ⟨rfl, none, rfl⟩ ?_ ?_⟩)
          · rintro i σ H' hi ⟨rfl, x2, rfl⟩
            rw [Int.zero_add]
            have hix : i < xs.length := by omega
            obtain ⟨di, g1, g2⟩ := dpa_get hA (List.getElem?_eq_getElem hix)
            obtain ⟨ei, g3, g4⟩ := dpa_get hB (List.getElem?_eq_getElem hi)
            refine ⟨_, rfl, _, rfl, a, _, _, _, rfl, rfl, hS, atI_nat (List.getElem?_eq_getElem hix), _, rfl, _, rfl, b, _, _, _, rfl, rfl, hT, atI_nat (List.getElem?_eq_getElem hi), _, _, di, ei, rfl, g2, g4, hp di (List.mem_of_getElem? g1), hp2 ei (List.mem_of_getElem? g3), fun r hr => ⟨_, rfl, ?_⟩⟩
            cases r with
            | true => exact iteF ⟨rfl, _, rfl⟩
            | false =>
              refine iteT (q _ fun e => ?_)
              have e2 : ds = es := PyData.tuple.inj e
              rw [e2, g3] at g1
              exact hr (Option.some.inj g1).symm
          · rintro σ H' ⟨rfl, x2, rfl⟩
            exact q _ fun _ => rfl
        · rw [show decide (V.int (xs.length : Int) = V.int (ys.length : Int)) = false from decide_eq_false fun e => hlen (by have z := V.int.inj e; omega)]
          refine iteT (q _ fun e => ?_)
          have e2 : ds = es := PyData.tuple.inj e
          rw [e2] at lx
          omega
end
end W16
set_option Elab.async false
set_option linter.all false
set_option maxRecDepth 100000
set_option maxHeartbeats 4000000
namespace W16
open PySem PySem.Spec PyProof.Rows L2
open PySem.PyData (strOk)
open Evl (Ex)
def isZ : FG → Bool
  | .tt => true
  | .ff => true
  | _ => false
def isU : FG → Bool
  | .u _ => true
  | _ => false
def isB : FG → Bool
  | .b _ => true
  | _ => false
theorem z_in (g : FG) : decide (g.s ∈ (["true", "false"] : List Str)) = isZ g := by
  cases g with
  | tt => decide +kernel
  | ff => decide +kernel
  | c o => cases o <;> decide +kernel
  | u o => cases o <;> decide +kernel
  | b o => cases o <;> decide +kernel
theorem u_in (g : FG) : decide (g.s ∈ (["not", "next", "eventually", "always"] : List Str)) = isU g := by
  cases g with
  | tt => decide +kernel
  | ff => decide +kernel
  | c o => cases o <;> decide +kernel
  | u o => cases o <;> decide +kernel
  | b o => cases o <;> decide +kernel
theorem b_in (g : FG) : decide (g.s ∈ (["and", "or", "implies", "same", "until", "release", "unless", "strong"] : List Str)) = isB g := by
  cases g with
  | tt => decide +kernel
  | ff => decide +kernel
  | c o => cases o <;> decide +kernel
  | u o => cases o <;> decide +kernel
  | b o => cases o <;> decide +kernel
def spGood (K : PySem.W.Frag) (n : Nat) : Sp := fun vs H Q _ => ∃ (f : Fm) (v : V) (al : Addr) (ys : List V) (cs : List Cm), vs = [v, .ref al] ∧ DF K H v f ∧ f.dep ≤ n ∧ SqL K H al ys ∧ DpAll K H ys (cs.map cD) ∧ (∀ c ∈ found f, c ∈ cs) ∧ (∀ c ∈ cs, c.t.dep ≤ 3 ∧ c.u.dep ≤ 3) ∧ cs.length ≤ 10000 ∧ ∀ H', Ex H H' → Q (.bl true) H'
section
variable {P : Program} {w : World} {K : PySem.W.Frag} {mg : Str → Option Value} {base : Heap}
abbrev nm_qgood : List Str := ["_law_tree", "_law_allowed_here", "_law_comparison", "_law_parts", "_law_part"]
theorem sc_qgood : FnScope nm_qgood ["_law_tree", "_law_allowed_here"] (defScope s_qgood) := ⟨rfl, rfl, rfl, by decide +kernel, rfl, by decide +kernel, by decide +kernel⟩
theorem ok__law_good (T : T16 K w mg) : ∀ n, Ok P w K mg base (n + 7) (gA K "_law_good") ["_law_tree", "_law_allowed_here"] (spGood K n)
  | 0 => (no_ok T.F__law_good (fun _ _ _ _ _ _ us hl => match us, hl with | [_, _], _ => rfl) (fun vs H Q E h => by
      obtain ⟨f, v, al, ys, cs, _, _, h, _⟩ := h
      have h2 := W16.dep_pos f
      omega)).mono (Nat.zero_le _)
  | n + 1 => by
    have ih : Ok P w K mg base (n + 7) (gA K "_law_good") ["_law_tree", "_law_allowed_here"] (spGood K n) := ok__law_good T n
    refine mkOk T.F__law_good sc_qgood (fun _ _ _ _ _ _ us hl => match us, hl with | [_, _], _ => rfl) (fun vs H Q E h => ?_) fun cdv A outer s H vs Q E hr h => ?_
    · obtain ⟨f, v, al, ys, cs, rfl, _⟩ := h
      rfl
    obtain ⟨f, v, al, ys, cs, rfl, hD, hdp, hL, hY, hfc, hcd, hcl, q⟩ := h
    obtain ⟨a, xs, rfl, hS, hA⟩ := DF.out hD
    refine ⟨_, (pss_cons (ps_if (PW.pt (pw_or (pt_not (pt_val (pe_callB call_isi (by rfl) T.z_isinstance (by decide +kernel) (pa_cons (pv 0) (pa_cons (pe_ty (n := "tuple") T.z_tuple (by decide +kernel)) pa_nil))))) (pw_or (pt_cmpR op_eq (pe_callB call_len (by rfl) T.z_len (by decide +kernel) (pa_cons (pv 0) pa_nil)) pe_int (nomark _)) (pw_or1 (pt_not (pt_val (pe_callB call_isi (by rfl) T.z_isinstance (by decide +kernel) (pa_cons (pe_ix ix_tup (pv 0) pe_int (fun _ _ => rfl)) (pa_cons (pe_ty (n := "str") T.z_str (by decide +kernel)) pa_nil))))))))) (pss_one (ps_ret pe_bl)) pss_nil)
      (pss_cons (ps_if (pt_cmpR op_in_seq (pe_ix ix_tup (pv 0) pe_int (fun _ _ => rfl)) (pe_tup (pa_cons pe_str (pa_cons pe_str (pa_cons pe_str pa_nil)))) (by rfl)) (pss_cons (ps_for PassesOwn.never rfl (pi_list (pv 1)) (pg_name (i := 2) sc_qgood.nd rfl (.inl rfl)) (pss_one (ps_if (pt_val (pc (ok__law_same T 6) (hr.mono (by omega)) T.g__law_same (pa_cons (pv 0) (pa_cons (pv 2) pa_nil)))) (pss_one (ps_ret pe_bl)) pss_nil)))
      (pss_one (ps_ret pe_bl))) pss_nil)
      (pss_cons (ps_set (i := 3) sc_qgood.nd rfl (.inl rfl) (pe_un un_neg pe_int))
      (pss_cons (ps_if (pt_cmpR op_in_seq (pe_ix ix_tup (pv 0) pe_int (fun _ _ => rfl)) (pe_tup (pa_cons pe_str (pa_cons pe_str pa_nil))) (by rfl)) (pss_one (ps_set (i := 3) sc_qgood.nd rfl (.inl rfl) pe_int)) (pss_one (ps_if (pt_cmpR op_in_seq (pe_ix ix_tup (pv 0) pe_int (fun _ _ => rfl)) (pe_tup (pa_cons pe_str (pa_cons pe_str (pa_cons pe_str (pa_cons pe_str pa_nil))))) (by rfl)) (pss_one (ps_set (i := 3) sc_qgood.nd rfl (.inl rfl) pe_int)) (pss_one (ps_if (pt_cmpR op_in_seq (pe_ix ix_tup (pv 0) pe_int (fun _ _ => rfl)) (pe_tup (pa_cons pe_str (pa_cons pe_str (pa_cons pe_str (pa_cons pe_str (pa_cons pe_str (pa_cons pe_str (pa_cons pe_str (pa_cons pe_str pa_nil))))))))) (by rfl)) (pss_one (ps_set (i := 3) sc_qgood.nd rfl (.inl rfl) pe_int)) pss_nil)))))
      (pss_cons (ps_if (pt_cmpR op_ne (pe_callB call_len (by rfl) T.z_len (by decide +kernel) (pa_cons (pv 0) pa_nil)) (pe_op op_add (pv 3) pe_int) (nomark _)) (pss_one (ps_ret pe_bl)) pss_nil)
      (pss_cons (ps_for PassesOwn.never rfl (pi_tup (pe_slice sl_tupA (pv 0) (po_some pe_int) po_none)) (pg_name (i := 4) sc_qgood.nd rfl (.inl rfl)) (pss_one (ps_if (pt_not (pt_val (pc ih (hr.mono (by omega)) T.g__law_good (pa_cons (pv 4) (pa_cons (pv 1) pa_nil))))) (pss_one (ps_ret pe_bl)) pss_nil)))
      (pss_one (ps_ret pe_bl)))))))), ?_⟩
    have hxl : xs.length ≤ 100 := by
      rw [dpa_len hA]
      cases f <;> simp [Fm.args]
    refine isiV (b := "tuple") (a := "tuple") (r := true) rfl (tyx_tup hS) (by decide +kernel) ⟨_, rfl, iteF ?_⟩
    refine ⟨_, rfl, _, xs.length + 1, rfl, .inr ⟨_, hS, rfl⟩, rfl, _, rfl, ?_⟩
    rw [show decide (V.int ((xs.length + 1 : Nat) : Int) = V.int 0) = false from decide_eq_false fun e => by have z := V.int.inj e; omega]
    refine iteF ?_
    refine isiE (b := "str") (a := "str") (r := true) (fun R h => ⟨_, rfl, a, _, 0, _, rfl, rfl, hS, atI_nat (j := 0) rfl, h⟩) (.base (.str _)) (by decide +kernel) ⟨_, rfl, iteF (nxt ?_)⟩
    dsimp only [tSeq]
    refine tst_in (K := K) (te := tOp (rIxT K) (tVar 0) (tC (.int 0))) ["equal", "below", "upto"] (by decide) (fun R h => ⟨_, rfl, a, _, 0, _, rfl, rfl, hS, atI_nat (j := 0) rfl, h⟩) fun H1 e1 => ?_
    rw [cmp_in]
    refine ite2 (fun c => ?_) (fun c => ?_)
    · obtain ⟨k, rfl⟩ : ∃ k, f = .cmp k := by
        cases f with
        | cmp k => exact ⟨k, rfl⟩
        | tt => exact absurd (show false = true from c) (by decide)
        | ff => exact absurd (show false = true from c) (by decide)
        | un o f => exact absurd (show false = true from c) (by decide)
        | bin o f g => exact absurd (show false = true from c) (by decide)
      have hk : k ∈ cs := hfc k (List.mem_singleton.mpr rfl)
      have hDk : Dp K H (.ref a) (cD k) := hD
      have hyl : ys.length = cs.length := by rw [dpa_len hY, List.length_map]
      refine ⟨_, rfl, al, rfl, ⟨_, Evl.ex_l e1 hL⟩, for_it (walk_list (K := K) (a := al) (xs := ys)) (fun i σ H' => Ex H H' ∧ (∀ j, j < i → cs[j]? ≠ some k) ∧ ∃ x2, σ = [some (.ref a), some (.ref al), x2, none, none]) ⟨e1, fun j h => absurd h (Nat.not_lt_zero j), none, rfl⟩ (fun i σ H' _ z => Evl.ex_l z.1 hL) ?_ ?_⟩
      · rintro i y σ H3 H2 hi ⟨e2, hno, x2, rfl⟩ ⟨rfl, hy⟩
        obtain ⟨d, g1, g2⟩ := dpa_get hY hy
        obtain ⟨c, hc, rfl⟩ : ∃ c, cs[i]? = some c ∧ cD c = d := by
          rw [List.getElem?_map] at g1
          cases qq : cs[i]? with
          | none => rw [qq] at g1; cases g1
          | some g => rw [qq] at g1; exact ⟨g, rfl, Option.some.inj g1⟩
        have hk2 := hcd k hk
        have hc2 := hcd c (List.mem_of_getElem? hc)
        refine ⟨_, rfl, _, rfl, .ref a, y, cD k, cD c, rfl, Dp.ex' hDk e2, Dp.ex' g2 e2, pdC hk2.1 hk2.2, pdC hc2.1 hc2.2, fun b hb => ⟨_, rfl, ?_⟩⟩
        cases b with
        | true => exact iteT (q _ e2)
        | false =>
          refine iteF ⟨e2, fun j hj => ?_, _, rfl⟩
          by_cases h : j < i
          · exact hno j h
          · have ej : j = i := by omega
            rw [ej, hc]
            intro e
            rw [Option.some.inj e] at hb
            exact Bool.noConfusion (hb rfl)
      · rintro σ H2 ⟨e2, hno, x2, rfl⟩
        obtain ⟨j, hj, ej⟩ := List.mem_iff_getElem.mp hk
        exact absurd (by rw [List.getElem?_eq_getElem hj, ej]) (hno j (by omega))
    · have hc : f.tag.isCmp = false := eq_false_of_ne_true c
      have hA2 := hA
      rw [kids_args hc] at hA2
      have hkx : xs.length = (kids f).length := by rw [dpa_len hA2, List.length_map]
      have tail : ∀ H2, Ex H H2 → tSeq (tIfS (tTest (tOp rNe (tCB (rLen K) (tCons (tVar 0) tNil)) (tOp (rI0 fun i j => .int (i + j)) (tVar 3) (tC (.int 1))))) (tRet (tC (.bl false))) tNext) (tSeq (tFor (iTup K (tSl (rSlA K) (tVar 0) (tPart (tC (.int 1))) tNoPart)) (gName 4) (tIfS (tNot (tB (tCall (spGood K n) [] E0 (tCons (tVar 4) (tCons (tVar 1) tNil))))) (tRet (tC (.bl false))) tNext)) (tRet (tC (.bl true))))
          { nx := fun _ H' => Q .non H', rt := Q } [some (.ref a), some (.ref al), none, some (.int (kids f).length), none] H2 := by
        intro H2 e2
        refine ⟨_, rfl, _, xs.length + 1, rfl, .inr ⟨_, Evl.ex_t e2 hS, rfl⟩, _, rfl, _, _, rfl, rfl, rfl, _, rfl, ?_⟩
        rw [show decide (V.int ((xs.length + 1 : Nat) : Int) = V.int (((kids f).length : Int) + 1)) = true from decide_eq_true (by rw [hkx]; rfl)]
        refine iteF (nxt ⟨_, rfl, 1, rfl, a, _, rfl, Evl.ex_t e2 hS, fun hq => absurd hq.1 ?_, fun _ p hp => ⟨p, rfl, ⟨_, SqT.of upd_same⟩, ?_⟩⟩)
        · rw [show HT.sIx (V.str f.tag.s :: xs).length 0 (some 1) = min 1 (V.str f.tag.s :: xs).length from HT.sIx_nat _ 0 1, List.length_cons]
          omega
        rw [cut_tail]
        have e3 := Evl.Ex.new hp (o := HO.tup xs)
        have hp : SqT K (upd H2 p (.tup xs)) p xs := SqT.of upd_same
        generalize upd H2 p (.tup xs) = H3 at e3 hp ⊢
        have e03 := e2.trans e3
        refine (for_it (walk_tup (K := K) (a := p) (xs := xs)) (fun i σ H' => Ex H3 H' ∧ ∃ x4, σ = [some (.ref a), some (.ref al), none, some (.int (kids f).length), x4]) ⟨Evl.Ex.refl _, none, rfl⟩ (fun i σ H' _ z => Evl.ex_t z.1 hp) ?_ ?_)
        · rintro i y σ H5 H4 hi ⟨e4, x4, rfl⟩ ⟨rfl, hy⟩
          obtain ⟨d, hd1, hd2⟩ := dpa_get hA2 hy
          obtain ⟨g, hg, rfl⟩ : ∃ g, (kids f)[i]? = some g ∧ fD g = d := by
            rw [List.getElem?_map] at hd1
            cases qq : (kids f)[i]? with
            | none => rw [qq] at hd1; cases hd1
            | some g => rw [qq] at hd1; exact ⟨g, rfl, Option.some.inj hd1⟩
          have hgm := List.mem_of_getElem? hg
          have hgd := kids_dep hgm
          have e04 := e03.trans e4
          refine ⟨_, rfl, _, rfl, g, y, al, ys, cs, rfl, Dp.ex' hd2 e04, by omega, Evl.ex_l e04 hL, dpa_ex e04 _ _ hY, fun c hc' => hfc c (by rw [kids_found hc]; exact List.mem_flatMap.mpr ⟨g, hgm, hc'⟩), hcd, hcl, fun H6 e6 => ⟨_, rfl, iteF ⟨e4.trans e6, _, rfl⟩⟩⟩
        · rintro σ H4 ⟨e4, x4, rfl⟩
          exact q _ (e03.trans e4)
      refine nxt ⟨_, rfl, ?_⟩
      dsimp only [gName, tSeq]
      have w0 : ∀ {H2 : Hp} (e : Ex H H2) (R : VK), R (.str f.tag.s) H2 → tOp (rIxT K) (tVar 0) (tC (.int 0)) (List.set (start nm_qgood [.ref a, .ref al]) 3 (some (.int (-1)))) H2 R := fun e R h => ⟨_, rfl, a, _, 0, _, rfl, rfl, Evl.ex_t e hS, atI_nat (j := 0) rfl, h⟩
      refine tst_in (K := K) (te := tOp (rIxT K) (tVar 0) (tC (.int 0))) ["true", "false"] (by decide) (w0 e1) fun H2 e2 => ?_
      rw [z_in]
      have e02 := e1.trans e2
      refine ite2 (fun cz => ?_) (fun cz => ?_)
      · have ek : (kids f).length = 0 := by
          cases f <;> first | rfl | exact absurd (show false = true from cz) (by decide)
        have t := tail H2 e02
        rw [ek] at t
        exact t
      refine tst_in (K := K) (te := tOp (rIxT K) (tVar 0) (tC (.int 0))) ["not", "next", "eventually", "always"] (by decide) (w0 e02) fun H3 e3 => ?_
      rw [u_in]
      have e03 := e02.trans e3
      refine ite2 (fun cu => ?_) (fun cu => ?_)
      · have ek : (kids f).length = 1 := by
          cases f <;> first | rfl | exact absurd (show false = true from cu) (by decide)
        have t := tail H3 e03
        rw [ek] at t
        exact t
      refine tst_in (K := K) (te := tOp (rIxT K) (tVar 0) (tC (.int 0))) ["and", "or", "implies", "same", "until", "release", "unless", "strong"] (by decide) (w0 e03) fun H4 e4 => ?_
      rw [b_in]
      have e04 := e03.trans e4
      refine ite2 (fun cb => ?_) (fun cb => ?_)
      · have ek : (kids f).length = 2 := by
          cases f <;> first | rfl | exact absurd (show false = true from cb) (by decide)
        have t := tail H4 e04
        rw [ek] at t
        exact t
      · exfalso
        cases f with
        | tt => exact cz rfl
        | ff => exact cz rfl
        | cmp k => exact c rfl
        | un o f => exact cu rfl
        | bin o f g => exact cb rfl
end
end W16
set_option Elab.async false
set_option linter.all false
set_option maxRecDepth 100000
set_option maxHeartbeats 4000000
namespace W16
open PySem PySem.Spec PyProof.Rows L2
open PySem.PyData (strOk)
open Evl (Ex)
/-! ### sizes, depths -/
theorem size_ps : ∀ f : Fm, (ps f).size ≤ 2 * f.size ∧ (ng f).size ≤ 2 * f.size := by
  intro f
  induction f with
  | tt => exact ⟨by simp [ps, Fm.size], by simp [ng, Fm.size]⟩
  | ff => exact ⟨by simp [ps, Fm.size], by simp [ng, Fm.size]⟩
  | cmp c =>
    obtain ⟨o, t, u⟩ := c
    refine ⟨by simp [ps, Fm.size], ?_⟩
    cases o <;> simp [ng, Fm.size]
  | un w f ih => cases w <;> simp only [ps, ng, Fm.size] <;> omega
  | bin w f g ihf ihg => cases w <;> simp only [ps, ng, Fm.size] <;> omega
theorem size_opp (f : Fm) : (opp f).size ≤ f.size + 1 := by
  have h := size_pos f
  unfold opp
  split
  · simp [Fm.size]
  · split <;> simp [Fm.size]
theorem size_shr1 (w : UO) (f : Fm) : (shr1 w f).size ≤ f.size + 1 := by
  unfold shr1
  split
  · exact size_opp f
  · split
    · omega
    · simp [Fm.size]
theorem size_shr2 (w : BO) (f g : Fm) : (shr2 w f g).size ≤ f.size + g.size + 1 := by
  have h1 := size_shr1 .ev g
  have h2 := size_shr1 .alw g
  have h3 := size_opp g
  have h4 := size_pos f
  unfold shr2
  split
  · unfold wT1
    repeat' split
    all_goals first | (simp only [Fm.size]; omega) | omega
  · split
    · unfold wF1
      repeat' split
      all_goals first | (simp only [Fm.size]; omega) | omega
    · split
      · unfold wT2
        repeat' split
        all_goals first | (simp only [Fm.size]; omega) | omega
      · split
        · unfold wF2
          repeat' split
          all_goals first | (simp only [Fm.size]; omega) | omega
        · simp only [Fm.size]; omega
theorem size_shr : ∀ f : Fm, (shr f).size ≤ f.size := by
  intro f
  induction f with
  | tt => exact Nat.le_refl _
  | ff => exact Nat.le_refl _
  | cmp c => exact Nat.le_refl _
  | un w f ih =>
    have h := size_shr1 w (shr f)
    simp only [shr, Fm.size]; omega
  | bin w f g ihf ihg =>
    have h := size_shr2 w (shr f) (shr g)
    simp only [shr, Fm.size]; omega
theorem dep_size {ns : List Str} : ∀ {f : Fm}, f.wf ns → f.dep ≤ f.size + 3 := by
  intro f
  induction f with
  | tt => exact fun _ => by simp [Fm.dep, Fm.size]
  | ff => exact fun _ => by simp [Fm.dep, Fm.size]
  | cmp c =>
    intro h
    have z := h c (List.mem_singleton.mpr rfl)
    have z1 := z.dt
    have z2 := z.du
    simp only [Fm.dep, Cm.dep, Fm.size]
    omega
  | un w f ih =>
    intro h
    have z := ih h
    simp only [Fm.dep, Fm.size]
    omega
  | bin w f g ihf ihg =>
    intro h
    have z1 := ihf (wf_bin h).1
    have z2 := ihg (wf_bin h).2
    simp only [Fm.dep, Fm.size]
    omega
theorem len_flips (c : Cm) : (flips c).length ≤ 2 := by unfold flips; cases c.o <;> simp
theorem len_allowed (f : Fm) : (allowed f).length ≤ 2 * (found f).length := by
  unfold allowed
  induction found f with
  | nil => simp
  | cons c r ih =>
    have h := len_flips c
    rw [List.flatMap_cons, List.length_append, List.length_cons]
    omega
/-! ### lists of truths as data -/
theorem dp_bls {K : PySem.W.Frag} {H : Hp} : ∀ (l : List Nat) (f : Nat → Bool), DpAll K H (l.map fun k => V.bl (f k)) (l.map fun k => PyData.bool (f k))
  | [], _ => .nil
  | k :: r, f => .cons (.bl _) (dp_bls r f)
theorem bools_lay : ∀ (l : List Nat) (f : Nat → Bool), PyData.canLayAll0 (l.map fun k => PyData.bool (f k)) = true ∧ PyData.depthAll (l.map fun k => PyData.bool (f k)) ≤ 1 ∧ PyData.eqvAll (l.map fun k => PyData.bool (f k)) (l.map fun k => PyData.bool (f k)) = true
  | [], _ => ⟨by simp [PyData.canLayAll0], by simp [PyData.depthAll], by simp [PyData.eqvAll]⟩
  | k :: r, f => by
    obtain ⟨h1, h2, h3⟩ := bools_lay r f
    refine ⟨by simp [PyData.canLayAll0, PyData.canLay0, h1], ?_, by simp [PyData.eqvAll, PyData.eqv, h3]⟩
    rw [List.map_cons, PyData.depthAll, PyData.depth]
    omega
/-! ### what is asked of each answer -/
structure Ans (ns : List Str) (r : Rn) (al : List Cm) (f : Fm) (F : Nat → Bool) : Prop where
  wf : f.wf ns
  dep : f.dep ≤ 62
  size : f.size ≤ 900
  found : ∀ c ∈ found f, c ∈ al
  ho : ∀ k, ho r f k = F k
theorem cut_take (xs : List V) (n : Nat) : cutV xs none (some (n : Int)) = xs.take n := by
  unfold cutV
  rw [HT.sIx_none, HT.sIx_nat, List.drop_zero, Nat.sub_zero, ← List.take_eq_take_min]
theorem cut_drop (xs : List V) (n : Nat) : cutV xs (some (n : Int)) none = xs.drop n := by
  unfold cutV
  rw [HT.sIx_none, HT.sIx_nat]
  rw [List.take_of_length_le (by rw [List.length_drop]; exact Nat.le_refl _)]
  by_cases h : n ≤ xs.length
  · rw [Nat.min_eq_left h]
  · rw [Nat.min_eq_right (by omega), List.drop_length, List.drop_eq_nil_of_le (by omega)]
def spLaw (K : PySem.W.Frag) : Sp := fun vs H Q _ => ∃ (a : Addr) (cs : List Int), vs = [.ref a] ∧ SqL K H a (cs.map V.int) ∧ ∀ H', Q (.bl true) H'
section
variable {P : Program} {w : World} {K : PySem.W.Frag} {mg : Str → Option Value} {base : Heap}
abbrev nm_law : List Str := ["_law_script", "_law_names_here", "_law_formula_here", "_law_lengths_here", "_law_many_here", "_law_great", "_law_run", "_law_due", "_law_turned", "_law_answers", "_law_allowed_here", "_law_k", "_law_expected", "_law_told", "_law_bit"]
theorem sc_law : FnScope nm_law ["_law_script"] (defScope s_law) := ⟨rfl, rfl, rfl, by decide +kernel, rfl, by decide +kernel, by decide +kernel⟩
theorem mkF {x q : Str} {st : Stmt} {f : Addr} {fd : FuncData} {N ps : List Str} {k : Nat} {sp : Sp} (F : FunD K x q (defArgs st) (defBody st) (defScope st) [] [] f fd) (S : FnScope N ps (defScope st))
    (len : ∀ vs H Q E, sp vs H Q E → vs.length = ps.length)
    (body : ∀ (cdv : Value) (A : Around) (outer : List Env) (s : Shared) (H : Hp) (vs : List V) (Q : VK) (E : XK), Room k (A.deeper (envOfC q (defScope st) s.heap.objs.size f cdv)) → sp vs H Q E →
      ∃ t, PSs (cxOf CX0 P w K mg base N q (defScope st) f cdv A outer s H E).nox (defBody st) t ∧ t { nx := fun _ H' => Q .non H', rt := Q } (start N vs) H) : FnOk P w K mg base CX0 (k + 1) f fd ps sp :=
  F.ok S len fun cdv A outer s H vs Q E hr h => by
    obtain ⟨t, h1, h2⟩ := body cdv A outer s H vs Q E hr h
    exact ⟨t, h1.nox, h2⟩
theorem ok_law (T : T16 K w mg) {fd : FuncData} (FD : FunD K "law" "law" (defArgs s_law) (defBody s_law) (defScope s_law) [] [] (gA K "law") fd) : FnOk P w K mg base CX0 76 (gA K "law") fd ["_law_script"] (spLaw K) := by
  refine mkF FD sc_law (fun vs H Q E h => ?_) fun cdv A outer s H vs Q E hr h => ?_
  · obtain ⟨a, cs, rfl, _⟩ := h
    rfl
  obtain ⟨a, cs, rfl, hS, q⟩ := h
  refine ⟨_, (pss_cons (ps_set (i := 1) sc_law.nd rfl (.inl rfl) (pc (ok__law_names T) (hr.mono (by omega)) T.g__law_names (pa_cons (pc (ok__law_cell T) (hr.mono (by omega)) T.g__law_cell (pa_cons (pv 0) (pa_cons pe_int pa_nil))) (pa_cons (pe_op op_add pe_int (pe_op op_mod (pe_callTy call_int1 (by rfl) T.z_int (by decide +kernel) (pa_cons (pc (ok__law_cell T) (hr.mono (by omega)) T.g__law_cell (pa_cons (pv 0) (pa_cons pe_int pa_nil))) pa_nil)) pe_int)) pa_nil))))
      (pss_cons (ps_set (i := 2) sc_law.nd rfl (.inl rfl) (pc (ok__law_some T) (hr.mono (by omega)) T.g__law_some (pa_cons (pv 0) (pa_cons pe_int (pa_cons (pv 1) (pa_cons (pc (ok__law_many T) (hr.mono (by omega)) T.g__law_many (pa_cons (pc (ok__law_cell T) (hr.mono (by omega)) T.g__law_cell (pa_cons (pv 0) (pa_cons pe_int pa_nil))) pa_nil)) pa_nil))))))
      (pss_cons (ps_set (i := 3) sc_law.nd rfl (.inl rfl) (pc (ok__law_lengths T) (hr.mono (by omega)) T.g__law_lengths (pa_cons (pc (ok__law_cell T) (hr.mono (by omega)) T.g__law_cell (pa_cons (pv 0) (pa_cons pe_int pa_nil))) pa_nil)))
      (pss_cons (ps_set (i := 4) sc_law.nd rfl (.inl rfl) (pe_op op_add (pe_ix ix_list (pv 3) pe_int (fun _ _ => rfl)) (pe_ix ix_list (pv 3) pe_int (fun _ _ => rfl))))
      (pss_cons (ps_set (i := 5) sc_law.nd rfl (.inl rfl) (pe_op op_mod (pe_callTy call_int1 (by rfl) T.z_int (by decide +kernel) (pa_cons (pc (ok__law_cell T) (hr.mono (by omega)) T.g__law_cell (pa_cons (pv 0) (pa_cons pe_int pa_nil))) pa_nil)) (pe_op op_sub (pe_op op_pow pe_int pe_int) pe_int)))
      (pss_cons (ps_set (i := 6) sc_law.nd rfl (.inl rfl) (pc (ok__law_states T) (hr.mono (by omega)) T.g__law_states (pa_cons (pc (ok__law_draws T) (hr.mono (by omega)) T.g__law_draws (pa_cons (pv 0) (pa_cons pe_int (pa_cons (pe_op op_mul (pv 4) (pe_callB call_len (by rfl) T.z_len (by decide +kernel) (pa_cons (pv 1) pa_nil))) pa_nil)))) (pa_cons (pv 4) (pa_cons (pv 1) (pa_cons (pv 5) pa_nil))))))
      (pss_cons (ps_set (i := 7) sc_law.nd rfl (.inl rfl) (pc (ok__law_along T 62) (hr.mono (by omega)) T.g__law_along (pa_cons (pv 2) (pa_cons (pv 1) (pa_cons (pv 6) (pa_cons (pe_ix ix_list (pv 3) pe_int (fun _ _ => rfl)) pa_nil))))))
      (pss_cons (ps_setLc (i := 8) (own := [("_law_bit", 14)]) rfl sc_law.nd rfl rfl (sw_true rfl rfl rfl (by decide +kernel)) (pi_list (pv 7)) (blkOk_by (own := [("_law_bit", 14)]) (N := nm_law) (sc := defScope s_law) (by decide +kernel)) (fun _ _ _ _ _ => (pg_name (i := 14) sc_law.nd rfl (.inl rfl))) (fun _ _ _ _ _ => pts_nil) (fun _ _ _ _ _ => (pe_not (pv 14))))
      (pss_cons (ps_set (i := 9) sc_law.nd rfl (.inl rfl) (pe_lst (pa_cons (pv 2) (pa_cons (pc ((ok_posneg T 62).2) (hr.mono (by omega)) T.g_positive (pa_cons (pv 2) pa_nil)) (pa_cons (pc (ok_shrink T 62) (hr.mono (by omega)) T.g_shrink (pa_cons (pv 2) pa_nil)) (pa_cons (pc ((ok_posneg T 62).1) (hr.mono (by omega)) T.g_negated (pa_cons (pv 2) pa_nil)) pa_nil))))))
      (pss_cons (ps_set (i := 10) sc_law.nd rfl (.inl rfl) (pc (ok__law_allowed T) (hr.mono (by omega)) T.g__law_allowed (pa_cons (pv 2) pa_nil)))
      (pss_cons (ps_for PassesOwn.never rfl (pi_range1 (by rfl) T.z_range (pa_cons pe_int pa_nil)) (pg_name (i := 11) sc_law.nd rfl (.inl rfl)) (pss_cons (ps_set (i := 12) sc_law.nd rfl (.inl rfl) (pe_ix ix_list (pe_lst (pa_cons (pv 7) (pa_cons (pv 7) (pa_cons (pv 7) (pa_cons (pv 8) pa_nil))))) (pv 11) (fun _ _ => rfl)))
      (pss_cons (ps_if (PW.pt (pw_or (pt_not (pt_val (pc (ok__law_good T 62) (hr.mono (by omega)) T.g__law_good (pa_cons (pe_ix ix_list (pv 9) (pv 11) (fun _ _ => rfl)) (pa_cons (pv 10) pa_nil))))) (pw_or1 (pt_cmpR (op_neD hr.units) (pc (ok__law_along T 62) (hr.mono (by omega)) T.g__law_along (pa_cons (pe_ix ix_list (pv 9) (pv 11) (fun _ _ => rfl)) (pa_cons (pv 1) (pa_cons (pv 6) (pa_cons (pe_ix ix_list (pv 3) pe_int (fun _ _ => rfl)) pa_nil))))) (pv 12) (nomark _))))) (pss_one (ps_ret pe_bl)) pss_nil)
      (pss_cons (ps_set (i := 13) sc_law.nd rfl (.inl rfl) (pc (ok_truths_along T) (hr.mono (by omega)) T.g_truths_along (pa_cons (pe_ix ix_list (pv 9) (pv 11) (fun _ _ => rfl)) (pa_cons (pe_callTy call_list_of (by rfl) T.z_list (by decide +kernel) (pa_cons (pv 1) pa_nil)) (pa_cons (pe_slice sl_list (pv 6) po_none (po_some (pe_ix ix_list (pv 3) pe_int (fun _ _ => rfl)))) (pa_cons (pe_slice sl_list (pv 6) (po_some (pe_ix ix_list (pv 3) pe_int (fun _ _ => rfl))) po_none) pa_nil))))))
      (pss_one (ps_if (pt_not (pt_val (pc (ok__law_bits T) (hr.mono (by omega)) T.g__law_bits (pa_cons (pv 13) (pa_cons (pv 12) pa_nil))))) (pss_one (ps_ret pe_bl)) pss_nil))))))
      (pss_one (ps_ret pe_bl))))))))))))), ?_⟩
  have P3 : (0 : Int) < 3 := by decide
  -- the names
  refine ⟨_, rfl, a, cs, 7, rfl, by decide, hS, fun z7 => ⟨_, rfl, a, cs, 8, rfl, by decide, hS, fun z8 => .inl ⟨_, rfl, _, _, rfl, rfl, P3, _, _, rfl, rfl, z7, (1 + z8 % 3).toNat, (by rw [show (((1 + z8 % 3).toNat : Nat) : Int) = 1 + z8 % 3 by omega]; rfl), by omega, by omega, fun an H1 ns han e1 hBn hnl hnd hok => ?_⟩⟩⟩
  have N : Nms ns := ⟨by omega, by omega, hnd, hok⟩
  have npos := N.pos
  have nfew := N.few
  -- the formula
  refine ⟨_, rfl, _, rfl, _, rfl, a, cs, 0, rfl, by decide, Evl.ex_l e1 hS, fun z0 => ⟨z0, rfl, fun m hm1 hm2 => ⟨a, an, cs, ns, m, rfl, Evl.ex_l e1 hS, SqL.of hBn, N, hm1, hm2, fun f v H2 e2 hf hw hsz => ?_⟩⟩⟩
  have hdep := dep_size hw
  have e02 := e1.trans e2
  -- the lengths
  refine ⟨_, rfl, a, cs, 4, rfl, by decide, Evl.ex_l e02 hS, fun z4 => ⟨z4, rfl, fun la lb L H3 hla hlb1 hlb2 hL e3 hBL => ?_⟩⟩
  have e03 := e02.trans e3
  refine ⟨_, rfl, L, _, 0, _, rfl, rfl, SqL.of hBL, atI_nat (j := 0) rfl, _, rfl, L, _, 1, _, rfl, rfl, SqL.of hBL, atI_nat (j := 1) rfl, _, _, rfl, rfl, ?_⟩
  -- the great number
  refine ⟨_, rfl, a, cs, 6, rfl, by decide, Evl.ex_l e03 hS, fun z6 => .inl ⟨_, rfl, _, _, rfl, rfl, ⟨by decide, by decide, by decide⟩, _, _, rfl, rfl, _, _, rfl, rfl, (by show (0 : Int) < 10 ^ (18 : Int).toNat - 2; decide), ?_⟩⟩
  have hg : (10 : Int) ^ (18 : Int).toNat - 2 = 999999999999999998 := by decide
  have hg1 : 0 ≤ z6 % (10 ^ (18 : Int).toNat - 2) := by rw [hg]; omega
  have hg2 : z6 % (10 ^ (18 : Int).toNat - 2) < 1000000000000000000 := by rw [hg]; omega
  dsimp only [gName]
  generalize z6 % (10 ^ (18 : Int).toNat - 2) = g at hg1 hg2 ⊢
  -- the run
  have hBn3 := e3 _ _ (e2 _ _ hBn)
  have hlN : (ns.map V.str).length = ns.length := List.length_map _
  have hnn : (la + lb) * ns.length ≤ 18 * 3 := Nat.mul_le_mul (by omega) (by omega)
  refine ⟨_, rfl, _, rfl, _, rfl, _, ns.length, rfl, .inl ⟨_, SqL.of hBn3, hlN.symm⟩, _, _, rfl, rfl, .inr ⟨by omega, by omega⟩, a, cs, 5, (la + lb) * ns.length, (by rw [Int.natCast_mul, Int.natCast_add]; rfl), by decide, by decide, by omega, Evl.ex_l e03 hS, fun Dd H4 ds hDd e4 hBd hld hds => ?_⟩
  refine ⟨_, rfl, _, rfl, _, rfl, Dd, an, g, ns, ds, la + lb, rfl, SqL.of hBd, hld, by omega, SqL.of (e4 _ _ hBn3), N, hg1, hg2, fun Dr H5 xs sts hDr e5 hBr hxl hst => ?_⟩
  have hf : DF K H2 v f := hf
  have hst : StOk K ns H5 xs sts := hst
  have e05 := e03.trans (e4.trans e5)
  have e25 := e3.trans (e4.trans e5)
  have hf5 := Dp.ex' hf e25
  have hBn5 := e5 _ _ (e4 _ _ hBn3)
  have hBL5 := e5 _ _ (e4 _ _ hBL)
  obtain ⟨r, er⟩ : ∃ r : Rn, r = ⟨la + lb, la, fun i => envOf ns (sts[i]?.getD [])⟩ := ⟨_, rfl⟩
  have rn : r.n = la + lb := by rw [er]
  have rb : r.back = la := by rw [er]
  have hO : RunOk K H5 ns r xs := ⟨by rw [hxl, rn], by omega, by omega, fun i x hx => by
    obtain ⟨b, zs, w1, w2, w3, w4⟩ := hst.at_ i x hx
    exact ⟨b, zs, w2, w3, w4, by rw [er]; show envOf ns (sts[i]?.getD []) = _; rw [w1]; rfl⟩⟩
  have hr0 : 0 < r.n := by omega
  have hr18 : r.n ≤ 18 := by omega
  -- what is due
  refine ⟨_, rfl, _, rfl, _, rfl, _, rfl, L, _, 0, _, rfl, rfl, SqL.of hBL5, atI_nat (j := 0) rfl, f, v, an, Dr, ns, r, xs, (by rw [rb]; rfl), hf5, hw, by omega, SqL.of hBn5, SqL.of hBr, hO, fun Du H6 hDu e6 hBu => ?_⟩
  dsimp only [gName, tSeq, tAsg]
  refine tLstB2 (ho r f) (fun k => !ho r f k) rfl (SqL.of hBu) (by omega) (fun _ => rfl) (fun i H' hi e Q' hQ => ⟨_, rfl, _, rfl, hQ _ _ (Evl.Ex.refl _) rfl⟩) fun Dt H7 hDt e7 hBt => ?_
  have hf7 := Dp.ex' hf5 (e6.trans e7)
  have hfit : Fit 62 f := ⟨ok_of_wf hw, by omega⟩
  -- the answers
  refine ⟨_, rfl, _, rfl, f, v, rfl, hf7, by omega, fun v1 H8 e8 hf1 => ?_⟩
  refine ⟨_, rfl, f, v, rfl, Dp.ex' hf7 e8, hfit, by omega, fun v2 H9 e9 hf2 => ?_⟩
  refine ⟨_, rfl, f, v, rfl, Dp.ex' hf7 (e8.trans e9), by omega, fun v3 H10 e10 hf3 => ⟨(by show 4 ≤ sizeLine; decide), fun Da hDa => ?_⟩⟩
  have e11 := Evl.Ex.new hDa (o := HO.lst [v, v1, v2, v3])
  have hBa : upd H10 Da (HO.lst [v, v1, v2, v3]) Da = some (HO.lst [v, v1, v2, v3]) := upd_same
  dsimp only [gName]
  generalize upd H10 Da (HO.lst [v, v1, v2, v3]) = H11 at e11 hBa ⊢
  have e711 := e8.trans (e9.trans (e10.trans e11))
  -- the comparisons that are allowed
  refine ⟨_, rfl, f, v, rfl, Dp.ex' hf7 e711, by omega, by omega, fun Dl H12 ys hDl e12 hBl hys => ?_⟩
  have e712 := e711.trans e12
  have e512 := e6.trans (e7.trans e712)
  have O12 := hO.ex e512
  have Bn12 := e512 _ _ hBn5
  have BL12 := e512 _ _ hBL5
  have Br12 := e512 _ _ hBr
  have Bu12 := (e7.trans e712) _ _ hBu
  have Bt12 := e712 _ _ hBt
  have Ba12 := e12 _ _ hBa
  have F0 : DF K H12 v f := Dp.ex' hf7 e712
  have F1 : DF K H12 v1 (ps f) := Dp.ex' hf1 (e9.trans (e10.trans (e11.trans e12)))
  have F2 : DF K H12 v2 (shr f) := Dp.ex' hf2 (e10.trans (e11.trans e12))
  have F3 : DF K H12 v3 (ng f) := Dp.ex' hf3 (e11.trans e12)
  have sps := size_ps f
  have dps := dep_ps f
  have ssh := size_shr f
  have dsh := dep_shr f
  have A0 : Ans ns r (allowed f) f (ho r f) := ⟨hw, by omega, by omega, fun c hc => allowed_self hc, fun k => rfl⟩
  have A1 : Ans ns r (allowed f) (ps f) (ho r f) := ⟨wf_ps hw, by omega, by omega, (found_ps f).1, fun k => (ps_ng r f).1 k⟩
  have A2 : Ans ns r (allowed f) (shr f) (ho r f) := ⟨wf_shr hw, by omega, by omega, fun c hc => allowed_self (found_shr f c hc), fun k => ho_shr hr0 f k⟩
  have A3 : Ans ns r (allowed f) (ng f) (fun k => !ho r f k) := ⟨wf_ng hw, by omega, by omega, (found_ps f).2, fun k => (ps_ng r f).2 k⟩
  have hal : (allowed f).length ≤ 10000 := by
    have z1 := len_allowed f
    have z2 := found_len f
    omega
  have hald : ∀ c ∈ allowed f, c.t.dep ≤ 3 ∧ c.u.dep ≤ 3 := fun c hc => ⟨(wf_allowed hw c hc).dt, (wf_allowed hw c hc).du⟩
  refine ⟨4, rfl, by decide, by decide, for_range (lo := 0) (n := 4) (fun i σ H' => Ex H12 H' ∧ ∃ (x11 x12 x13 : Option V), σ = [some (.ref a), some (.ref an), some v, some (.ref L), some (.int ((la : Int) + lb)), some (.int g), some (.ref Dr), some (.ref Du), some (.ref Dt), some (.ref Da), some (.ref Dl), x11, x12, x13, none]) ⟨Evl.Ex.refl _, none, none, none, rfl⟩ ?_ ?_⟩
  · rintro i σ H13 hi ⟨e13, x11, x12, x13, rfl⟩
    rw [Int.zero_add]
    obtain ⟨fk, vk, Fk, ek, ha, he, hFk, hEk, hAk⟩ : ∃ (fk : Fm) (vk : V) (Fk : Nat → Bool) (ek : Addr), [v, v1, v2, v3][i]? = some vk ∧ [V.ref Du, .ref Du, .ref Du, .ref Dt][i]? = some (.ref ek) ∧ DF K H12 vk fk ∧ H12 ek = some (.lst (bls r.n Fk)) ∧ Ans ns r (allowed f) fk Fk :=
      match i, hi with
      | 0, _ => ⟨f, v, _, Du, rfl, rfl, F0, Bu12, A0⟩
      | 1, _ => ⟨ps f, v1, _, Du, rfl, rfl, F1, Bu12, A1⟩
      | 2, _ => ⟨shr f, v2, _, Du, rfl, rfl, F2, Bu12, A2⟩
      | 3, _ => ⟨ng f, v3, _, Dt, rfl, rfl, F3, Bt12, A3⟩
    refine ⟨_, rfl, _, rfl, _, rfl, _, rfl, (by show 4 ≤ sizeLine; decide), fun D4 hD4 => ?_⟩
    have e14 := Evl.Ex.new hD4 (o := HO.lst [V.ref Du, .ref Du, .ref Du, .ref Dt])
    refine ⟨_, rfl, D4, _, _, _, rfl, rfl, SqL.of upd_same, atI_nat he, ?_⟩
    have e1214 := e13.trans e14
    dsimp only [gName]
    generalize upd H13 D4 (HO.lst [V.ref Du, .ref Du, .ref Du, .ref Dt]) = H14 at e1214 ⊢
    clear e14
    -- the answer is well made
    refine ⟨_, rfl, _, rfl, Da, _, _, _, rfl, rfl, SqL.of (e1214 _ _ Ba12), atI_nat ha, _, rfl, fk, vk, Dl, ys, allowed f, rfl, Dp.ex' hFk e1214, hAk.dep, SqL.of (e1214 _ _ hBl), dpa_ex e1214 _ _ hys, hAk.found, hald, hal, fun H15 e15 => ⟨_, rfl, iteF ?_⟩⟩
    have e1215 := e1214.trans e15
    refine ⟨_, rfl, _, rfl, Da, _, _, _, rfl, rfl, SqL.of (e1215 _ _ Ba12), atI_nat ha, _, rfl, _, rfl, _, rfl, L, _, 0, _, rfl, rfl, SqL.of (e1215 _ _ BL12), atI_nat (j := 0) rfl, fk, vk, an, Dr, ns, r, xs, (by rw [rb]; rfl), Dp.ex' hFk e1215, hAk.wf, hAk.dep, SqL.of (e1215 _ _ Bn12), SqL.of (e1215 _ _ Br12), O12.ex e1215, fun D16 H16 hD16 e16 hB16 => ?_⟩
    have e1216 := e1215.trans e16
    have hB16' : H16 D16 = some (.lst (bls r.n Fk)) := by rw [hB16, bls_congr fun k _ => hAk.ho k]
    obtain ⟨b1, b2, b3⟩ := bools_lay (List.range r.n) Fk
    have shd : SeqAt.shaped (.list ((List.range r.n).map fun k => PyData.bool (Fk k))) = true := by
      show ((PyData.list ((List.range r.n).map fun k => PyData.bool (Fk k))).canLay0 && decide ((PyData.list ((List.range r.n).map fun k => PyData.bool (Fk k))).depth ≤ 64)) = true
      rw [PyData.canLay0, PyData.depth, b1, decide_eq_true (by omega)]
      rfl
    refine ⟨_, rfl, .list ((List.range r.n).map fun k => PyData.bool (Fk k)), .list ((List.range r.n).map fun k => PyData.bool (Fk k)), .lst (SqL.of hB16') (dp_bls _ _), .lst (SqL.of (e1216 _ _ hEk)) (dp_bls _ _), shd, shd, _, rfl, ?_⟩
    rw [show PyData.eqv (.list ((List.range r.n).map fun k => PyData.bool (Fk k))) (.list ((List.range r.n).map fun k => PyData.bool (Fk k))) = true from by rw [PyData.eqv]; exact b3]
    refine iteF (nxt ?_)
    -- what the program tells
    refine ⟨_, rfl, _, rfl, Da, _, _, _, rfl, rfl, SqL.of (e1216 _ _ Ba12), atI_nat ha, _, rfl, an, _, rfl, .inl (SqL.of (e1216 _ _ Bn12)), fun l1 hl1 => ?_⟩
    have e17 := Evl.Ex.new hl1 (o := HO.lst (ns.map V.str))
    have g1 : upd H16 l1 (HO.lst (ns.map V.str)) l1 = some (.lst (ns.map V.str)) := upd_same
    generalize upd H16 l1 (HO.lst (ns.map V.str)) = H17 at e17 g1 ⊢
    have e1217 := e1216.trans e17
    refine ⟨_, rfl, _, rfl, L, _, 0, _, rfl, rfl, SqL.of (e1217 _ _ BL12), atI_nat (j := 0) rfl, (la : Int), rfl, Dr, xs, rfl, SqL.of (e1217 _ _ Br12), fun l2 hl2 => ?_⟩
    rw [cut_take]
    have e18 := Evl.Ex.new hl2 (o := HO.lst (xs.take la))
    have g2 : upd H17 l2 (HO.lst (xs.take la)) l2 = some (.lst (xs.take la)) := upd_same
    generalize upd H17 l2 (HO.lst (xs.take la)) = H18 at e18 g2 ⊢
    have e1218 := e1217.trans e18
    refine ⟨_, rfl, _, rfl, L, _, 0, _, rfl, rfl, SqL.of (e1218 _ _ BL12), atI_nat (j := 0) rfl, (la : Int), rfl, Dr, xs, rfl, SqL.of (e1218 _ _ Br12), fun l3 hl3 => ?_⟩
    rw [cut_drop]
    have e19 := Evl.Ex.new hl3 (o := HO.lst (xs.drop la))
    have g3 : upd H18 l3 (HO.lst (xs.drop la)) l3 = some (.lst (xs.drop la)) := upd_same
    generalize upd H18 l3 (HO.lst (xs.drop la)) = H19 at e19 g3 ⊢
    have e1219 := e1218.trans e19
    refine ⟨fk, vk, l1, l2, l3, ns, r, xs.take la, xs.drop la, rfl, Dp.ex' hFk e1219, hAk.wf, hAk.dep, hAk.size, SqL.of (e19 _ _ (e18 _ _ g1)), hnd, by omega, e19 _ _ g2, g3, (by rw [List.take_append_drop]; exact O12.ex e1219), (by rw [rb, List.length_take]; omega), fun D20 H20 hD20 e20 hB20 => ?_⟩
    have hB20' : H20 D20 = some (.lst (bls r.n Fk)) := by rw [hB20, bls_congr fun k _ => hAk.ho k]
    have e1220 := e1219.trans e20
    refine ⟨_, rfl, _, rfl, D20, ek, r.n, Fk, rfl, by omega, SqL.of hB20', SqL.of (e1220 _ _ hEk), _, rfl, iteF ⟨e1220, _, _, _, rfl⟩⟩
  · rintro σ H13 ⟨e13, x11, x12, x13, rfl⟩
    exact q _
end
end W16
set_option Elab.async false
set_option linter.all false
set_option maxRecDepth 100000
set_option maxHeartbeats 0
namespace W16
open PySem PySem.Spec PyProof.Rows L2
theorem facts {P : Program} {w : World} {K : PySem.W.Frag} {h : Heap} {mg : Str → Option Value} {f : Addr} (X : K.In h) (G : h.Ns mainGlobals mg) (hfa : mg ("law" : Str) = some (.ref f)) {hh : Heap} (c : He.SaysX fa fn ts [] exB w hh K) :
    ∃ fd : FuncData, (∀ (s : Shared) (v : Value), BindsTo s fd ⟨[v], []⟩ [("_law_script", v)]) ∧ ∀ base : Heap, K.In base → base.Ns mainGlobals mg → FnOk P w K mg base CX0 76 f fd ["_law_script"] (spLaw K) := by
  have T := t16_of X G c
  have e := hfa.symm.trans T.g_law
  cases e
  obtain ⟨fd, FD⟩ := T.F_law
  have b := FunD.bindsA (ps := ["_law_script"]) FD fun _ _ _ _ _ _ us hl => match us, hl with | [_], _ => rfl
  exact ⟨fd, fun s v => b s [v] rfl, fun base _ _ => ok_law T FD⟩
end W16
open PySem PySem.W PySem.Calls PyProof.Rows
theorem PySem.Challenge.cw_lassoproof_k16_whole_equal_formulas_holds : PySem.Challenge.rw_lassoproof_k16_whole_equal_formulas.Holds := by
  w_on; o_law
  refine HandSHeadRun.head_any (r := W16.R) (q := view W16.R.prog [62]) (H := W16.hk) (ob := W16.ob) (M := 6000) (loose := W16.loose) (d := HandSHeadRun.topDef W16.R.prog 62) (kwd := []) W16.ob_eq
    (by kernel_rfl) (fun s => by kernel_rfl) W16.run (by kernel_rfl) (by kernel_rfl) (by kernel_rfl) (by rfl) (by first | assumption | decide +kernel) (by decide +kernel) ⟨rfl, rfl, rfl, rfl, rfl, by decide +kernel⟩ ?hw ?hc
  case hw => w_witness2
  case hc =>
    refine L2.walk_ofE (l := PySem.Challenge.rw_lassoproof_k16_whole_equal_formulas) (n := 63) (k := 76) (x := "_law_script") (CX := L2.CX0) rfl (by decide) (by kernel_rfl) ⟨rfl, by decide, by decide⟩ ?F (fun _ _ _ _ z => z)
    intro w mg fa h Y G hmg0
    obtain ⟨K, KX, c⟩ := Y
    have hmg : mg ("law" : PySem.Str) = some (.ref fa) := by
      have e : (HandSHeadRun.topDef W16.R.prog 62).name = ("law" : PySem.Str) := by kernel_rfl
      rw [← e]
      exact hmg0
    obtain ⟨fd, hb, hF⟩ := W16.facts (P := (PySem.Challenge.rw_lassoproof_k16_whole_equal_formulas).prog) (w := w) KX G hmg c
    exact ⟨K, fd, W16.spLaw K, KX, hb, fun H a ns hl _ hS => ⟨a, ns, rfl, hS, fun _ => rfl⟩, hF⟩
