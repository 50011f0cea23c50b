import PyProof.Rows.All
import Wide.All
import OpenK.AllK
import Wide.FinOn
import KE.KStateDown
import KE.KeyNested
import KE.KDictKeyed
import HandS.ForMost
import HandS.WordsExc
import HandS.Defaults
import HandS.Walk
import HandS.IsInst
import HandS.Deep
import HandS.Conv
import HandS.DictComp
import HandS.Flow
import HandS.SortOrd
import HandS.Zip
import HandS.Head0
import HandS.Head1
import HandS.Head2
import HandS.HeadEnd
import HandS.HeadHook1
import HandS.HeadHook2
import KE.LtData
import KE.KSortTup
import KE.KSortKey
import KE.SortKeyHeap
import HandS.SortKw
import KE.SortCalls
import HandS.WordsDict
import KE.KDictZip
import HandS.Lambda
import HandS.HeadHook3
import HandS.HeadHook4
import HandS.EndTab
import HandS.HeadWalk
import KE.GoesEnum
import HandS.SetKeys
import HandS.Style
import PyProof.ReprRoads
import PyProof.ReprLen
import PySem.Challenge.RW_samefromhere_k47_whole_periods_of_rings
set_option Elab.async false
set_option linter.all false
set_option maxRecDepth 100000
set_option maxHeartbeats 4000000
namespace Ly
open PySem PySem.Spec PyProof.Rows L2
abbrev W := NestedKey
/-! ### what is frozen (F) within what is tracked (H); how both go on; M: what may be written -/
theorem Same.some {F F' : Hp} (h : Same F F') {b : Addr} {o : HO} (e : F b = some o) : F' b = some o := h b o e
structure Ex (M : List Addr) (F H F' H' : Hp) : Prop where
  ff : Same F F'
  fh : Same F' H'
  hh : ∀ b o, b ∉ M → H b = some o → H' b = some o
  dm : ∀ b, H b ≠ none → H' b ≠ none
  fr : ∀ b, F' b ≠ none → F b ≠ none ∨ H b = none
section
variable {M M' : List Addr} {F F' F1 F2 H H' H1 H2 : Hp} {p q : Addr} {o u : HO}
theorem Ex.refl (h : Same F H) : Ex M F H F H := ⟨Same.refl F, h, fun _ _ _ e => e, fun _ e => e, fun _ e => .inl e⟩
theorem Ex.trans (a : Ex M F H F1 H1) (b : Ex M F1 H1 F2 H2) : Ex M F H F2 H2 where
  ff := Same.trans a.ff b.ff
  fh := b.fh
  hh := fun c o hc e => b.hh c o hc (a.hh c o hc e)
  dm := fun c e => b.dm c (a.dm c e)
  fr := fun c e => by
    rcases b.fr c e with h | h
    · exact a.fr c h
    · right
      cases z : H c with
      | none => rfl
      | some o => exact absurd h (a.dm c (by rw [z]; intro y; cases y))
theorem Ex.mono (a : Ex M F H F1 H1) (h : ∀ b ∈ M, b ∈ M') : Ex M' F H F1 H1 := ⟨a.ff, a.fh, fun b o hb e => a.hh b o (fun z => hb (h b z)) e, a.dm, a.fr⟩
theorem Ex.nil (a : Ex [] F H F1 H1) : Ex M F H F1 H1 := a.mono fun _ h => nomatch h
/-- what stood and may not be written stands -/
theorem Ex.at (a : Ex M F H F1 H1) (e : H p = some o) (h : p ∉ M := by simp) : H1 p = some o := a.hh p o h e
theorem Ex.fz (a : Ex M F H F1 H1) (e : F p = some o) : F1 p = some o := a.ff p o e
/-- what stood and was not frozen is not -/
theorem Ex.nf (a : Ex M F H F1 H1) (hf : F p = none) (hp : H p ≠ none) : F1 p = none := by
  cases z : F1 p with
  | none => rfl
  | some o =>
    rcases a.fr p (by rw [z]; intro y; cases y) with h | h
    · exact absurd hf h
    · exact absurd h hp
theorem ne_none {H : Hp} {p : Addr} {o : HO} (e : H p = some o) : H p ≠ none := by rw [e]; intro z; cases z
theorem none_of_upd (hp : H p = none) (e : upd H q o p = none) : p ≠ q := fun z => by rw [z, upd_same] at e; cases e
theorem upd_none {H : Hp} {p q : Addr} {o : HO} (h : upd H q o p = none) : H p = none ∧ p ≠ q := by
  by_cases z : p = q
  · rw [z, upd_same] at h; cases h
  · rw [upd_ne z] at h; exact ⟨h, z⟩
/-- a new object, frozen -/
theorem Ex.newF (h : Same F H) (hp : H p = none) : Ex M F H (upd F p o) (upd H p o) where
  ff := fun b v e => by rw [upd_ne (ne_of_none (h b v e) hp)]; exact e
  fh := fun b v e => by
    by_cases z : b = p
    · rw [z, upd_same] at e ⊢; exact e
    · rw [upd_ne z] at e ⊢; exact h b v e
  hh := fun b v _ e => by rw [upd_ne (ne_of_none e hp)]; exact e
  dm := fun b e => by
    by_cases z : b = p
    · rw [z, upd_same]; intro y; cases y
    · rw [upd_ne z]; exact e
  fr := fun b e => by
    by_cases z : b = p
    · rw [z]; exact .inr hp
    · rw [upd_ne z] at e; exact .inl e
/-- a new object, to be written further -/
theorem Ex.new (h : Same F H) (hp : H p = none) : Ex M F H F (upd H p o) where
  ff := Same.refl F
  fh := fun b v e => by rw [upd_ne (ne_of_none (h b v e) hp)]; exact h b v e
  hh := fun b v _ e => by rw [upd_ne (ne_of_none e hp)]; exact e
  dm := fun b e => by
    by_cases z : b = p
    · rw [z, upd_same]; intro y; cases y
    · rw [upd_ne z]; exact e
  fr := fun b e => .inl e
/-- a thing that is not frozen is written -/
theorem Ex.put (h : Same F H) (hf : F p = none) (hp : p ∈ M) : Ex M F H F (upd H p o) where
  ff := Same.refl F
  fh := fun b v e => by rw [upd_ne (ne_of_none e hf)]; exact h b v e
  hh := fun b v hb e => by rw [upd_ne (fun z => hb (by rw [z]; exact hp))]; exact e
  dm := fun b e => by
    by_cases z : b = p
    · rw [z, upd_same]; intro y; cases y
    · rw [upd_ne z]; exact e
  fr := fun b e => .inl e
/-- .. one that came behind the start -/
theorem Ex.wr (a : Ex M F H F1 H1) (h0 : H p = none) (hf : F1 p = none) : Ex M F H F1 (upd H1 p o) where
  ff := a.ff
  fh := fun b v e => by rw [upd_ne (ne_of_none e hf)]; exact a.fh b v e
  hh := fun b v hb e => by rw [upd_ne (ne_of_none e h0)]; exact a.hh b v hb e
  dm := fun b e => by
    by_cases z : b = p
    · rw [z, upd_same]; intro y; cases y
    · rw [upd_ne z]; exact a.dm b e
  fr := a.fr
/-- it is frozen from here on -/
theorem Ex.frz (a : Ex M F H F1 H1) (h0 : H p = none) (e : H1 p = some o) (hf : F1 p = none) : Ex M F H (upd F1 p o) H1 where
  ff := fun b v z => by rw [upd_ne (ne_of_none (a.ff b v z) hf)]; exact a.ff b v z
  fh := fun b v z => by
    by_cases y : b = p
    · rw [y, upd_same] at z; rw [y, e]; exact z
    · rw [upd_ne y] at z; exact a.fh b v z
  hh := a.hh
  dm := a.dm
  fr := fun b z => by
    by_cases y : b = p
    · rw [y]; exact .inr h0
    · rw [upd_ne y] at z; exact a.fr b z
theorem Same.upd (hf : F p = none) : Same F (upd F p o) := fun b v z => by rw [upd_ne (ne_of_none z hf)]; exact z
theorem Same.le {F H : Hp} {p : Addr} (h : Same F H) (e : H p = none) : F p = none := Same.free h e
end
/-! ### words -/
mutual
def Wk (F : Hp) : W → V → Prop
  | .none, v => v = .non
  | .num i, v => v = .int i
  | .text s, v => v = .str s
  | .tup ks, v => ∃ a vs, v = .ref a ∧ F a = some (.tup vs) ∧ Wks F ks vs ∧ ks.length < 1000000
def Wks (F : Hp) : List W → List V → Prop
  | [], vs => vs = []
  | k :: ks, vs => ∃ v r, vs = v :: r ∧ Wk F k v ∧ Wks F ks r
end
section
variable {F F' H : Hp}
mutual
theorem Wk.mono (h : ∀ a xs, F a = some (.tup xs) → F' a = some (.tup xs)) : ∀ {k : W} {v : V}, Wk F k v → Wk F' k v
  | .none, _, e => e
  | .num _, _, e => e
  | .text _, _, e => e
  | .tup ks, v, e => by
    obtain ⟨a, vs, e1, e2, e3, e4⟩ := (show ∃ a vs, v = .ref a ∧ F a = some (.tup vs) ∧ Wks F ks vs ∧ ks.length < 1000000 by simpa [Wk] using e)
    have q := Wks.mono h e3
    simp only [Wk]
    exact ⟨a, vs, e1, h _ _ e2, q, e4⟩
theorem Wks.mono (h : ∀ a xs, F a = some (.tup xs) → F' a = some (.tup xs)) : ∀ {ks : List W} {vs : List V}, Wks F ks vs → Wks F' ks vs
  | [], _, e => e
  | k :: ks, vs, e => by
    obtain ⟨v, r, e1, e2, e3⟩ := (show ∃ v r, vs = v :: r ∧ Wk F k v ∧ Wks F ks r by simpa [Wks] using e)
    have q1 := Wk.mono h e2
    have q2 := Wks.mono h e3
    simp only [Wks]
    exact ⟨v, r, e1, q1, q2⟩
end
theorem Wk.up (h : Same F F') {k : W} {v : V} (e : Wk F k v) : Wk F' k v := e.mono fun a xs q => h a _ q
theorem Wks.up (h : Same F F') {ks : List W} {vs : List V} (e : Wks F ks vs) : Wks F' ks vs := e.mono fun a xs q => h a _ q
theorem wk_tup {ks : List W} {v : V} : Wk F (.tup ks) v ↔ ∃ a vs, v = .ref a ∧ F a = some (.tup vs) ∧ Wks F ks vs ∧ ks.length < 1000000 := by simp [Wk]
theorem wk_num {i : Int} {v : V} : Wk F (.num i) v ↔ v = .int i := by simp [Wk]
theorem wk_text {s : Str} {v : V} : Wk F (.text s) v ↔ v = .str s := by simp [Wk]
theorem wks_nil {vs : List V} : Wks F [] vs ↔ vs = [] := by simp [Wks]
theorem wks_cons {k : W} {ks : List W} {vs : List V} : Wks F (k :: ks) vs ↔ ∃ v r, vs = v :: r ∧ Wk F k v ∧ Wks F ks r := by simp [Wks]
theorem Wks.len : ∀ {ks : List W} {vs : List V}, Wks F ks vs → vs.length = ks.length
  | [], vs, e => by rw [wks_nil.mp e]; rfl
  | k :: ks, vs, e => by
    obtain ⟨v, r, rfl, _, e3⟩ := wks_cons.mp e
    simp [Wks.len e3]
theorem Wks.get : ∀ {ks : List W} {vs : List V} {i : Nat} {v : V}, Wks F ks vs → vs[i]? = some v → ∃ k, ks[i]? = some k ∧ Wk F k v
  | [], vs, i, v, e, h => by rw [wks_nil.mp e] at h; simp at h
  | k :: ks, vs, i, v, e, h => by
    obtain ⟨v', r, rfl, e2, e3⟩ := wks_cons.mp e
    cases i with
    | zero => simp at h; subst h; exact ⟨k, rfl, e2⟩
    | succ i => simp at h; obtain ⟨k', q1, q2⟩ := Wks.get e3 h; exact ⟨k', by simpa using q1, q2⟩
theorem Wks.at : ∀ {ks : List W} {vs : List V} {i : Nat} {k : W}, Wks F ks vs → ks[i]? = some k → ∃ v, vs[i]? = some v ∧ Wk F k v
  | [], vs, i, k, e, h => by simp at h
  | k :: ks, vs, i, k', e, h => by
    obtain ⟨v', r, rfl, e2, e3⟩ := wks_cons.mp e
    cases i with
    | zero => simp at h; subst h; exact ⟨v', rfl, e2⟩
    | succ i => simp at h; obtain ⟨v, q1, q2⟩ := Wks.at e3 h; exact ⟨v, by simpa using q1, q2⟩
theorem Wks.app : ∀ {ks ls : List W} {vs us : List V}, Wks F ks vs → Wks F ls us → Wks F (ks ++ ls) (vs ++ us)
  | [], ls, vs, us, e, h => by rw [wks_nil.mp e]; exact h
  | k :: ks, ls, vs, us, e, h => by
    obtain ⟨v', r, rfl, e2, e3⟩ := wks_cons.mp e
    exact wks_cons.mpr ⟨v', r ++ us, rfl, e2, Wks.app e3 h⟩
theorem Wks.one {k : W} {v : V} (e : Wk F k v) : Wks F [k] [v] := wks_cons.mpr ⟨v, [], rfl, e, wks_nil.mpr rfl⟩
theorem Wks.nil : Wks F [] [] := wks_nil.mpr rfl
theorem Wks.cons {k : W} {ks : List W} {v : V} {vs : List V} (e : Wk F k v) (h : Wks F ks vs) : Wks F (k :: ks) (v :: vs) := wks_cons.mpr ⟨v, vs, rfl, e, h⟩
theorem Wks.take : ∀ {ks : List W} {vs : List V} (n : Nat), Wks F ks vs → Wks F (ks.take n) (vs.take n)
  | ks, vs, 0, _ => by simp; exact Wks.nil
  | [], vs, n + 1, e => by rw [wks_nil.mp e]; simp; exact Wks.nil
  | k :: ks, vs, n + 1, e => by
    obtain ⟨v', r, rfl, e2, e3⟩ := wks_cons.mp e
    simpa using Wks.cons e2 (Wks.take n e3)
theorem Wks.drop : ∀ {ks : List W} {vs : List V} (n : Nat), Wks F ks vs → Wks F (ks.drop n) (vs.drop n)
  | ks, vs, 0, e => by simpa using e
  | [], vs, n + 1, e => by rw [wks_nil.mp e]; simp; exact Wks.nil
  | k :: ks, vs, n + 1, e => by
    obtain ⟨v', r, rfl, e2, e3⟩ := wks_cons.mp e
    simpa using Wks.drop n e3
theorem Wks.of_get {ks : List W} : ∀ {vs : List V}, vs.length = ks.length → (∀ (i : Nat) k v, ks[i]? = some k → vs[i]? = some v → Wk F k v) → Wks F ks vs := by
  induction ks with
  | nil => intro vs h _; exact wks_nil.mpr (List.length_eq_zero_iff.mp h)
  | cons k ks ih =>
    intro vs h g
    cases vs with
    | nil => simp at h
    | cons v r => exact Wks.cons (g 0 k v rfl rfl) (ih (by simpa using h) fun i k' v' a b => g (i + 1) k' v' (by simpa using a) (by simpa using b))
end
/-- a tuple that is just laid is the word -/
theorem wk_new {F : Hp} {p : Addr} {ks : List W} {vs : List V} (hp : F p = none) (h : Wks F ks vs) (hl : ks.length < 1000000 := by first | decide | (show _ < _; simp)) : Wk (upd F p (.tup vs)) (.tup ks) (.ref p) :=
  wk_tup.mpr ⟨p, vs, rfl, upd_same, h.up (Same.upd hp), hl⟩
end Ly

namespace Ly
open PySem PySem.Spec PyProof.Rows L2
/-! ### rules by short names, their transformers named -/
abbrev RAdd : R2 := rI0 fun i j => .int (i + j)
abbrev RSub : R2 := rI0 fun i j => .int (i - j)
abbrev RMul : R2 := rI CMul fun i j => .int (i * j)
abbrev RMod : R2 := rI (fun _ j => j ≠ 0) fun i j => .int (i.fmod j)
abbrev RFdiv : R2 := rI CDivN fun i j => .int (i.fdiv j)
abbrev RPow : R2 := rI CPow fun i j => .int (i ^ j.toNat)
abbrev RLt : R2 := rI0 fun i j => .bl (decide (i < j))
abbrev RLe : R2 := rI0 fun i j => .bl (decide (i ≤ j))
abbrev RGt : R2 := rI0 fun i j => .bl (decide (j < i))
abbrev RGe : R2 := rI0 fun i j => .bl (decide (j ≤ i))
abbrev RNeg : V → Hp → VK → Prop := rU fun i => .int (-i)
abbrev RLen (K : PySem.W.Frag) : List V → Hp → VK → Prop := fun xs H Q => ∃ p ys, xs = [.ref p] ∧ (SqL K H p ys ∨ SqT K H p ys) ∧ Q (.int ys.length) H
abbrev RLenD : List V → Hp → VK → Prop := fun xs H Q => ∃ a kvs, xs = [V.ref a] ∧ H a = some (.dK kvs) ∧ Q (.int kvs.length) H
abbrev RList (K : PySem.W.Frag) : List V → Hp → VK → Prop := fun xs H Q => ∃ p ys, xs = [.ref p] ∧ (SqL K H p ys ∨ SqT K H p ys) ∧ ∀ l, H l = none → Q (.ref l) (upd H l (.lst ys))
abbrev RTuple (K : PySem.W.Frag) : List V → Hp → VK → Prop := fun xs H Q => ∃ p ys, xs = [.ref p] ∧ ((SqL K H p ys ∧ ∀ l, H l = none → Q (.ref l) (upd H l (.tup ys))) ∨ (SqT K H p ys ∧ Q (.ref p) H))
abbrev RInt : List V → Hp → VK → Prop := fun xs H Q => (∃ i, xs = [.int i] ∧ Q (.int i) H) ∨ ∃ k, xs = [.bl k] ∧ Q (.int (if k then 1 else 0)) H
theorem hu64 {A : Around} {k : Nat} (hr : Room k A) : A.units + 64 < cLine := hr.units
theorem hu65 {A : Around} {k : Nat} (hr : Room k A) : A.units + 65 < cLine := by have := hr.un; omega
/-! ### a def that stands at its name -/
section
variable (P : Program) (w : World) (K : PySem.W.Frag) (mg : Str → Option Value) (base : Heap)
def Ok (x : Str) (k : Nat) (ps : List Str) (sp : Sp) : Prop := ∃ fd, mg x = some (.ref (He.ga K x)) ∧ PySem.W.keepIn K (.ref (He.ga K x)) = true ∧ Binds K fd ps [] ∧ FnOk P w K mg base CX0 k (He.ga K x) fd ps sp
end
section
variable {P : Program} {w : World} {K : PySem.W.Frag} {mg : Str → Option Value} {base : Heap}
theorem Ok.imp {x : Str} {k : Nat} {ps : List Str} {sp sp' : Sp} (o : Ok P w K mg base x k ps sp) (h : ∀ vs H Q E, sp' vs H Q E → sp vs H Q E) : Ok P w K mg base x k ps sp' := by
  obtain ⟨fd, a, b, c, d⟩ := o
  exact ⟨fd, a, b, c, d.imp h⟩
theorem Ok.mono {x : Str} {j k : Nat} {ps : List Str} {sp : Sp} (o : Ok P w K mg base x j ps sp) (h : j ≤ k := by decide) : Ok P w K mg base x k ps sp := by
  obtain ⟨fd, a, b, c, d⟩ := o
  exact ⟨fd, a, b, c, d.mono h⟩
/-- a def's body, read -/
theorem ok_of {x : Str} {params : Arguments} {body : List Stmt} {scope : Scope} {N ps : List Str} {k : Nat} {sp : Sp} (hm : mg x = some (.ref (He.ga K x)))
    (F : ∃ fd, FunD K x x params body scope [] [] (He.ga K x) fd) (S : FnScope N ps scope)
    (hb : ∀ (kV doc pm : Value) (an : Option Addr) (cdv ct : Value) (us : List Value), us.length = ps.length → bindArgs (PySem.W.fnOf x x params body scope .none kV doc pm an cdv ct) ⟨us, []⟩ = pure (ps.zip us))
    (len : ∀ vs H Q E, sp vs H Q E → vs.length = ps.length)
    (hbody : ∀ (cdv : Value) (A : Around) (outer : List Env) (s : Shared) (H : Hp) (vs : List V) (Q : VK) (E : XK), Room k (A.deeper (envOfC x scope s.heap.objs.size (He.ga K x) cdv)) → sp vs H Q E →
      ∃ t, PSs (cxOf CX0 P w K mg base N x scope (He.ga K x) cdv A outer s H E).nox body t ∧ t { nx := fun _ H' => Q .non H', rt := Q } (start N vs) H) : Ok P w K mg base x (k + 1) ps sp := by
  obtain ⟨fd, F⟩ := F
  refine ⟨fd, hm, F.kp, F.bindsN hb, F.ok S len fun cdv A outer s H vs Q E hr h => ?_⟩
  obtain ⟨t, h1, h2⟩ := hbody cdv A outer s H vs Q E hr h
  exact ⟨t, h1.nox, h2⟩
end
section
variable {X : Cx}
theorem pe_ok {x : Str} {k j : Nat} {ps : List Str} {sp : Sp} {e : Expr} {es : List Expr} {t : TA} {p pos : Pos} (o : Ok X.prog X.w X.K X.mg X.base x k ps sp) (hr : Room j X.A) (ha : PA X (e :: es) t) (hk : k ≤ j := by first | decide | omega) (hg : Gl X x := by rfl)
    (hdb : (x == ("__debug__" : Str)) = false := by decide) (he : starEach (e :: es) X.env = (false, eval e X.env) :: starEach es X.env := by rfl) (hpl : (backTo pos (starEach es X.env)).any (·.1) = false := by rfl) :
    PE X (.Call (.Name x p) (e :: es) [] pos) (tCall sp [] E0 t) := by
  obtain ⟨fd, a, b, c, d⟩ := o
  exact pe_call d (hr.mono hk) hg a b c .nil pass0 ha hdb he hpl
theorem pe_globR {x : Str} {a : Addr} {pos : Pos} (hm : X.mg x = some (.ref a)) (hg : Gl X x := by rfl) (hd : (x == ("__debug__" : Str)) = false := by decide) : PE X (.Name x pos) (tC (.ref a)) := pe_glob hg hm rfl hd
end
/-! ### readings that compute -/
theorem rd_var {i : Nat} {σ : L2.St} {H : Hp} {Q : VK} {v : V} (h : σ[i]? = some (some v)) (q : Q v H) : tVar i σ H Q := ⟨v, h, q⟩
end Ly
namespace Ly
open PySem PySem.Spec PyProof.Rows L2
/-! ### the head's facts, and one truth value more about the written part -/
abbrev AlX : Type := He.AlD × Bool
def obsXG (n : Nat) (fa : List He.Fa) (fn : List He.DefD) (ex : PySem.W.Frag → Bool) (g : Addr → Option Obj) : AlX := (He.obsD fa fn (He.frG g (He.asD g n)), ex (He.frG g (He.asD g n)))
def hookX (n : Nat) (fa : List He.Fa) (fn : List He.DefD) (ex : PySem.W.Frag → Bool) : PySem.W.Hook where
  α := AlX
  obs := fun s => obsXG n fa fn ex s.heap.get?
  val := fun _ => (He.valD fn, true)
  says := fun _ h => ∃ K : PySem.W.Frag, K.In h ∧ He.SaysD fa fn K ∧ ex K = true
  of := fun _ _ e => ⟨_, He.frG_in, congrArg (fun z : AlX => z.1) e, congrArg (fun z : AlX => z.2) e⟩
  keeps := fun _ _ _ ⟨K, a, b, c⟩ k => ⟨K, PySem.W.Frag.In.keeps a k, b, c⟩
theorem obsXG_eq {n : Nat} {fa : List He.Fa} {fn : List He.DefD} {ex : PySem.W.Frag → Bool} {g : Addr → Option Obj} {s : Shared} (h : ∀ a, g a = s.heap.get? a) : obsXG n fa fn ex g = (hookX n fa fn ex).obs s := by
  have e : g = s.heap.get? := funext h
  rw [e] <;> rfl
end Ly
namespace Ly
open PySem PySem.Spec PyProof.Rows L2
theorem sIx {d : Int} {n : Nat} (h0 : 0 ≤ d) (h1 : d < n) : seqIndex? d n = some d.toNat := by
  have e : ¬ d < 0 := by omega
  simp only [seqIndex?, if_neg e]
  simp [h0, h1]
theorem perm_erase {α : Type} : ∀ (l : List α) (i : Nat) (h : i < l.length), (l[i] :: l.eraseIdx i).Perm l
  | a :: l, 0, _ => by simp
  | a :: l, i + 1, h => by
    have hi : i < l.length := by simpa using h
    have ih := perm_erase l i hi
    show (l[i] :: a :: l.eraseIdx i).Perm (a :: l)
    exact (List.Perm.swap _ _ _).trans (ih.cons a)
theorem at_toNat {xs : List V} {d : Int} (h0 : 0 ≤ d) (h : d.toNat < xs.length) : atI xs d = some xs[d.toNat] := at_of (j := d.toNat) (by omega) (by simp [h])
end Ly

namespace Ly
open PySem PySem.Spec PyProof.Rows L2
/-! ### a walk over a list or a tuple that a name holds -/
def iSeqV (K : PySem.W.Frag) (i : Nat) : TI := fun σ H R => ∃ a, σ[i]? = some (some (.ref a)) ∧ (((∃ xs, SqL K H a xs) ∧ R (Itl K a) H) ∨ ((∃ xs, SqT K H a xs) ∧ R (Itt K a) H))
theorem pi_seqV {X : Cx} {tg l : Expr} {i : Nat} (hl : PE X l (tVar i)) : PI X tg l (iSeqV X.K i) := by
  refine ⟨fun pins s σ H R I h => ?_⟩
  obtain ⟨a, ha, h | h⟩ := h
  · exact (pi_list hl).run pins s σ H R I ⟨.ref a, ha, a, rfl, h.1, h.2⟩
  · exact (pi_tup hl).run pins s σ H R I ⟨.ref a, ha, a, rfl, h.1, h.2⟩
/-- what a comprehension's list is made by: P of the items so far, J of what may be written -/
theorem lc_gen {Jt : It} {n : Nat} {G : Hp → Prop} {xs : List V} (w : Walk Jt n G (YAt xs)) {g : TG} {tt : TT} {te : TE} {vs : List Nat} {σ : L2.St} {F H : Hp} {Q : VK} (M : List Addr) (hF : Same F H) (hM : ∀ p ∈ M, H p ≠ none) (hn : n < sizeLine)
    (P : Nat → List V → Hp → Prop) (J : Nat → Hp → Hp → Prop) (hP : ∀ k acc F F', Same F F' → P k acc F → P k acc F')
    (hJ : ∀ N k F1 H1 F2 H2, (∀ p ∈ N, H p = none) → Ex N F1 H1 F2 H2 → J k F1 H1 → J k F2 H2) (h0 : P 0 [] F) (hJ0 : J 0 F H) (hG : ∀ F' H', Same F F' → Same F' H' → G H')
    (hs : ∀ k x acc F' H' (Kk : VK) (Nk : Hp → Prop), k < n → xs[k]? = some x → Ex M F H F' H' → P k acc F' → J k F' H' → acc.length ≤ k →
      (∀ y F4 H4, Ex M F' H' F4 H4 → P (k + 1) (acc ++ [y]) F4 → J (k + 1) F4 H4 → Kk y H4) → (∀ F4 H4, Ex M F' H' F4 H4 → P (k + 1) acc F4 → J (k + 1) F4 H4 → Nk H4) →
      g x (wipe σ vs) H' fun σ2 H2 => wipe σ2 vs = wipe σ vs ∧ tt σ2 H2 fun b H3 => if b = true then te σ2 H3 Kk else Nk H3)
    (hd : ∀ D acc F' H', Ex M F H F' H' → H D = none → F' D = none → H' D = some (.lst acc) → P n acc F' → J n F' H' → acc.length ≤ n → Q (.ref D) H') :
    ∀ D, H D = none → ∃ W : Nat → Nat → Hp → Prop, (∃ m, W 0 m (upd H D (.lst []))) ∧ ∀ i m H, W i m H →
      (Jt.stop i H ∧ Q (.ref D) H) ∨ (Jt.go i H ∧ ∃ Nx : Hp → Prop, (∀ H', Nx H' → ∃ m', m' < m ∧ W (i + 1) m' H') ∧ ∀ x H', Jt.yld i H x H' → g x (wipe σ vs) H' fun σ2 H2 => wipe σ2 vs = wipe σ vs ∧ tt σ2 H2 fun b H3 =>
        if b = true then te σ2 H3 fun y H4 => ∃ acc, H4 D = some (.lst acc) ∧ acc.length < sizeLine ∧ Nx (upd H4 D (.lst (acc ++ [y]))) else Nx H3) := by
  intro D hD
  have hDM : D ∉ M := fun z => hM D z hD
  have fD : F D = none := Same.free hF hD
  have e0 : Ex M F H F (upd H D (.lst [])) := Ex.new hF hD
  refine lc_it w (fun i H' => ∃ acc F', Ex M F H F' H' ∧ F' D = none ∧ H' D = some (.lst acc) ∧ P i acc F' ∧ J i F' H' ∧ acc.length ≤ i) ⟨[], F, e0, fD, upd_same, h0, hJ [] 0 F H _ _ (by simp) (Ex.new hF hD) hJ0, Nat.le_refl _⟩ (fun i H' _ ⟨acc, F', e, _⟩ => hG F' H' e.ff e.fh) ?_ ?_
  · rintro i x H1 H2 hi ⟨acc, F1, e1, f1, d1, p1, j1, l1⟩ ⟨rfl, hx⟩
    refine hs i x acc F1 H2 _ _ hi hx e1 p1 j1 l1 (fun y F4 H4 e4 p4 j4 => ?_) (fun F4 H4 e4 p4 j4 => ?_)
    · have d4 : H4 D = some (.lst acc) := e4.at d1 hDM
      have f4 : F4 D = none := e4.nf f1 (ne_none d1)
      have e5 : Ex M F H F4 (upd H4 D (.lst (acc ++ [y]))) := (e1.trans e4).wr hD f4
      refine ⟨acc, d4, by omega, acc ++ [y], F4, e5, f4, upd_same, p4, ?_, by simp; omega⟩
      exact hJ [D] (i + 1) F4 H4 _ _ (by simp [hD]) (Ex.put e4.fh f4 (by simp)) j4
    · exact ⟨acc, F4, e1.trans e4, e4.nf f1 (ne_none d1), e4.at d1 hDM, p4, j4, by omega⟩
  · rintro H1 ⟨acc, F1, e1, f1, d1, p1, j1, l1⟩
    exact hd D acc F1 H1 e1 hD f1 d1 p1 j1 l1
theorem walk_listF {K : PySem.W.Frag} {a : Addr} {xs : List V} : Walk (Itl K a) xs.length (fun H => H a = some (.lst xs)) (YAt xs) := walk_list.mono (fun _ h => SqL.of h) fun _ _ _ _ _ _ h => h
theorem walk_tupF {K : PySem.W.Frag} {a : Addr} {xs : List V} : Walk (Itt K a) xs.length (fun H => H a = some (.tup xs)) (YAt xs) := walk_tup.mono (fun _ h => SqT.of h) fun _ _ _ _ _ _ h => h
def rgL (lo : Int) (n : Nat) : List V := (List.range n).map fun i => .int (lo + (i : Nat))
theorem rgL_get {lo : Int} {n i : Nat} {x : V} (h : (rgL lo n)[i]? = some x) : i < n ∧ x = .int (lo + (i : Nat)) := by
  unfold rgL at h
  rw [List.getElem?_map] at h
  by_cases hi : i < n
  · simp [hi] at h; exact ⟨hi, h.symm⟩
  · simp [hi] at h
theorem walk_rg {lo : Int} {n : Nat} : Walk (Itr lo n) n (fun _ => True) (YAt (rgL lo n)) := walk_range.mono (fun _ h => h) fun i H x H' hi _ h => ⟨h.1, by
  unfold rgL
  rw [List.getElem?_map]
  simp [hi, h.2]⟩
/-- over a list that stands frozen -/
theorem lcg_list {K : PySem.W.Frag} {tl : TE} {a : Addr} {xs : List V} {g : TG} {tt : TT} {te : TE} {vs : List Nat} {σ : L2.St} {F H : Hp} {Q : VK} (M : List Addr) (hl : ∀ R : VK, R (.ref a) H → tl σ H R) (hx : F a = some (.lst xs)) (hF : Same F H) (hM : ∀ p ∈ M, H p ≠ none) (hn : xs.length < sizeLine)
    (P : Nat → List V → Hp → Prop) (J : Nat → Hp → Hp → Prop) (hP : ∀ k acc F F', Same F F' → P k acc F → P k acc F')
    (hJ : ∀ N k F1 H1 F2 H2, (∀ p ∈ N, H p = none) → Ex N F1 H1 F2 H2 → J k F1 H1 → J k F2 H2) (h0 : P 0 [] F) (hJ0 : J 0 F H)
    (hs : ∀ k x acc F' H' (Kk : VK) (Nk : Hp → Prop), k < xs.length → xs[k]? = some x → Ex M F H F' H' → P k acc F' → J k F' H' → acc.length ≤ k →
      (∀ y F4 H4, Ex M F' H' F4 H4 → P (k + 1) (acc ++ [y]) F4 → J (k + 1) F4 H4 → Kk y H4) → (∀ F4 H4, Ex M F' H' F4 H4 → P (k + 1) acc F4 → J (k + 1) F4 H4 → Nk H4) →
      g x (wipe σ vs) H' fun σ2 H2 => wipe σ2 vs = wipe σ vs ∧ tt σ2 H2 fun b H3 => if b = true then te σ2 H3 Kk else Nk H3)
    (hd : ∀ D acc F' H', Ex M F H F' H' → H D = none → F' D = none → H' D = some (.lst acc) → P xs.length acc F' → J xs.length F' H' → acc.length ≤ xs.length → Q (.ref D) H') :
    tLc (iList K tl) g tt te vs σ H Q :=
  hl _ ⟨a, rfl, ⟨xs, SqL.of (hF _ _ hx)⟩, lc_gen walk_listF M hF hM hn P J hP hJ h0 hJ0 (fun F' H' h1 h2 => h2 _ _ (h1 _ _ hx)) hs hd⟩
/-- over a list or tuple that a name holds -/
theorem lcg_seqV {K : PySem.W.Frag} {i : Nat} {a : Addr} {xs : List V} {g : TG} {tt : TT} {te : TE} {vs : List Nat} {σ : L2.St} {F H : Hp} {Q : VK} (M : List Addr) (hl : σ[i]? = some (some (.ref a))) (hx : F a = some (.lst xs) ∨ F a = some (.tup xs)) (hF : Same F H) (hM : ∀ p ∈ M, H p ≠ none) (hn : xs.length < sizeLine)
    (P : Nat → List V → Hp → Prop) (J : Nat → Hp → Hp → Prop) (hP : ∀ k acc F F', Same F F' → P k acc F → P k acc F')
    (hJ : ∀ N k F1 H1 F2 H2, (∀ p ∈ N, H p = none) → Ex N F1 H1 F2 H2 → J k F1 H1 → J k F2 H2) (h0 : P 0 [] F) (hJ0 : J 0 F H)
    (hs : ∀ k x acc F' H' (Kk : VK) (Nk : Hp → Prop), k < xs.length → xs[k]? = some x → Ex M F H F' H' → P k acc F' → J k F' H' → acc.length ≤ k →
      (∀ y F4 H4, Ex M F' H' F4 H4 → P (k + 1) (acc ++ [y]) F4 → J (k + 1) F4 H4 → Kk y H4) → (∀ F4 H4, Ex M F' H' F4 H4 → P (k + 1) acc F4 → J (k + 1) F4 H4 → Nk H4) →
      g x (wipe σ vs) H' fun σ2 H2 => wipe σ2 vs = wipe σ vs ∧ tt σ2 H2 fun b H3 => if b = true then te σ2 H3 Kk else Nk H3)
    (hd : ∀ D acc F' H', Ex M F H F' H' → H D = none → F' D = none → H' D = some (.lst acc) → P xs.length acc F' → J xs.length F' H' → acc.length ≤ xs.length → Q (.ref D) H') :
    tLc (iSeqV K i) g tt te vs σ H Q := by
  rcases hx with hx | hx
  · exact ⟨a, hl, .inl ⟨⟨xs, SqL.of (hF _ _ hx)⟩, lc_gen walk_listF M hF hM hn P J hP hJ h0 hJ0 (fun F' H' h1 h2 => h2 _ _ (h1 _ _ hx)) hs hd⟩⟩
  · exact ⟨a, hl, .inr ⟨⟨xs, SqT.of (hF _ _ hx)⟩, lc_gen walk_tupF M hF hM hn P J hP hJ h0 hJ0 (fun F' H' h1 h2 => h2 _ _ (h1 _ _ hx)) hs hd⟩⟩
/-- over a tuple -/
theorem lcg_tup {K : PySem.W.Frag} {tl : TE} {a : Addr} {xs : List V} {g : TG} {tt : TT} {te : TE} {vs : List Nat} {σ : L2.St} {F H : Hp} {Q : VK} (M : List Addr) (hl : ∀ R : VK, R (.ref a) H → tl σ H R) (hx : F a = some (.tup xs)) (hF : Same F H) (hM : ∀ p ∈ M, H p ≠ none) (hn : xs.length < sizeLine)
    (P : Nat → List V → Hp → Prop) (J : Nat → Hp → Hp → Prop) (hP : ∀ k acc F F', Same F F' → P k acc F → P k acc F')
    (hJ : ∀ N k F1 H1 F2 H2, (∀ p ∈ N, H p = none) → Ex N F1 H1 F2 H2 → J k F1 H1 → J k F2 H2) (h0 : P 0 [] F) (hJ0 : J 0 F H)
    (hs : ∀ k x acc F' H' (Kk : VK) (Nk : Hp → Prop), k < xs.length → xs[k]? = some x → Ex M F H F' H' → P k acc F' → J k F' H' → acc.length ≤ k →
      (∀ y F4 H4, Ex M F' H' F4 H4 → P (k + 1) (acc ++ [y]) F4 → J (k + 1) F4 H4 → Kk y H4) → (∀ F4 H4, Ex M F' H' F4 H4 → P (k + 1) acc F4 → J (k + 1) F4 H4 → Nk H4) →
      g x (wipe σ vs) H' fun σ2 H2 => wipe σ2 vs = wipe σ vs ∧ tt σ2 H2 fun b H3 => if b = true then te σ2 H3 Kk else Nk H3)
    (hd : ∀ D acc F' H', Ex M F H F' H' → H D = none → F' D = none → H' D = some (.lst acc) → P xs.length acc F' → J xs.length F' H' → acc.length ≤ xs.length → Q (.ref D) H') :
    tLc (iTup K tl) g tt te vs σ H Q :=
  hl _ ⟨a, rfl, ⟨xs, SqT.of (hF _ _ hx)⟩, lc_gen walk_tupF M hF hM hn P J hP hJ h0 hJ0 (fun F' H' h1 h2 => h2 _ _ (h1 _ _ hx)) hs hd⟩
/-- over range(n) -/
theorem lcg_rng {ta : TA} {n : Nat} {g : TG} {tt : TT} {te : TE} {vs : List Nat} {σ : L2.St} {F H : Hp} {Q : VK} (M : List Addr) (hl : ∀ R : List V → Hp → Prop, R [.int n] H → ta σ H R) (hF : Same F H) (hM : ∀ p ∈ M, H p ≠ none) (hn : n < sizeLine)
    (P : Nat → List V → Hp → Prop) (J : Nat → Hp → Hp → Prop) (hP : ∀ k acc F F', Same F F' → P k acc F → P k acc F')
    (hJ : ∀ N k F1 H1 F2 H2, (∀ p ∈ N, H p = none) → Ex N F1 H1 F2 H2 → J k F1 H1 → J k F2 H2) (h0 : P 0 [] F) (hJ0 : J 0 F H)
    (hs : ∀ k acc F' H' (Kk : VK) (Nk : Hp → Prop), k < n → Ex M F H F' H' → P k acc F' → J k F' H' → acc.length ≤ k →
      (∀ y F4 H4, Ex M F' H' F4 H4 → P (k + 1) (acc ++ [y]) F4 → J (k + 1) F4 H4 → Kk y H4) → (∀ F4 H4, Ex M F' H' F4 H4 → P (k + 1) acc F4 → J (k + 1) F4 H4 → Nk H4) →
      g (.int (k : Nat)) (wipe σ vs) H' fun σ2 H2 => wipe σ2 vs = wipe σ vs ∧ tt σ2 H2 fun b H3 => if b = true then te σ2 H3 Kk else Nk H3)
    (hd : ∀ D acc F' H', Ex M F H F' H' → H D = none → F' D = none → H' D = some (.lst acc) → P n acc F' → J n F' H' → acc.length ≤ n → Q (.ref D) H') :
    tLc (iRng1 ta) g tt te vs σ H Q := by
  have hz := sizeLine_eq
  refine hl _ ⟨_, rfl, by omega, by omega, ?_⟩
  show ∀ D, H D = none → _
  have e : ((n : Int).toNat) = n := by omega
  rw [e]
  refine lc_gen walk_rg M hF hM hn P J hP hJ h0 hJ0 (fun _ _ _ _ => trivial) (fun k x acc F' H' Kk Nk hk hx e p j l k1 k2 => ?_) hd
  obtain ⟨_, rfl⟩ := rgL_get hx
  have := hs k acc F' H' Kk Nk hk e p j l k1 k2
  simpa using this
end Ly
namespace Ly
open PySem PySem.Spec PyProof.Rows L2
section
variable {D : Ends} {σ : L2.St} {H : Hp} {Q : VK} {te ta tb : TE} {t u : TS} {g : TG} {K : PySem.W.Frag}
theorem r_ret (h : te σ H D.rt) : tRet te D σ H := h
theorem r_seq (h : t { D with nx := u D } σ H) : tSeq t u D σ H := h
theorem r_next (h : D.nx σ H) : tNext D σ H := h
theorem r_asg (h : te σ H fun x H1 => g x σ H1 D.nx) : tAsg te g D σ H := h
theorem r_drop (h : te σ H fun _ H1 => D.nx σ H1) : tDrop te D σ H := h
theorem r_cb {r : List V → Hp → VK → Prop} {ts : TA} (h : ts σ H fun vs H1 => r vs H1 Q) : tCB r ts σ H Q := h
theorem r_call {sp : Sp} {dvs : List V} {E : XK} {ts : TA} (h : ts σ H fun vs H1 => sp (vs ++ dvs) H1 Q E) : tCall sp dvs E ts σ H Q := h
theorem r_cons {ts : TA} {R : List V → Hp → Prop} (h : ta σ H fun x H1 => ts σ H1 fun xs H2 => R (x :: xs) H2) : tCons ta ts σ H R := h
theorem r_nil {R : List V → Hp → Prop} (h : R [] H) : tNil σ H R := h
theorem r_op {r : R2} (h : ta σ H fun x H1 => tb σ H1 fun y H2 => r x y H2 Q) : tOp r ta tb σ H Q := h
theorem r_fld {f : Str} (h : ta σ H fun x H1 => ∃ a C dx fs v, x = .ref a ∧ H1 a = some (.ins C dx fs) ∧ Cls K C ∧ NoAttr K C f ∧ fs.lookup f = some v ∧ Q v H1) : tFld K ta f σ H Q := h
theorem r_if {c : TT} (h : c σ H fun b H1 => if b = true then ta σ H1 Q else tb σ H1 Q) : tIf c ta tb σ H Q := h
theorem r_ifS {c : TT} (h : c σ H fun b H1 => if b = true then t D σ H1 else u D σ H1) : tIfS c t u D σ H := h
theorem r_lst {ts : TA} (h : ts σ H fun xs H1 => xs.length ≤ sizeLine ∧ ∀ p, H1 p = none → Q (.ref p) (upd H1 p (.lst xs))) : tLst ts σ H Q := h
theorem r_tup {ts : TA} (h : ts σ H fun xs H1 => xs.length ≤ sizeLine ∧ ∀ p, H1 p = none → Q (.ref p) (upd H1 p (.tup xs))) : tTup ts σ H Q := h
theorem r_tst {R : Bool → Hp → Prop} (h : te σ H fun x H' => ∃ k, x = .bl k ∧ R k H') : tTest te σ H R := h
theorem r_b {R : Bool → Hp → Prop} (h : te σ H fun x H' => ∃ k, x = .bl k ∧ R k H') : tB te σ H R := h
theorem r_var {i : Nat} {v : V} (h : σ[i]? = some (some v)) (q : Q v H) : tVar i σ H Q := ⟨v, h, q⟩
theorem r_c {v : V} (q : Q v H) : tC v σ H Q := q
theorem r_for {wi : TI} (h : wi σ H fun J H1 => ∃ W : Nat → Nat → L2.St → Hp → Prop, (∃ m, W 0 m σ H1) ∧ ∀ i m σ H, W i m σ H →
  (J.stop i H ∧ D.nx σ H) ∨ (J.go i H ∧ ∃ N : L2.St → Hp → Prop, (∀ σ' H', N σ' H' → ∃ m', m' < m ∧ W (i + 1) m' σ' H') ∧ ∀ x H', J.yld i H x H' → g x σ H' fun σ2 H2 => t { D with nx := N, ct := N, bk := D.nx } σ2 H2)) : tFor wi g t D σ H := h
theorem r_bm {T : String} {r : V → List V → Hp → VK → Prop} {ts : TA} (h : ta σ H fun x H1 => tyV K T x H1 ∧ ts σ H1 fun xs H2 => r x xs H2 Q) : tBM K T r ta ts σ H Q := h
theorem r_and (h : ta σ H fun x H1 => ∃ c, x = .bl c ∧ if c = true then tb σ H1 Q else Q (.bl false) H1) : tAndV ta tb σ H Q := h
theorem r_or (h : ta σ H fun x H1 => ∃ c, x = .bl c ∧ if c = true then Q (.bl true) H1 else tb σ H1 Q) : tOrV ta tb σ H Q := h
theorem r_not (h : ta σ H fun x H1 => ∃ c, x = .bl c ∧ Q (.bl (!c)) H1) : tNotV ta σ H Q := h
theorem r_par {i j : Nat} {ts : TA} (h : ts σ H fun vs H1 => ∃ v w, vs = [v, w] ∧ D.nx ((σ.set i (some v)).set j (some w)) H1) : tPar i j ts D σ H := h
theorem r_name {i : Nat} {v : V} {R : L2.St → Hp → Prop} (h : R (σ.set i (some v)) H) : gName i v σ H R := h
end
end Ly

namespace Ly
open PySem PySem.Spec PyProof.Rows L2
/-! ### data of any kind, frozen -/
mutual
def Dd (F : Hp) : PyData → V → Prop
  | .none, v => v = .non
  | .bool b, v => v = .bl b
  | .int i, v => v = .int i
  | .str s, v => v = .str s
  | .list ds, v => ∃ a vs, v = .ref a ∧ F a = some (.lst vs) ∧ Dds F ds vs ∧ ds.length < 1000000
  | .tuple ds, v => ∃ a vs, v = .ref a ∧ F a = some (.tup vs) ∧ Dds F ds vs ∧ ds.length < 1000000
  | .dict _, v => ∃ a es, v = .ref a ∧ F a = some (.dK es)
def Dds (F : Hp) : List PyData → List V → Prop
  | [], vs => vs = []
  | d :: ds, vs => ∃ v r, vs = v :: r ∧ Dd F d v ∧ Dds F ds r
end
mutual
def wordy : PyData → Bool
  | .none => false
  | .bool _ => false
  | .int _ => true
  | .str _ => true
  | .list ds => wordys ds
  | .tuple ds => wordys ds
  | .dict _ => false
def wordys : List PyData → Bool
  | [] => true
  | d :: ds => wordy d && wordys ds
end
mutual
def toW : PyData → W
  | .none => .none
  | .bool b => .num (if b then 1 else 0)
  | .int i => .num i
  | .str s => .text s
  | .list ds => .tup (toWs ds)
  | .tuple ds => .tup (toWs ds)
  | .dict _ => .none
def toWs : List PyData → List W
  | [] => []
  | d :: ds => toW d :: toWs ds
end
def seqy : PyData → Bool
  | .list _ => true
  | .tuple _ => true
  | _ => false
def inty : PyData → Bool
  | .int _ => true
  | _ => false
def stry : PyData → Bool
  | .str _ => true
  | _ => false
def tyN : PyData → String
  | .none => "NoneType"
  | .bool _ => "bool"
  | .int _ => "int"
  | .str _ => "str"
  | .list _ => "list"
  | .tuple _ => "tuple"
  | .dict _ => "dict"
section
variable {F F' H : Hp} {K : PySem.W.Frag}
theorem dd_list {ds : List PyData} {v : V} : Dd F (.list ds) v ↔ ∃ a vs, v = .ref a ∧ F a = some (.lst vs) ∧ Dds F ds vs ∧ ds.length < 1000000 := by simp [Dd]
theorem dd_tuple {ds : List PyData} {v : V} : Dd F (.tuple ds) v ↔ ∃ a vs, v = .ref a ∧ F a = some (.tup vs) ∧ Dds F ds vs ∧ ds.length < 1000000 := by simp [Dd]
theorem dd_dict {kvs : List (PyData × PyData)} {v : V} : Dd F (.dict kvs) v ↔ ∃ a es, v = .ref a ∧ F a = some (.dK es) := by simp [Dd]
theorem dd_int {i : Int} {v : V} : Dd F (.int i) v ↔ v = .int i := by simp [Dd]
theorem dd_str {s : Str} {v : V} : Dd F (.str s) v ↔ v = .str s := by simp [Dd]
theorem dd_bool {b : Bool} {v : V} : Dd F (.bool b) v ↔ v = .bl b := by simp [Dd]
theorem dd_none {v : V} : Dd F .none v ↔ v = .non := by simp [Dd]
theorem dds_nil {vs : List V} : Dds F [] vs ↔ vs = [] := by simp [Dds]
theorem dds_cons {d : PyData} {ds : List PyData} {vs : List V} : Dds F (d :: ds) vs ↔ ∃ v r, vs = v :: r ∧ Dd F d v ∧ Dds F ds r := by simp [Dds]
mutual
theorem Dd.up (h : Same F F') : ∀ {d : PyData} {v : V}, Dd F d v → Dd F' d v
  | .none, _, e => by simpa [Dd] using e
  | .bool _, _, e => by simpa [Dd] using e
  | .int _, _, e => by simpa [Dd] using e
  | .str _, _, e => by simpa [Dd] using e
  | .list ds, v, e => by
    obtain ⟨a, vs, e1, e2, e3, e4⟩ := dd_list.mp e
    exact dd_list.mpr ⟨a, vs, e1, h _ _ e2, Dds.up h e3, e4⟩
  | .tuple ds, v, e => by
    obtain ⟨a, vs, e1, e2, e3, e4⟩ := dd_tuple.mp e
    exact dd_tuple.mpr ⟨a, vs, e1, h _ _ e2, Dds.up h e3, e4⟩
  | .dict _, v, e => by
    obtain ⟨a, es, e1, e2⟩ := dd_dict.mp e
    exact dd_dict.mpr ⟨a, es, e1, h _ _ e2⟩
theorem Dds.up (h : Same F F') : ∀ {ds : List PyData} {vs : List V}, Dds F ds vs → Dds F' ds vs
  | [], _, e => dds_nil.mpr (dds_nil.mp e)
  | d :: ds, vs, e => by
    obtain ⟨v, r, e1, e2, e3⟩ := dds_cons.mp e
    exact dds_cons.mpr ⟨v, r, e1, Dd.up h e2, Dds.up h e3⟩
end
theorem Dds.len : ∀ {ds : List PyData} {vs : List V}, Dds F ds vs → vs.length = ds.length
  | [], vs, e => by rw [dds_nil.mp e]; rfl
  | k :: ks, vs, e => by
    obtain ⟨v, r, rfl, _, e3⟩ := dds_cons.mp e
    simp [Dds.len e3]
theorem Dds.get : ∀ {ds : List PyData} {vs : List V} {i : Nat} {v : V}, Dds F ds vs → vs[i]? = some v → ∃ d, ds[i]? = some d ∧ Dd F d v
  | [], vs, i, v, e, h => by rw [dds_nil.mp e] at h; simp at h
  | k :: ks, vs, i, v, e, h => by
    obtain ⟨v', r, rfl, e2, e3⟩ := dds_cons.mp e
    cases i with
    | zero => simp at h; subst h; exact ⟨k, rfl, e2⟩
    | succ i => simp at h; obtain ⟨k', q1, q2⟩ := Dds.get e3 h; exact ⟨k', by simpa using q1, q2⟩
theorem dd_tyx {d : PyData} {v : V} (e : Dd F d v) (h : Same F H) : TyX K H v (.type (tyN d)) := by
  cases d with
  | none => rw [dd_none.mp e]; exact .base .non
  | bool b => rw [dd_bool.mp e]; exact .base (.bl b)
  | int i => rw [dd_int.mp e]; exact .base (.int i)
  | str s => rw [dd_str.mp e]; exact .base (.str s)
  | list ds => obtain ⟨a, vs, rfl, e2, _⟩ := dd_list.mp e; exact .base (.lst (h _ _ e2))
  | tuple ds => obtain ⟨a, vs, rfl, e2, _⟩ := dd_tuple.mp e; exact .base (.tup (h _ _ e2))
  | dict kvs => obtain ⟨a, es, rfl, e2⟩ := dd_dict.mp e; exact .base (.dK (h _ _ e2))
theorem kit_seq (d : PyData) : PySem.W.kitAny K (.type (tyN d)) [.type "list", .type "tuple"] = some (seqy d) := by
  have h : ∀ (a b : String) (r : Bool), kitB a b = some r → PySem.W.kitOne K (.type a) (.type b) = some r := fun a b r h => kit_ty h
  have g : ∀ (a : String) (r1 r2 : Bool), kitB a "list" = some r1 → kitB a "tuple" = some r2 → PySem.W.kitAny K (.type a) [.type "list", .type "tuple"] = some (r1 || r2) := fun a r1 r2 h1 h2 => by
    refine kitAny_cons (kit_ty h1) (fun e => ?_) fun e => by rw [e]; rfl
    refine kitAny_cons (kit_ty h2) (fun e2 => ?_) fun e2 => by rw [e2]; simp
    rw [e, e2]; rfl
  cases d with
  | none => exact g "NoneType" false false (by decide +kernel) (by decide +kernel)
  | bool b => exact g "bool" false false (by decide +kernel) (by decide +kernel)
  | int i => exact g "int" false false (by decide +kernel) (by decide +kernel)
  | str s => exact g "str" false false (by decide +kernel) (by decide +kernel)
  | list ds => exact g "list" true false (by decide +kernel) (by decide +kernel)
  | tuple ds => exact g "tuple" false true (by decide +kernel) (by decide +kernel)
  | dict kvs => exact g "dict" false false (by decide +kernel) (by decide +kernel)
def intb : PyData → Bool
  | .int _ => true
  | .bool _ => true
  | _ => false
def boolb : PyData → Bool
  | .bool _ => true
  | _ => false
def tupb : PyData → Bool
  | .tuple _ => true
  | _ => false
def lstb : PyData → Bool
  | .list _ => true
  | _ => false
def dctb : PyData → Bool
  | .dict _ => true
  | _ => false
theorem kit_int (d : PyData) : PySem.W.kitOne K (.type (tyN d)) (.type "int") = some (intb d) := by
  cases d with
  | none => exact kit_ty (a := "NoneType") (b := "int") (r := false) (by decide +kernel)
  | bool b => exact kit_ty (a := "bool") (b := "int") (r := true) (by decide +kernel)
  | int i => exact kit_ty (a := "int") (b := "int") (r := true) (by decide +kernel)
  | str s => exact kit_ty (a := "str") (b := "int") (r := false) (by decide +kernel)
  | list ds => exact kit_ty (a := "list") (b := "int") (r := false) (by decide +kernel)
  | tuple ds => exact kit_ty (a := "tuple") (b := "int") (r := false) (by decide +kernel)
  | dict kvs => exact kit_ty (a := "dict") (b := "int") (r := false) (by decide +kernel)
theorem kit_bool (d : PyData) : PySem.W.kitOne K (.type (tyN d)) (.type "bool") = some (boolb d) := by
  cases d with
  | none => exact kit_ty (a := "NoneType") (b := "bool") (r := false) (by decide +kernel)
  | bool b => exact kit_ty (a := "bool") (b := "bool") (r := true) (by decide +kernel)
  | int i => exact kit_ty (a := "int") (b := "bool") (r := false) (by decide +kernel)
  | str s => exact kit_ty (a := "str") (b := "bool") (r := false) (by decide +kernel)
  | list ds => exact kit_ty (a := "list") (b := "bool") (r := false) (by decide +kernel)
  | tuple ds => exact kit_ty (a := "tuple") (b := "bool") (r := false) (by decide +kernel)
  | dict kvs => exact kit_ty (a := "dict") (b := "bool") (r := false) (by decide +kernel)
theorem kit_str (d : PyData) : PySem.W.kitOne K (.type (tyN d)) (.type "str") = some (stry d) := by
  cases d with
  | none => exact kit_ty (a := "NoneType") (b := "str") (r := false) (by decide +kernel)
  | bool b => exact kit_ty (a := "bool") (b := "str") (r := false) (by decide +kernel)
  | int i => exact kit_ty (a := "int") (b := "str") (r := false) (by decide +kernel)
  | str s => exact kit_ty (a := "str") (b := "str") (r := true) (by decide +kernel)
  | list ds => exact kit_ty (a := "list") (b := "str") (r := false) (by decide +kernel)
  | tuple ds => exact kit_ty (a := "tuple") (b := "str") (r := false) (by decide +kernel)
  | dict kvs => exact kit_ty (a := "dict") (b := "str") (r := false) (by decide +kernel)
theorem kit_tup (d : PyData) : PySem.W.kitOne K (.type (tyN d)) (.type "tuple") = some (tupb d) := by
  cases d with
  | none => exact kit_ty (a := "NoneType") (b := "tuple") (r := false) (by decide +kernel)
  | bool b => exact kit_ty (a := "bool") (b := "tuple") (r := false) (by decide +kernel)
  | int i => exact kit_ty (a := "int") (b := "tuple") (r := false) (by decide +kernel)
  | str s => exact kit_ty (a := "str") (b := "tuple") (r := false) (by decide +kernel)
  | list ds => exact kit_ty (a := "list") (b := "tuple") (r := false) (by decide +kernel)
  | tuple ds => exact kit_ty (a := "tuple") (b := "tuple") (r := true) (by decide +kernel)
  | dict kvs => exact kit_ty (a := "dict") (b := "tuple") (r := false) (by decide +kernel)
theorem kit_lst (d : PyData) : PySem.W.kitOne K (.type (tyN d)) (.type "list") = some (lstb d) := by
  cases d with
  | none => exact kit_ty (a := "NoneType") (b := "list") (r := false) (by decide +kernel)
  | bool b => exact kit_ty (a := "bool") (b := "list") (r := false) (by decide +kernel)
  | int i => exact kit_ty (a := "int") (b := "list") (r := false) (by decide +kernel)
  | str s => exact kit_ty (a := "str") (b := "list") (r := false) (by decide +kernel)
  | list ds => exact kit_ty (a := "list") (b := "list") (r := true) (by decide +kernel)
  | tuple ds => exact kit_ty (a := "tuple") (b := "list") (r := false) (by decide +kernel)
  | dict kvs => exact kit_ty (a := "dict") (b := "list") (r := false) (by decide +kernel)
theorem kit_dct (d : PyData) : PySem.W.kitOne K (.type (tyN d)) (.type "dict") = some (dctb d) := by
  cases d with
  | none => exact kit_ty (a := "NoneType") (b := "dict") (r := false) (by decide +kernel)
  | bool b => exact kit_ty (a := "bool") (b := "dict") (r := false) (by decide +kernel)
  | int i => exact kit_ty (a := "int") (b := "dict") (r := false) (by decide +kernel)
  | str s => exact kit_ty (a := "str") (b := "dict") (r := false) (by decide +kernel)
  | list ds => exact kit_ty (a := "list") (b := "dict") (r := false) (by decide +kernel)
  | tuple ds => exact kit_ty (a := "tuple") (b := "dict") (r := false) (by decide +kernel)
  | dict kvs => exact kit_ty (a := "dict") (b := "dict") (r := true) (by decide +kernel)
/-! ### words as data -/
theorem datas_len : ∀ ks : List W, (NestedKey.datas ks).length = ks.length
  | [] => rfl
  | _ :: ks => by simp only [NestedKey.datas, List.length_cons, datas_len ks]
mutual
theorem wk_dd : ∀ {k : W} {v : V}, Wk F k v → Dd F k.data v
  | .none, _, e => by simpa [Wk, Dd, NestedKey.data] using e
  | .num _, _, e => by simpa [Wk, Dd, NestedKey.data] using e
  | .text _, _, e => by simpa [Wk, Dd, NestedKey.data] using e
  | .tup ks, v, e => by
    obtain ⟨a, vs, e1, e2, e3, e4⟩ := wk_tup.mp e
    simp only [NestedKey.data]
    exact dd_tuple.mpr ⟨a, vs, e1, e2, wks_dds e3, by rw [datas_len]; exact e4⟩
theorem wks_dds : ∀ {ks : List W} {vs : List V}, Wks F ks vs → Dds F (NestedKey.datas ks) vs
  | [], _, e => by simpa [NestedKey.datas, Dds, Wks] using e
  | k :: ks, vs, e => by
    obtain ⟨v, r, e1, e2, e3⟩ := wks_cons.mp e
    simp only [NestedKey.datas]
    exact dds_cons.mpr ⟨v, r, e1, wk_dd e2, wks_dds e3⟩
end
mutual
/-- no None in it -/
def full : W → Bool
  | .none => false
  | .num _ => true
  | .text _ => true
  | .tup ks => fulls ks
def fulls : List W → Bool
  | [] => true
  | k :: ks => full k && fulls ks
end
mutual
theorem wordy_data : ∀ k : W, wordy k.data = full k
  | .none => rfl
  | .num _ => rfl
  | .text _ => rfl
  | .tup ks => by simp only [NestedKey.data, wordy, full]; exact wordys_datas ks
theorem wordys_datas : ∀ ks : List W, wordys (NestedKey.datas ks) = fulls ks
  | [] => rfl
  | k :: ks => by simp only [NestedKey.datas, wordys, fulls]; rw [wordy_data k, wordys_datas ks]
end
mutual
theorem toW_data : ∀ k : W, toW k.data = k
  | .none => rfl
  | .num _ => rfl
  | .text _ => rfl
  | .tup ks => by simp only [NestedKey.data, toW]; rw [toWs_datas ks]
theorem toWs_datas : ∀ ks : List W, toWs (NestedKey.datas ks) = ks
  | [] => rfl
  | k :: ks => by simp only [NestedKey.datas, toWs]; rw [toW_data k, toWs_datas ks]
end
mutual
theorem depth_data : ∀ k : W, k.data.depth = k.depth
  | .none => by simp [NestedKey.data, PyData.depth, NestedKey.depth]
  | .num _ => by simp [NestedKey.data, PyData.depth, NestedKey.depth]
  | .text _ => by simp [NestedKey.data, PyData.depth, NestedKey.depth]
  | .tup ks => by simp only [NestedKey.data, PyData.depth, NestedKey.depth]; rw [depths_datas ks]
theorem depths_datas : ∀ ks : List W, PyData.depthAll (NestedKey.datas ks) = NestedKey.depthAll ks
  | [] => by simp [NestedKey.datas, PyData.depthAll, NestedKey.depthAll]
  | k :: ks => by simp only [NestedKey.datas, PyData.depthAll, NestedKey.depthAll]; rw [depth_data k, depths_datas ks]
end
theorem depth_mem {d : PyData} : ∀ {ds : List PyData}, d ∈ ds → d.depth ≤ PyData.depthAll ds
  | [], h => by simp at h
  | e :: ds, h => by
    simp only [PyData.depthAll]
    rcases List.mem_cons.mp h with h | h
    · rw [h]; omega
    · have := depth_mem h; omega
end
end Ly

namespace Ly
open PySem PySem.Spec PyProof.Rows SeqAt
/-- tuples compared: only what stands at the first unlike place has to be comparable -/
theorem tup_lt_first (u v : Addr) (ps qs : Array Value) (n m : Nat) (du dv : Option Addr) (su sv : Array (Option Value)) (e r : Nat → Bool) :
    Meets (Builtin.«tuple.__lt__» ⟨[.ref u, .ref v], []⟩)
      (fun A R s => s.heap.get? u = some { cls := .type "tuple", dict := du, data := .seq ps n, slots := su } ∧ s.heap.get? v = some { cls := .type "tuple", dict := dv, data := .seq qs m, slots := sv } ∧
        (∀ j (a : j < ps.size) (b : j < qs.size), EqAt A.in1 s ps[j] qs[j] (e j)) ∧ (∀ j (a : j < ps.size) (b : j < qs.size), (∀ i, i < j → e i = true) → e j = false → RcLt A.in1 s ps[j] qs[j] (r j)) ∧
        R (.ok (.ret (.bool (firstLt e r (decide (ps.size < qs.size)) (List.range (min ps.size qs.size)))))) s) :=
  .of_wp fun prog w A R s hh => by
    obtain ⟨hp, g, d, tk, os⟩ := s
    obtain ⟨hu, hv, he, hr, hR0⟩ := hh
    have sub := AutoSeq1.sub_tuple_tuple
    have zl : (ps.toList.zip qs.toList).length = min ps.size qs.size := by simp
    wp_walk using wpAny_loadPart' hu, wpAny_loadPart' hv, wpAny_forIn_list _ (fun rest b s' => b.1 = none ∧ s' = ⟨hp, g, d, tk, os⟩ ∧ ∃ i, rest = (ps.toList.zip qs.toList).drop i ∧ (∀ k, k < i → e k = true) ∧
      R (.ok (.ret (.bool (firstLt e r (decide (ps.size < qs.size)) ((List.range (min ps.size qs.size)).drop i))))) ⟨hp, g, d, tk, os⟩) _
    case turn =>
      rintro ⟨y, x⟩ rest b s' ⟨hb', rfl, i, hz, all, hR⟩
      have lt0 : i < (ps.toList.zip qs.toList).length := by
        rcases Nat.lt_or_ge i (ps.toList.zip qs.toList).length with q | q
        · exact q
        · rw [List.drop_of_length_le q] at hz; cases hz
      have lm : i < min ps.size qs.size := zl ▸ lt0
      have l1 : i < ps.size := Nat.lt_of_lt_of_le lm (Nat.min_le_left _ _)
      have l2 : i < qs.size := Nat.lt_of_lt_of_le lm (Nat.min_le_right _ _)
      rw [List.drop_eq_getElem_cons lt0] at hz
      injection hz with hyx hrest
      have ey : y = ps[i] := by have := congrArg Prod.fst hyx; simpa using this
      have ex : x = qs[i] := by have := congrArg Prod.snd hyx; simpa using this
      subst ey ex
      have rd : (List.range (min ps.size qs.size)).drop i = i :: (List.range (min ps.size qs.size)).drop (i + 1) := by simp [List.drop_eq_getElem_cons, lm]
      rw [rd] at hR
      refine wpAny_bind (he i l1 l2 prog w _ _ ?_)
      cases q : e i with
      | true =>
        rw [firstLt_yes q] at hR
        wp_walk
        refine ⟨rfl, rfl, i + 1, hrest, fun k hk => ?_, hR⟩
        by_cases z : k = i
        · rw [z]; exact q
        · exact all k (by omega)
      | false =>
        rw [firstLt_no q] at hR
        have hh := hr i l1 l2 all q prog w
        generalize PySem.richCompare .Lt ps[i] qs[i] = T at hh ⊢
        wp_walk
        refine hh _ _ ?_
        wp_walk
        exact ⟨_, rfl, hR⟩
    case fin =>
      rintro ⟨b1, b2⟩ s' ⟨hb', rfl, i, hz, _, hR⟩
      simp only at hb'
      subst hb'
      have ge : min ps.size qs.size ≤ i := by
        rcases Nat.lt_or_ge i (ps.toList.zip qs.toList).length with q | q
        · rw [List.drop_eq_getElem_cons q] at hz; cases hz
        · exact zl ▸ q
      rw [List.drop_of_length_le (by simpa using ge)] at hR
      wp_walk
      exact ⟨_, rfl, by simpa [Builtin.Tuple.tupleCompareSizes, firstLt] using hR⟩
    case h =>
      exact ⟨rfl, rfl, 0, rfl, fun k hk => absurd hk (Nat.not_lt_zero k), by simpa using hR0⟩
theorem RcLt_tup {A : Around} {s : Shared} {u v : Addr} {ps qs : Array Value} {e r : Nat → Bool} (hu : s.heap.IsTuple u ps) (hv : s.heap.IsTuple v qs) (room : A.units < cLine)
    (he : ∀ j (a : j < ps.size) (b : j < qs.size), EqAt A.in1 s ps[j] qs[j] (e j)) (hr : ∀ j (a : j < ps.size) (b : j < qs.size), (∀ i, i < j → e i = true) → e j = false → RcLt A.in1 s ps[j] qs[j] (r j)) :
    RcLt A s (.ref u) (.ref v) (firstLt e r (decide (ps.size < qs.size)) (List.range (min ps.size qs.size))) := fun prog w E Q h => by
  obtain ⟨⟨c1, du, dt1, s1⟩, o1, k1, n, d1⟩ := id hu
  obtain ⟨⟨c2, dv, dt2, s2⟩, o2, k2, m, d2⟩ := id hv
  simp only at k1 d1 k2 d2
  subst k1 d1 k2 d2
  exact richCompare_meets_room (op := .Lt) ⟨_, o1, rfl⟩ ⟨_, o2, rfl⟩ F.slot_tuple_lt F.entry_tuple_lt (F.args_tuple_lt_2 _ _) (tup_lt_first u v ps qs n m du dv s1 s2 e r)
    ⟨o1, o2, he, hr, show Value.bool (firstLt e r (decide (ps.size < qs.size)) (List.range (min ps.size qs.size))) ≠ Value.notImplemented ∧ _ from ⟨(fun x => nomatch x), h⟩⟩ room
end Ly

namespace Ly
open PySem PySem.Spec PyProof.Rows SeqAt
/-! ### the order of words -/
mutual
def wlt : W → W → Bool
  | .num i, .num j => decide (i < j)
  | .num _, .text _ => true
  | .num _, .tup _ => true
  | .text s, .text t => decide (s.cps.toList < t.cps.toList)
  | .text _, .tup _ => true
  | .tup ks, .tup ls => wlts ks ls
  | .none, .num _ => true
  | .none, .text _ => true
  | .none, .tup _ => true
  | _, _ => false
def wlts : List W → List W → Bool
  | [], _ :: _ => true
  | a :: as, b :: bs => if a = b then wlts as bs else wlt a b
  | _, _ => false
end
/-! ### the key of a word -/
mutual
def okey : W → W
  | .none => .none
  | .num i => .tup [.num 0, .num i]
  | .text s => .tup [.num 1, .text s]
  | .tup ks => .tup [.num 2, .tup (okeys ks)]
def okeys : List W → List W
  | [] => []
  | k :: ks => okey k :: okeys ks
end
theorem okeys_len : ∀ ks : List W, (okeys ks).length = ks.length
  | [] => rfl
  | _ :: ks => by simp only [okeys, List.length_cons, okeys_len ks]
theorem okeys_get : ∀ (ks : List W) (j : Nat), (okeys ks).getD j .none = okey (ks.getD j .none)
  | [], j => by simp [okeys, okey]
  | k :: ks, 0 => by simp [okeys]
  | k :: ks, j + 1 => by simpa [okeys] using okeys_get ks j
mutual
theorem okey_inj : ∀ {x y : W}, okey x = okey y → x = y
  | .none, y, h => by cases y <;> simp [okey] at h ⊢
  | .num i, y, h => by cases y <;> simp [okey] at h ⊢; exact h
  | .text s, y, h => by cases y <;> simp [okey] at h ⊢; exact h
  | .tup ks, y, h => by
    cases y <;> simp [okey] at h ⊢
    exact okeys_inj h
theorem okeys_inj : ∀ {ks ls : List W}, okeys ks = okeys ls → ks = ls
  | [], ls, h => by cases ls <;> simp [okeys] at h ⊢
  | k :: ks, ls, h => by
    cases ls with
    | nil => simp [okeys] at h
    | cons l ls =>
      simp only [okeys, List.cons.injEq] at h
      rw [okey_inj h.1, okeys_inj h.2]
end
theorem okey_beq (x y : W) : NestedKey.beq (okey x) (okey y) = decide (x = y) := by
  rw [← NestedKey.decide_eq]
  by_cases h : x = y
  · rw [h]; simp
  · rw [decide_eq_false h, decide_eq_false fun q => h (okey_inj q)]
mutual
theorem wlt_irrefl : ∀ x : W, wlt x x = false
  | .none => by simp [wlt]
  | .num i => by simp [wlt]
  | .text s => by simp [wlt, List.lt_irrefl]
  | .tup ks => by rw [wlt]; exact wlts_irrefl ks
theorem wlts_irrefl : ∀ xs : List W, wlts xs xs = false
  | [] => by simp [wlts]
  | x :: xs => by rw [wlts, if_pos rfl]; exact wlts_irrefl xs
end
mutual
theorem okey_depth : ∀ x : W, (okey x).depth ≤ 2 * x.depth + 1
  | .none => by simp [okey, NestedKey.depth]
  | .num i => by simp [okey, NestedKey.depth, NestedKey.depthAll]
  | .text s => by simp [okey, NestedKey.depth, NestedKey.depthAll]
  | .tup ks => by
    have := okeys_depth ks
    simp only [okey, NestedKey.depth, NestedKey.depthAll]
    omega
theorem okeys_depth : ∀ ks : List W, NestedKey.depthAll (okeys ks) ≤ 2 * NestedKey.depthAll ks + 1
  | [] => by simp [okeys, NestedKey.depthAll]
  | k :: ks => by
    have h1 := okey_depth k
    have h2 := okeys_depth ks
    simp only [okeys, NestedKey.depthAll]
    omega
end
theorem firstLt_wlts : ∀ (ks ls : List W), firstLt (fun j => decide (ks.getD j .none = ls.getD j .none)) (fun j => wlt (ks.getD j .none) (ls.getD j .none)) (decide (ks.length < ls.length)) (List.range (min ks.length ls.length)) = wlts ks ls
  | [], [] => by simp [firstLt, wlts]
  | [], _ :: _ => by simp [firstLt, wlts]
  | _ :: _, [] => by simp [firstLt, wlts]
  | a :: as, b :: bs => by
    have ih := firstLt_wlts as bs
    have e1 : min (a :: as).length (b :: bs).length = min as.length bs.length + 1 := by simp only [List.length_cons]; omega
    rw [e1, List.range_succ_eq_map, firstLt]
    simp only [List.getD_cons_zero, decide_eq_true_eq]
    rw [PySem.W.firstLt_map]
    simp only [List.getD_cons_succ, List.length_cons, Nat.add_lt_add_iff_right]
    show (if a = b then _ else _) = _
    rw [wlts]
    by_cases h : a = b
    · rw [if_pos h, if_pos h]; exact ih
    · rw [if_neg h, if_neg h]
theorem nested_tup {h : Heap} {ks : List W} {v : Value} (x : NestedIs h (.tup ks) v) : ∃ a o vs n, v = .ref a ∧ h.get? a = some o ∧ o.cls = .type "tuple" ∧ o.data = .seq vs n ∧ NestedAll h ks vs.toList := by
  cases x with
  | tup h1 h2 h3 h4 => exact ⟨_, _, _, _, rfl, h1, h2, h3, h4⟩
theorem nall_get {h : Heap} : ∀ {ks : List W} {vs : List Value} {j : Nat} {k : W}, NestedAll h ks vs → ks[j]? = some k → ∃ v, vs[j]? = some v ∧ NestedIs h k v
  | [], _, j, k, _, e => by simp at e
  | k :: ks, _, j, k', x, e => by
    cases x with
    | cons x1 x2 =>
      cases j with
      | zero => simp at e; subst e; exact ⟨_, rfl, x1⟩
      | succ j => obtain ⟨v, q1, q2⟩ := nall_get (j := j) x2 (by simpa using e); exact ⟨v, by simpa using q1, q2⟩
theorem nall_at {h : Heap} {ks : List W} {vs : Array Value} {j : Nat} {k : W} (x : NestedAll h ks vs.toList) (e : ks[j]? = some k) (hj : j < vs.size) : NestedIs h k vs[j] := by
  obtain ⟨v, q1, q2⟩ := nall_get x e
  rw [Array.getElem?_toList, Array.getElem?_eq_getElem hj] at q1
  rw [Option.some.inj q1]
  exact q2
theorem lt_nums {A : Around} {s : Shared} {n m : Int} {a b : Value} (ha : NestedIs s.heap (.num n) a) (hb : NestedIs s.heap (.num m) b) (na : ∀ x, a ≠ .bool x) (nb : ∀ x, b ≠ .bool x) : RcLt A s a b (decide (n < m)) := by
  cases ha with
  | bool e => exact absurd rfl (na _)
  | int i t =>
    cases hb with
    | bool e => exact absurd rfl (nb _)
    | int j u => exact fun prog w E Q hq => P.lt_int hq
mutual
/-- no truth value stands in it -/
inductive Plain (h : Heap) : W → Value → Prop
  | none : Plain h .none .none
  | int (i t) : Plain h (.num i) (.int i t)
  | text (x t) : Plain h (.text x) (.str x t)
  | tup {a o vs n ks} : h.get? a = some o → o.cls = .type "tuple" → o.data = .seq vs n → Plains h ks vs.toList → Plain h (.tup ks) (.ref a)
inductive Plains (h : Heap) : List W → List Value → Prop
  | nil : Plains h [] []
  | cons {k v ks vs} : Plain h k v → Plains h ks vs → Plains h (k :: ks) (v :: vs)
end
mutual
theorem Plain.nested {h : Heap} : ∀ {k : W} {v : Value}, Plain h k v → NestedIs h k v
  | .none, _, x => by cases x; exact .none
  | .num _, _, x => by cases x; exact .int _ _
  | .text _, _, x => by cases x; exact .text _ _
  | .tup ks, _, x => by
    cases x with
    | tup a b c d => exact .tup a b c (Plains.nested d)
theorem Plains.nested {h : Heap} : ∀ {ks : List W} {vs : List Value}, Plains h ks vs → NestedAll h ks vs
  | [], _, x => by cases x; exact .nil
  | k :: ks, _, x => by
    cases x with
    | cons a b => exact .cons (Plain.nested a) (Plains.nested b)
end
theorem plain_tup {h : Heap} {ks : List W} {v : Value} (x : Plain h (.tup ks) v) : ∃ a o vs n, v = .ref a ∧ h.get? a = some o ∧ o.cls = .type "tuple" ∧ o.data = .seq vs n ∧ Plains h ks vs.toList := by
  cases x with
  | tup h1 h2 h3 h4 => exact ⟨_, _, _, _, rfl, h1, h2, h3, h4⟩
theorem plains_get {h : Heap} : ∀ {ks : List W} {vs : List Value} {j : Nat} {k : W}, Plains h ks vs → ks[j]? = some k → ∃ v, vs[j]? = some v ∧ Plain h k v
  | [], _, j, k, _, e => by simp at e
  | k :: ks, _, j, k', x, e => by
    cases x with
    | cons x1 x2 =>
      cases j with
      | zero => simp at e; subst e; exact ⟨_, rfl, x1⟩
      | succ j => obtain ⟨v, q1, q2⟩ := plains_get (j := j) x2 (by simpa using e); exact ⟨v, by simpa using q1, q2⟩
theorem plains_at {h : Heap} {ks : List W} {vs : Array Value} {j : Nat} {k : W} (x : Plains h ks vs.toList) (e : ks[j]? = some k) (hj : j < vs.size) : Plain h k vs[j] := by
  obtain ⟨v, q1, q2⟩ := plains_get x e
  rw [Array.getElem?_toList, Array.getElem?_eq_getElem hj] at q1
  rw [Option.some.inj q1]
  exact q2
/-- pairs by their first numbers, then by what stands behind -/
theorem pair_lt {A : Around} {s : Shared} {n m : Int} {X Y : W} {a b : Value} {c : Bool} (ha : Plain s.heap (.tup [.num n, X]) a) (hb : Plain s.heap (.tup [.num m, Y]) b) (room : A.units + 2 + min X.depth Y.depth < cLine)
    (hc : n = m → ∀ u v, Plain s.heap X u → Plain s.heap Y v → RcLt A.in1 s u v c) : RcLt A s a b (if n = m then (if X = Y then false else c) else decide (n < m)) := by
  obtain ⟨p, o1, ps, k1, rfl, h1, h2, h3, h4⟩ := plain_tup ha
  obtain ⟨q, o2, qs, k2, rfl, g1, g2, g3, g4⟩ := plain_tup hb
  have n1 : ps.size = 2 := by simpa using NestedAll.length _ _ h4.nested
  have n2 : qs.size = 2 := by simpa using NestedAll.length _ _ g4.nested
  have hd : A.in1.units + min (NestedKey.depthAll [.num n, X]) (NestedKey.depthAll [.num m, Y]) < cLine := by
    simp only [NestedKey.depthAll, NestedKey.depth, Around.in1_units]
    omega
  have he := fun j (j1 : j < ps.size) (j2 : j < qs.size) => eqAt_keys [.num n, X] [.num m, Y] A.in1 s ps.toList qs.toList h4.nested g4.nested hd j (by simpa using j1) (by simpa using j2)
  have e0 : keyEqAt [.num n, X] [.num m, Y] 0 = decide (n = m) := by simp [keyEqAt, NestedKey.beq]
  have e1 : keyEqAt [.num n, X] [.num m, Y] 1 = decide (X = Y) := by
    show NestedKey.beq X Y = _
    rw [← NestedKey.decide_eq]
  have main := RcLt_tup (A := A) (s := s) (u := p) (v := q) (ps := ps) (qs := qs) (e := keyEqAt [.num n, X] [.num m, Y]) (r := fun j => if j = 0 then decide (n < m) else c) ⟨_, h1, h2, _, h3⟩ ⟨_, g1, g2, _, g3⟩ (by omega)
    (fun j j1 j2 => by simpa using he j j1 j2) (fun j j1 j2 all no => by
      match j, j1, j2, all, no with
      | 0, j1, j2, _, _ =>
        have z1 := plains_at (j := 0) h4 rfl j1
        have z2 := plains_at (j := 0) g4 rfl j2
        generalize ps[0] = x at z1
        generalize qs[0] = y at z2
        cases z1
        cases z2
        exact fun prog w E Q hq => P.lt_int (by simpa using hq)
      | j + 1, j1, j2, all, no =>
        have ej : j = 0 := by omega
        subst ej
        have hn : n = m := by simpa [e0] using all 0 (by decide)
        simpa using hc hn _ _ (plains_at (j := 1) h4 rfl j1) (plains_at (j := 1) g4 rfl j2))
  rw [n1, n2] at main
  have hr : List.range (min 2 2) = [0, 1] := by decide
  rw [hr] at main
  simp only [firstLt, e0, e1] at main
  by_cases q1 : n = m
  · by_cases q2 : X = Y
    · simpa [q1, q2] using main
    · simpa [q1, q2] using main
  · simpa [q1] using main
mutual
/-- keys of words are compared as words -/
theorem rclt_key : ∀ (x y : W) (A : Around) (s : Shared) (a b : Value), full x = true → full y = true → Plain s.heap (okey x) a → Plain s.heap (okey y) b → A.units + 3 * min x.depth y.depth + 10 < cLine → RcLt A s a b (wlt x y)
  | .none, _, _, _, _, _, h, _, _, _, _ => by simp [full] at h
  | .num i, y, A, s, a, b, hx, hy, ra, rb, hu => by
    rw [okey] at ra
    cases y with
    | none => simp [full] at hy
    | num j =>
      rw [okey] at rb
      have q := pair_lt (A := A) (c := decide (i < j)) ra rb (by simp [NestedKey.depth] at hu ⊢; omega) fun _ u v x1 x2 => by
        cases x1; cases x2
        exact fun prog w E Q hq => P.lt_int hq
      simp only [if_pos rfl] at q
      rw [wlt]
      have e : (if (NestedKey.num i) = NestedKey.num j then false else decide (i < j)) = decide (i < j) := by
        by_cases z : i = j <;> simp [z]
      rw [e] at q
      exact q
    | text t =>
      rw [okey] at rb
      have q := pair_lt (A := A) (c := false) ra rb (by simp [NestedKey.depth] at hu ⊢; omega) fun z => absurd z (by decide)
      simpa [wlt] using q
    | tup ls =>
      rw [okey] at rb
      have q := pair_lt (A := A) (c := false) ra rb (by simp [NestedKey.depth] at hu ⊢; omega) fun z => absurd z (by decide)
      simpa [wlt] using q
  | .text t, y, A, s, a, b, hx, hy, ra, rb, hu => by
    rw [okey] at ra
    cases y with
    | none => simp [full] at hy
    | num j =>
      rw [okey] at rb
      have q := pair_lt (A := A) (c := false) ra rb (by simp [NestedKey.depth] at hu ⊢; omega) fun z => absurd z (by decide)
      simpa [wlt] using q
    | text t' =>
      rw [okey] at rb
      have q := pair_lt (A := A) (c := decide (t.cps.toList < t'.cps.toList)) ra rb (by simp [NestedKey.depth] at hu ⊢; omega) fun _ u v x1 x2 => by
        cases x1; cases x2
        exact fun prog w E Q hq => P.lt_str hq
      simp only [if_pos rfl] at q
      rw [wlt]
      have e : (if (NestedKey.text t) = NestedKey.text t' then false else decide (t.cps.toList < t'.cps.toList)) = decide (t.cps.toList < t'.cps.toList) := by
        by_cases z : t = t'
        · rw [z]; simp [List.lt_irrefl]
        · simp [z]
      rw [e] at q
      exact q
    | tup ls =>
      rw [okey] at rb
      have q := pair_lt (A := A) (c := false) ra rb (by simp [NestedKey.depth] at hu ⊢; omega) fun z => absurd z (by decide)
      simpa [wlt] using q
  | .tup ks, y, A, s, a, b, hx, hy, ra, rb, hu => by
    rw [okey] at ra
    cases y with
    | none => simp [full] at hy
    | num j =>
      rw [okey] at rb
      have q := pair_lt (A := A) (c := false) ra rb (by simp [NestedKey.depth] at hu ⊢; omega) fun z => absurd z (by decide)
      simpa [wlt] using q
    | text t =>
      rw [okey] at rb
      have q := pair_lt (A := A) (c := false) ra rb (by simp [NestedKey.depth] at hu ⊢; omega) fun z => absurd z (by decide)
      simpa [wlt] using q
    | tup ls =>
      rw [okey] at rb
      have dk := okeys_depth ks
      have dl := okeys_depth ls
      have q := pair_lt (A := A) (c := wlts ks ls) ra rb (by simp only [NestedKey.depth] at hu ⊢; omega) fun _ u v x1 x2 => by
        obtain ⟨p, o1, ps, k1, rfl, h1, h2, h3, h4⟩ := plain_tup x1
        obtain ⟨q, o2, qs, k2, rfl, g1, g2, g3, g4⟩ := plain_tup x2
        have n1 : ps.size = ks.length := by simpa [okeys_len] using NestedAll.length _ _ h4.nested
        have n2 : qs.size = ls.length := by simpa [okeys_len] using NestedAll.length _ _ g4.nested
        have hd : A.in1.in1.units + min (NestedKey.depthAll (okeys ks)) (NestedKey.depthAll (okeys ls)) < cLine := by
          simp only [NestedKey.depth, Around.in1_units] at hu ⊢
          omega
        have main := RcLt_tup (A := A.in1) (s := s) (u := p) (v := q) (ps := ps) (qs := qs) (e := keyEqAt (okeys ks) (okeys ls)) (r := fun j => wlt (ks.getD j .none) (ls.getD j .none)) ⟨_, h1, h2, _, h3⟩ ⟨_, g1, g2, _, g3⟩ (by simp only [Around.in1_units]; omega)
          (fun j j1 j2 => by
            have := eqAt_keys (okeys ks) (okeys ls) A.in1.in1 s ps.toList qs.toList h4.nested g4.nested hd j (by simpa using j1) (by simpa using j2)
            simpa using this) (fun j j1 j2 _ no => by
            have := rclts_key ks ls A.in1.in1 s ps.toList qs.toList (by simpa [full] using hx) (by simpa [full] using hy) h4 g4 (by simp only [NestedKey.depth, Around.in1_units] at hu ⊢; omega) j (by simpa using j1) (by simpa using j2)
            simpa using this)
        rw [n1, n2] at main
        have e3 : keyEqAt (okeys ks) (okeys ls) = fun j => decide (ks.getD j .none = ls.getD j .none) := by
          funext j
          show NestedKey.beq _ _ = _
          rw [okeys_get, okeys_get, okey_beq]
        rw [e3, firstLt_wlts] at main
        exact main
      simp only [if_pos rfl] at q
      rw [wlt]
      have e : (if (NestedKey.tup (okeys ks)) = NestedKey.tup (okeys ls) then false else wlts ks ls) = wlts ks ls := by
        by_cases z : okeys ks = okeys ls
        · rw [okeys_inj z]; simp [wlts_irrefl]
        · simp [z]
      rw [e] at q
      exact q
theorem rclts_key : ∀ (ks ls : List W) (A : Around) (s : Shared) (vs us : List Value), fulls ks = true → fulls ls = true → Plains s.heap (okeys ks) vs → Plains s.heap (okeys ls) us → A.units + 3 * min (NestedKey.depthAll ks) (NestedKey.depthAll ls) + 10 < cLine →
    ∀ j (h1 : j < vs.length) (h2 : j < us.length), RcLt A s vs[j] us[j] (wlt (ks.getD j .none) (ls.getD j .none))
  | [], _, _, _, _, _, _, _, ra, _, _, j, h1, _ => by
    rw [okeys] at ra
    cases ra
    simp at h1
  | _ :: _, [], _, _, _, _, _, _, _, rb, _, j, _, h2 => by
    rw [okeys] at rb
    cases rb
    simp at h2
  | x :: xs, y :: ys, A, s, _, _, hx, hy, ra, rb, hu, j, h1, h2 => by
    rw [okeys] at ra rb
    simp only [fulls, Bool.and_eq_true] at hx hy
    simp only [NestedKey.depthAll] at hu
    cases ra with
    | cons r rs =>
      cases rb with
      | cons r' rs' =>
        cases j with
        | zero => exact rclt_key x y A s _ _ hx.1 hy.1 r r' (by omega)
        | succ j => simpa using rclts_key xs ys A s _ _ hx.2 hy.2 rs rs' (by omega) j (by simpa using h1) (by simpa using h2)
end
end Ly

namespace Ly
open PySem PySem.Spec PyProof.Rows SeqAt PySem.W
/-! ### the order of words is one of all words -/
mutual
theorem wlt_tri : ∀ (x y : W), wlt x y = true ∨ x = y ∨ wlt y x = true
  | .none, y => by cases y <;> simp [wlt]
  | .num i, y => by
    cases y with
    | num j => simp only [wlt, decide_eq_true_eq, NestedKey.num.injEq]; omega
    | _ => simp [wlt]
  | .text s, y => by
    cases y with
    | text t =>
      simp only [wlt, decide_eq_true_eq, NestedKey.text.injEq]
      by_cases h : s.cps.toList < t.cps.toList
      · exact .inl h
      · by_cases h2 : t.cps.toList < s.cps.toList
        · exact .inr (.inr h2)
        · exact .inr (.inl (PySem.W.str_of_cps (List.le_antisymm (List.not_lt.mp h2) (List.not_lt.mp h))))
    | _ => simp [wlt]
  | .tup ks, y => by
    cases y with
    | tup ls =>
      rcases wlts_tri ks ls with h | h | h
      · exact .inl (by simpa [wlt] using h)
      · exact .inr (.inl (by rw [h]))
      · exact .inr (.inr (by simpa [wlt] using h))
    | _ => simp [wlt]
theorem wlts_tri : ∀ (xs ys : List W), wlts xs ys = true ∨ xs = ys ∨ wlts ys xs = true
  | [], [] => by simp
  | [], _ :: _ => by simp [wlts]
  | _ :: _, [] => by simp [wlts]
  | x :: xs, y :: ys => by
    by_cases e : x = y
    · subst e
      rcases wlts_tri xs ys with h | h | h
      · exact .inl (by simpa [wlts] using h)
      · exact .inr (.inl (by rw [h]))
      · exact .inr (.inr (by simpa [wlts] using h))
    · rcases wlt_tri x y with h | h | h
      · exact .inl (by rw [wlts, if_neg e]; exact h)
      · exact absurd h e
      · exact .inr (.inr (by rw [wlts, if_neg (Ne.symm e)]; exact h))
end
mutual
theorem wlt_tr : ∀ (x y z : W), wlt x y = true → wlt y z = true → wlt x z = true
  | .none, y, z, h1, h2 => by cases y <;> cases z <;> simp_all [wlt]
  | .num i, y, z, h1, h2 => by
    cases y <;> cases z <;> simp_all [wlt]
    omega
  | .text s, y, z, h1, h2 => by
    cases y <;> cases z <;> simp_all [wlt]
    exact List.lt_trans h1 h2
  | .tup ks, y, z, h1, h2 => by
    cases y with
    | tup ls =>
      cases z with
      | tup ms =>
        rw [wlt] at h1 h2 ⊢
        exact wlts_tr ks ls ms h1 h2
      | _ => simp [wlt] at h2
    | _ => simp [wlt] at h1
theorem wlts_tr : ∀ (xs ys zs : List W), wlts xs ys = true → wlts ys zs = true → wlts xs zs = true
  | [], [], _, h1, _ => by simp [wlts] at h1
  | [], _ :: _, [], _, h2 => by simp [wlts] at h2
  | [], _ :: _, _ :: _, _, _ => by simp [wlts]
  | _ :: _, [], _, h1, _ => by simp [wlts] at h1
  | _ :: _, _ :: _, [], _, h2 => by simp [wlts] at h2
  | x :: xs, y :: ys, z :: zs, h1, h2 => by
    rw [wlts] at h1 h2 ⊢
    by_cases e1 : x = y
    · subst e1
      rw [if_pos rfl] at h1
      by_cases e2 : x = z
      · subst e2
        rw [if_pos rfl] at h2 ⊢
        exact wlts_tr xs ys zs h1 h2
      · rw [if_neg e2] at h2 ⊢
        exact h2
    · rw [if_neg e1] at h1
      by_cases e2 : y = z
      · subst e2
        rw [if_neg e1]
        exact h1
      · rw [if_neg e2] at h2
        have h3 := wlt_tr x y z h1 h2
        by_cases e3 : x = z
        · subst e3
          rw [wlt_irrefl] at h3
          cases h3
        · rw [if_neg e3]
          exact h3
end
theorem wlt_neg (a b c : W) (h : wlt a c = true) : wlt a b = true ∨ wlt b c = true := by
  rcases wlt_tri a b with q | q | q
  · exact .inl q
  · subst q; exact .inr h
  · exact .inr (wlt_tr b a c q h)
theorem wlt_tot (a b : W) (h1 : wlt a b = false) (h2 : wlt b a = false) : a = b := by
  rcases wlt_tri a b with q | q | q
  · rw [h1] at q; cases q
  · exact q
  · rw [h2] at q; cases q
@[reducible] def wOrd : KeyOrd where
  α := W
  blt := wlt
  irrefl := wlt_irrefl
  trans := wlt_tr
  negTrans := wlt_neg
  total := wlt_tot
/-- values that are keys of the words ws in the heap h -/
noncomputable def wKind (h : Heap) (ws : List W) : PyProof.Rows.KeyKind where
  toKeyOrd := wOrd
  keyOf v := open Classical in if q : ∃ k, k ∈ ws ∧ Plain h (okey k) v then some q.choose else none
  dflt := NestedKey.none
theorem plain_inj {h : Heap} {x y : W} {v : Value} (a : Plain h (okey x) v) (b : Plain h (okey y) v) : x = y := okey_inj (NestedIs.inj _ _ _ a.nested b.nested)
theorem wKind_some {h : Heap} {ws : List W} {v : Value} {k : W} (hk : k ∈ ws) (p : Plain h (okey k) v) : (wKind h ws).keyOf v = some k := by
  have q : ∃ k, k ∈ ws ∧ Plain h (okey k) v := ⟨k, hk, p⟩
  have e : (wKind h ws).keyOf v = some q.choose := by
    show (open Classical in if q : ∃ k, k ∈ ws ∧ Plain h (okey k) v then some q.choose else none) = _
    rw [dif_pos q]
  rw [e, plain_inj q.choose_spec.2 p]
theorem wKind_inv {h : Heap} {ws : List W} {v : Value} {k : W} (e : (wKind h ws).keyOf v = some k) : k ∈ ws ∧ Plain h (okey k) v := by
  by_cases q : ∃ k, k ∈ ws ∧ Plain h (okey k) v
  · have e' : (wKind h ws).keyOf v = some q.choose := by
      show (open Classical in if q : ∃ k, k ∈ ws ∧ Plain h (okey k) v then some q.choose else none) = _
      rw [dif_pos q]
    rw [e'] at e
    rw [← Option.some.inj e]
    exact q.choose_spec
  · have e' : (wKind h ws).keyOf v = none := by
      show (open Classical in if q : ∃ k, k ∈ ws ∧ Plain h (okey k) v then some q.choose else none) = _
      rw [dif_neg q]
      rfl
    rw [e'] at e
    cases e
def tagW : W → Int
  | .text _ => 1
  | .tup _ => 2
  | _ => 0
def bodW : W → W
  | .tup ks => .tup (okeys ks)
  | k => k
theorem okey_tb {k : W} (h : full k = true) : okey k = .tup [.num (tagW k), bodW k] := by
  cases k <;> simp_all [okey, tagW, bodW, full]
section
variable {prog : Program} {w : World} {A : Around} {s : Shared}
/-- what stands behind the first numbers -/
theorem bod_lt {x y : W} {a b : Value} (hx : full x = true) (hy : full y = true) (ht : tagW x = tagW y) (ra : Plain s.heap (bodW x) a) (rb : Plain s.heap (bodW y) b) (hu : A.units + 3 * min x.depth y.depth + 10 < cLine) : RcLt A s a b (wlt x y) := by
  cases x with
  | none => simp [full] at hx
  | num i =>
    cases y with
    | num j =>
      rw [bodW] at ra rb
      cases ra; cases rb
      rw [wlt]
      exact fun prog w E Q hq => P.lt_int hq
      all_goals (first | (simp) | skip)
    | none => simp [full] at hy
    | text _ => simp [tagW] at ht
    | tup _ => simp [tagW] at ht
  | text t =>
    cases y with
    | text t' =>
      rw [bodW] at ra rb
      cases ra; cases rb
      rw [wlt]
      exact fun prog w E Q hq => P.lt_str hq
      all_goals (first | (simp) | skip)
    | none => simp [full] at hy
    | num _ => simp [tagW] at ht
    | tup _ => simp [tagW] at ht
  | tup ks =>
    cases y with
    | tup ls =>
      rw [bodW] at ra rb
      obtain ⟨p, o1, ps, k1, rfl, h1, h2, h3, h4⟩ := plain_tup ra
      obtain ⟨q, o2, qs, k2, rfl, g1, g2, g3, g4⟩ := plain_tup rb
      have n1 : ps.size = ks.length := by simpa [okeys_len] using NestedAll.length _ _ h4.nested
      have n2 : qs.size = ls.length := by simpa [okeys_len] using NestedAll.length _ _ g4.nested
      have dk := okeys_depth ks
      have dl := okeys_depth ls
      have hd : A.in1.units + min (NestedKey.depthAll (okeys ks)) (NestedKey.depthAll (okeys ls)) < cLine := by
        simp only [NestedKey.depth, Around.in1_units] at hu ⊢
        omega
      have main := RcLt_tup (A := A) (s := s) (u := p) (v := q) (ps := ps) (qs := qs) (e := keyEqAt (okeys ks) (okeys ls)) (r := fun j => wlt (ks.getD j .none) (ls.getD j .none)) ⟨_, h1, h2, _, h3⟩ ⟨_, g1, g2, _, g3⟩ (by omega)
        (fun j j1 j2 => by
          have := eqAt_keys (okeys ks) (okeys ls) A.in1 s ps.toList qs.toList h4.nested g4.nested hd j (by simpa using j1) (by simpa using j2)
          simpa using this) (fun j j1 j2 _ no => by
          have := rclts_key ks ls A.in1 s ps.toList qs.toList (by simpa [full] using hx) (by simpa [full] using hy) h4 g4 (by simp only [NestedKey.depth, Around.in1_units] at hu ⊢; omega) j (by simpa using j1) (by simpa using j2)
          simpa using this)
      rw [n1, n2] at main
      have e3 : keyEqAt (okeys ks) (okeys ls) = fun j => decide (ks.getD j .none = ls.getD j .none) := by
        funext j
        show NestedKey.beq _ _ = _
        rw [okeys_get, okeys_get, okey_beq]
      rw [e3, firstLt_wlts] at main
      rw [wlt]
      exact main
    | none => simp [full] at hy
    | num _ => simp [tagW] at ht
    | text _ => simp [tagW] at ht
theorem wlt_tags {x y : W} (hx : full x = true) (hy : full y = true) (h : tagW x ≠ tagW y) : wlt x y = decide (tagW x < tagW y) := by
  cases x <;> cases y <;> simp_all [tagW, wlt, full]
/-- keys of full words can be sorted -/
theorem sorts_words {ws : List W} {vs : List Value} (e : PySem.W.EachIs (fun v k => Plain s.heap (okey k) v) vs ws) (hf : ∀ k ∈ ws, full k = true) (hu : ∀ k ∈ ws, A.units + 3 * k.depth + 20 < cLine) : PySem.W.SortsAt prog w A s (wKind s.heap ws) vs := by
  refine ⟨fun v hv => ?_, tuples' true, ?_, fun h2 E Q hq => ?_⟩
  · obtain ⟨k, hk, p⟩ := e.left v hv
    exact ⟨k, wKind_some hk p⟩
  · intro E x y a b Q ha hb hq
    obtain ⟨ka, pa⟩ := wKind_inv ha
    obtain ⟨kb, pb⟩ := wKind_inv hb
    have fa := hf a ka
    have fb := hf b kb
    have ua := hu a ka
    rw [okey_tb fa] at pa
    rw [okey_tb fb] at pb
    obtain ⟨p, o1, ps, k1, rfl, h1, h2, h3, h4⟩ := plain_tup pa
    obtain ⟨q, o2, qs, k2, rfl, g1, g2, g3, g4⟩ := plain_tup pb
    have hq' : Q (wlt a b) s := hq
    refine kat_lt h1 h3 g1 g3 ?_
    have n1 := NestedAll.length _ _ h4.nested
    have n2 := NestedAll.length _ _ g4.nested
    have z1 : decide (ps.size < qs.size) = false := by
      have : ps.size = 2 := by simpa using n1
      have : qs.size = 2 := by simpa using n2
      exact decide_eq_false (by omega)
    rw [z1]
    generalize ps.toList = lp at h4 ⊢
    generalize qs.toList = lq at g4 ⊢
    cases h4 with
    | @cons _ p0 _ pr hp0 hpr =>
      cases hpr with
      | @cons _ p1 _ pr' hp1 hpr' =>
        cases hpr'
        cases g4 with
        | @cons _ q0 _ qr hq0 hqr =>
          cases hqr with
          | @cons _ q1 _ qr' hq1 hqr' =>
            cases hqr'
            have hu1 : A.units + min (bodW a).depth (bodW b).depth < cLine := by
              have d1 : (bodW a).depth ≤ 2 * a.depth + 1 := by
                have := okey_depth a
                rw [okey_tb fa] at this
                simp only [NestedKey.depth, NestedKey.depthAll] at this
                omega
              omega
            have E0 : EqAt A s p0 q0 (decide (tagW a = tagW b)) := by
              have := eqAt_key (.num (tagW a)) (.num (tagW b)) A s p0 q0 hp0.nested hq0.nested (by simp only [NestedKey.depth]; omega)
              simpa [NestedKey.beq] using this
            have E1 : EqAt A s p1 q1 (decide (bodW a = bodW b)) := by
              have := eqAt_key (bodW a) (bodW b) A s p1 q1 hp1.nested hq1.nested hu1
              rw [NestedKey.decide_eq]
              exact this
            rw [List.zip_cons_cons, List.zip_cons_cons, List.zip_nil_left]
            refine kat_cons (E0 prog w _ _ ?_)
            by_cases ht : tagW a = tagW b
            · rw [decide_eq_true ht]
              refine kat_yes (kat_cons (E1 prog w _ _ ?_))
              by_cases hb2 : bodW a = bodW b
              · rw [decide_eq_true hb2]
                have hab : a = b := okey_inj (by rw [okey_tb fa, okey_tb fb, ht, hb2])
                subst hab
                have z : wlt (show W from a) (show W from a) = false := wlt_irrefl _
                exact kat_yes (kat_nil (z ▸ hq'))
              · rw [decide_eq_false hb2]
                refine kat_no ?_
                have L := bod_lt (A := A) fa fb ht hp1 hq1 (by omega)
                exact kat_one p1 q1 (L prog w _ _ hq')
            · rw [decide_eq_false ht]
              refine kat_no ?_
              have z := wlt_tags fa fb ht
              have hq2 : Q (decide (tagW a < tagW b)) s := z ▸ hq'
              cases hp0
              cases hq0
              exact oneLt_int hq2
  · have kt : ∃ fs, KatTups s.heap vs fs ∧ fs.length = vs.length ∧ ∀ f ∈ fs, ∃ i t, f = Value.int i t := by
      clear h2
      revert hf hu
      induction e with
      | nil => exact fun _ _ => ⟨[], KatTups.nil, rfl, fun f h => by simp at h⟩
      | @cons v k vs ks p _ ih =>
        intro hf hu
        obtain ⟨fs, t1, t2, t3⟩ := ih (fun x hx => hf x (List.mem_cons_of_mem _ hx)) (fun x hx => hu x (List.mem_cons_of_mem _ hx))
        rw [okey_tb (hf k List.mem_cons_self)] at p
        obtain ⟨a, o1, ps, k1, rfl, h1, h2, h3, h4⟩ := plain_tup p
        obtain ⟨f, q1, q2⟩ := plains_get (j := 0) h4 rfl
        rw [Array.getElem?_toList] at q1
        cases q2 with
        | int i t =>
          refine ⟨.int (tagW k) t :: fs, KatTups.cons h1 h2 h3 q1 t1, by simp [t2], fun g hg => ?_⟩
          rcases List.mem_cons.mp hg with z | z
          · exact ⟨_, _, z⟩
          · exact t3 g z
    obtain ⟨fs, t1, t2, t3⟩ := kt
    refine kat_kind (T := .type "int") t1 (by omega) (fun f hf => ?_) (by decide) hq
    obtain ⟨i, t, rfl⟩ := t3 f hf
    exact Looks.of_pure rfl
end
end Ly

namespace Ly
open PySem PySem.Spec PyProof.Rows L2 PySem.W
/-! ### sorted(words, key = a def that tells a word's key) -/
def spOrderKey (n : Nat) : Sp := fun vs H Q _ => ∃ (x : V) (k : W) (F : Hp), vs = [x] ∧ Same F H ∧ Wk F k x ∧ full k = true ∧ k.depth < n ∧ ∀ v F' H', Ex [] F H F' H' → Wk F' (okey k) v → Q v H'
def wle (a b : W) : Bool := !wlt b a
def wsort (ws : List W) : List W := ws.mergeSort wle
mutual
theorem wk_plain {P : Program} {w : World} {F H : Hp} {h : Heap} (hF : Same F H) (ok : HOk P w H h) : ∀ {k : W} {v : V} {u : Value}, Wk F k v → RelV v u → Plain h k u
  | .none, v, u, e, r => by
    simp only [Wk] at e
    subst e
    cases (show u = Value.none from r)
    exact .none
  | .num i, v, u, e, r => by
    rw [wk_num.mp e] at r
    obtain ⟨t, rfl⟩ := (show ∃ t, u = Value.int i t from r)
    exact .int i t
  | .text s, v, u, e, r => by
    rw [wk_text.mp e] at r
    obtain ⟨t, rfl⟩ := (show ∃ t, u = Value.str s t from r)
    exact .text s t
  | .tup ks, v, u, e, r => by
    obtain ⟨a, vs, rfl, h2, h3, _⟩ := wk_tup.mp e
    cases (show u = Value.ref a from r)
    obtain ⟨_, its, rv, o, ho, hc, n, hd⟩ := (show ObjOk P w H h a (.tup vs) from ok a _ (hF _ _ h2))
    exact .tup ho hc hd (by simpa using wks_plain hF ok h3 rv)
theorem wks_plain {P : Program} {w : World} {F H : Hp} {h : Heap} (hF : Same F H) (ok : HOk P w H h) : ∀ {ks : List W} {vs : List V} {us : List Value}, Wks F ks vs → Vals vs us → Plains h ks us
  | [], vs, us, e, r => by
    rw [wks_nil.mp e] at r
    cases r
    exact .nil
  | k :: ks, vs, us, e, r => by
    obtain ⟨v, rest, rfl, e2, e3⟩ := wks_cons.mp e
    cases r with
    | cons r1 r2 => exact .cons (wk_plain hF ok e2 r1) (wks_plain hF ok e3 r2)
end
section
variable {X : Cx} {pins : List (Addr × Obj)} {σ : L2.St} {F H : Hp} {s : Shared}
/-- what is neither a frame's nor pinned nor a cell, and untracked, may turn -/
theorem Inv.turn {h' : Heap} {it : Addr} (I : L2.Inv X pins σ H s) (f : L2.FpOk X pins H it) (k : ∀ b o, b ≠ it → s.heap.get? b = some o → h'.get? b = some o) : L2.Inv X pins σ H { s with heap := h', toks := s.toks } := by
  obtain ⟨f0, f1, f2, f3, f4, f5⟩ := f
  exact I.turned (t' := s.toks) k f0 f1 f3 f4 f5
/-- the same address at a later heap -/
theorem fp_later {H' : Hp} {it : Addr} (f : L2.FpOk X pins H it) (h : H' it = none) : L2.FpOk X pins H' it := by
  obtain ⟨_, f1, f2, f3, f4, f5⟩ := f
  exact ⟨h, f1, f2, f3, f4, f5⟩
/-- the keys that were made so far -/
def KeysAre (F : Hp) (us : List Value) (ws : List W) : Prop := EachIs (fun u k => ∃ v, RelV v u ∧ Wk F (okey k) v) us ws
theorem KeysAre.up {F' : Hp} {us : List Value} {ws : List W} (h : Same F F') (e : KeysAre F us ws) : KeysAre F' us ws := EachIs.mono (fun u k q => by
  obtain ⟨v, r, w⟩ := q
  exact ⟨v, r, w.up h⟩) e
theorem each_snoc2 {α β : Type} {R : α → β → Prop} {x : α} {y : β} (hxy : R x y) : ∀ {as : List α} {bs : List β}, EachIs R as bs → EachIs R (as ++ [x]) (bs ++ [y])
  | _, _, .nil => .cons hxy .nil
  | _, _, .cons h t => .cons h (each_snoc2 hxy t)
theorem wks_zip {F : Hp} : ∀ {ks : List W} {vs : List V}, Wks F ks vs ↔ vs.length = ks.length ∧ ∀ p ∈ ks.zip vs, Wk F p.1 p.2
  | [], vs => by
    constructor
    · intro h; rw [wks_nil.mp h]; simp
    · intro h; exact wks_nil.mpr (List.length_eq_zero_iff.mp (by simpa using h.1))
  | k :: ks, [] => by
    constructor
    · intro h; obtain ⟨v, r, e, _⟩ := wks_cons.mp h; cases e
    · intro h; simp at h
  | k :: ks, v :: vs => by
    have ih := @wks_zip F ks vs
    constructor
    · intro h
      obtain ⟨v', r, e, h1, h2⟩ := wks_cons.mp h
      cases e
      obtain ⟨q1, q2⟩ := ih.mp h2
      refine ⟨by simp [q1], fun p hp => ?_⟩
      rcases List.mem_cons.mp (by simpa using hp) with z | z
      · rw [z]; exact h1
      · exact q2 p z
    · intro h
      obtain ⟨q1, q2⟩ := h
      refine Wks.cons (q2 (k, v) (by simp)) (ih.mpr ⟨by simpa using q1, fun p hp => q2 p (by simp [hp])⟩)
theorem zip_fs {α β : Type} : ∀ l : List (α × β), (l.map Prod.fst).zip (l.map Prod.snd) = l
  | [] => rfl
  | p :: l => by simp [zip_fs l]
/-- what is sorted out, told by the words -/
theorem sorted_vals {h : Heap} {F : Hp} {ws : List W} {us : List Value} {its : List Value} {xs : List V} (hk : EachIs (fun v k => Plain h (okey k) v) us ws) (hx : Wks F ws xs) (hr : Vals xs its) :
    ∃ ys, Vals ys (sortVals (wKind h ws) false us its) ∧ Wks F (wsort ws) ys := by
  have l1 := hk.length
  have l2 := hx.len
  have l3 := hr.length
  have base : EachIs (fun (p : Keyed) (q : W × V) => RelV q.2 p.2 ∧ keyD (wKind h ws) p.1 = q.1) (us.zip its) (ws.zip xs) := by
    have gen : ∀ {us ws' : _} {its : List Value} {xs : List V}, EachIs (fun v k => Plain h (okey k) v) us ws' → (∀ k ∈ ws', k ∈ ws) → Vals xs its → xs.length = ws'.length → EachIs (fun (p : Keyed) (q : W × V) => RelV q.2 p.2 ∧ keyD (wKind h ws) p.1 = q.1) (us.zip its) (ws'.zip xs) := by
      intro us ws' its xs e
      induction e generalizing its xs with
      | nil => intro _ _ _; simp; exact .nil
      | @cons a b as bs q t ih =>
        intro hm hr hl
        cases hr with
        | nil => simp at hl
        | @cons x u xs' us' r1 r2 =>
          refine .cons ⟨r1, ?_⟩ (ih (fun k hk => hm k (List.mem_cons_of_mem _ hk)) r2 (by simpa using hl))
          exact keyD_some (wKind_some (hm b List.mem_cons_self) q)
    exact gen hk (fun k hk => hk) hr (by omega)
  have srt := sort_each (r := sortLe (wKind h ws).toKeyOrd false fun p : Keyed => keyD (wKind h ws) p.1) (s := fun p q : W × V => wle p.1 q.1) base fun p hp q hq => by
    have a := (base.zip p hp).2
    have b := (base.zip q hq).2
    show (!wlt (keyD (wKind h ws) q.1.1) (keyD (wKind h ws) p.1.1)) = (!wlt q.2.1 p.2.1)
    rw [a, b]
  refine ⟨((ws.zip xs).mergeSort fun p q : W × V => wle p.1 q.1).map Prod.snd, ?_, ?_⟩
  · have gen : ∀ {as : List Keyed} {bs : List (W × V)}, EachIs (fun (p : Keyed) (q : W × V) => RelV q.2 p.2 ∧ keyD (wKind h ws) p.1 = q.1) as bs → Vals (bs.map Prod.snd) (as.map Prod.snd) := by
      intro as bs e
      induction e with
      | nil => exact .nil
      | cons q _ ih => exact .cons q.1 ih
    exact gen srt
  · have e1 : ((ws.zip xs).mergeSort fun p q : W × V => wle p.1 q.1).map Prod.fst = wsort ws := by
      rw [sort_maps (s := wle) Prod.fst (fun _ _ _ _ => rfl), List.map_fst_zip (by omega)]
      rfl
    rw [← e1]
    refine wks_zip.mpr ⟨by simp, fun p hp => ?_⟩
    rw [zip_fs] at hp
    exact (wks_zip.mp hx).2 p ((List.mergeSort_perm _ _).mem_iff.mp hp)
/-- a def is called by list.sort -/
theorem run_in2 {x : Str} {k : Nat} {ps : List Str} {sp : Sp} {u : Value} {v : V} {Q : VK} (o : Ok X.prog X.w X.K X.mg X.base x k ps sp) (hr : Room k X.A.in1.in1) (I : L2.Inv X pins σ H s) (r : RelV v u) (h : sp [v] H Q fun _ _ _ => False) :
    wpAny (model X.prog X.w) X.A.in1.in1 (call (.ref (He.ga X.K x)) [u]) (L2.EP X pins σ Q) (fun _ _ => False) s := by
  obtain ⟨fd, _, _, hb, Fn⟩ := o
  have hl : ps.length = 1 := by
    have := Fn.len _ _ _ _ h
    simpa using this.symm
  refine wpAny_call (codeAny_mono (Fn.run X.A.in1.in1 X.stack s H ⟨[u], []⟩ [u] [v] Q (fun _ _ _ => False) hr I.env0.in1.in1 (by
    have hb' := hb s [u] I.kIn (by simp [hl])
    simpa using hb') (.cons r .nil) h) fun r s' hq => ?_)
  cases r with
  | error e => exact hq.elim
  | ok fl =>
    cases fl with
    | ret u => exact I.after hq
    | next => exact hq.elim
    | brk => exact hq.elim
    | cont => exact hq.elim
/-- the keys are made, the items sorted -/
theorem keyW_rest {x : Str} {k n : Nat} {ps : List Str} {D kS : Addr} {e1 : Nat} {its : List Value} {xs : List V} {ws : List W} {P : PySem.Fin → Shared → Prop} {E : Value → Shared → Prop} (o : Ok X.prog X.w X.K X.mg X.base x k ps (spOrderKey n)) (hr : Room (k + 2) X.A) (hn : n ≤ 50)
    (I : L2.Inv X (pins ++ [(D, seqObj "list" #[] e1), (kS, seqObj "list" #[] 0)]) σ H s) (fD : L2.FpOk X pins H D) (fK : L2.FpOk X pins H kS) (hDK : kS ≠ D) (hF : Same F H)
    (rv : Vals xs its) (hw : Wks F ws xs) (hf : fulls ws = true) (hd : NestedKey.depthAll ws < n) (hz : its.length ≤ sizeLine)
    (done : ∀ s' H' F' out, L2.Inv X pins σ (upd H' D (.lst out)) s' → Ex [] F H F' H' → H' D = none → Wks F' (wsort ws) out → P (.done (.ret .none)) s') :
    wpAny (model X.prog X.w) X.A.in1.in1 (ksk_rest D (.ref (He.ga X.K x)) false its.toArray e1 (.ref kS)) P E s := by
  have hlen : its.length = ws.length := by rw [← rv.length]; exact hw.len
  have hr2 : Room k X.A.in1.in1 := (Room.in1 (Room.in1 hr))
  have fullk : ∀ z ∈ ws, full z = true := by
    intro z hz
    revert hf hz
    clear hw hd hlen done
    induction ws with
    | nil => intro _ h; simp at h
    | cons a r ih =>
      intro hf h
      simp only [fulls, Bool.and_eq_true] at hf
      rcases List.mem_cons.mp h with q | q
      · rw [q]; exact hf.1
      · exact ih hf.2 q
  have depk : ∀ z ∈ ws, z.depth < n := by
    intro z hz
    revert hd hz
    clear hw hf hlen done fullk
    induction ws with
    | nil => intro _ h; simp at h
    | cons a r ih =>
      intro hd h
      simp only [NestedKey.depthAll] at hd
      rcases List.mem_cons.mp h with q | q
      · rw [q]; omega
      · exact ih (by omega) q
  unfold ksk_rest
  refine wpAny_bind (wpAny_rule ?_)
  first
    | rw [List.forIn_toArray]
    | (rw [← Array.forIn_toList]; simp only [List.toList_toArray])
  refine wpAny_bind (ksk_fold (fun i s' => ∃ H' F' keys e, L2.Inv X (pins ++ [(D, seqObj "list" #[] e1), (kS, seqObj "list" keys e)]) σ H' s' ∧ Ex [] F H F' H' ∧ KeysAre F' keys.toList (ws.take i)) its 0 s ⟨H, F, #[], 0, I, Ex.refl hF, by rw [List.take_zero]; exact EachIs.nil⟩ ?turns ?behind)
  case turns =>
    rintro j u s' hu ⟨H', F', keys, e, I', ex, hk⟩
    simp only [Nat.zero_add] at hk ⊢
    have hj : j < its.length := (List.getElem?_eq_some_iff.mp hu).1
    obtain ⟨v, hv, wkv⟩ : ∃ v, xs[j]? = some v ∧ RelV v u := by
      have hjx : j < xs.length := by rw [rv.length]; exact hj
      obtain ⟨u', q1, q2⟩ := rv.get (List.getElem?_eq_getElem hjx)
      rw [hu] at q1
      cases q1
      exact ⟨_, List.getElem?_eq_getElem hjx, q2⟩
    obtain ⟨z, hz1, hz2⟩ := hw.get hv
    have hzm : z ∈ ws := List.mem_of_getElem? hz1
    have kl := hk.length
    have pinD := I'.pin (D, seqObj "list" #[] e1) (List.mem_append_right _ (List.mem_append_right _ (by simp)))
    have pinK := I'.pin (kS, seqObj "list" keys e) (List.mem_append_right _ (List.mem_append_right _ (by simp)))
    refine wpAny_bind (wpAny_attempt (wpAny_mono (run_in2 (Q := fun v' H2 => ∃ F2, Ex [] F' H' F2 H2 ∧ Wk F2 (okey z) v') o hr2 I' wkv ⟨v, z, F', rfl, ex.fh, hz2.up ex.ff, fullk z hzm, depk z hzm, fun v' F2 H2 e2 w2 => ⟨F2, e2, w2⟩⟩) (fun u' s2 hh => ?_) fun _ _ hE => hE.elim))
    obtain ⟨v', H2, I2, r2, F2, e2, w2⟩ := hh
    try dsimp only
    have pD := I2.pin (D, seqObj "list" #[] e1) (List.mem_append_right _ (List.mem_append_right _ (by simp)))
    have pK := I2.pin (kS, seqObj "list" keys e) (List.mem_append_right _ (List.mem_append_right _ (by simp)))
    have nk : s2.heap.get? kS = some (seqObj "list" keys e) := pK.1
    have nd : s2.heap.get? D = some (seqObj "list" #[] e1) := pD.1
    have ksz : keys.size ≤ sizeLine := by
      rw [Array.length_toList, List.length_take] at kl
      omega
    refine wpAny_bind (listUpdate_at nk rfl ?_ ksz (Nat.le_trans (Nat.le_of_eq (Array.size_push ..)) (Nat.succ_le_succ ksz)))
    have sb := Heap.SameBut.update s2.heap kS (Obj.mapSeq (·.push u'))
    obtain ⟨c2, hc2⟩ : ∃ c2, (s2.heap.update kS (Obj.mapSeq (·.push u'))).get? kS = some (seqObj "list" (keys.push u') c2) := ⟨_, get?_update_seq nk (·.push u')⟩
    have I3 : L2.Inv X pins σ H2 s2 := I2.unpinned
    have I4 := Inv.turn I3 (fp_later fK pK.2.1) (fun b o hb e => (sb.2 b hb).trans e)
    refine wpAny_pure ⟨rfl, H2, F2, keys.push u', c2, I4.pins_of (fun p hp => ?_), ex.trans e2, ?_⟩
    · rcases List.mem_append.mp hp with z | z
      · have q := I4.pin p (List.mem_append_right _ z)
        exact q
      · simp only [List.mem_cons, List.not_mem_nil, or_false] at z
        rcases z with z | z
        · subst z
          exact ⟨(sb.2 D (Ne.symm hDK)).trans nd, pD.2.1, fD.2.1, fD.2.2.1, fun v h => by cases h⟩
        · subst z
          exact ⟨hc2, pK.2.1, fK.2.1, fK.2.2.1, fun v h => by cases h⟩
    · have ek : ws.take (j + 1) = ws.take j ++ [z] := by rw [List.take_add_one, hz1]; simp
      have ea : (keys.push u').toList = keys.toList ++ [u'] := by simp
      rw [ek, ea]
      exact each_snoc2 ⟨v', r2, w2⟩ (KeysAre.up e2.ff hk)
  case behind =>
    rintro s' ⟨H', F', keys, e, I', ex, hk⟩
    have e3 : ws.take (0 + its.length) = ws := List.take_of_length_le (by omega)
    rw [e3] at hk
    have pD := I'.pin (D, seqObj "list" #[] e1) (List.mem_append_right _ (List.mem_append_right _ (by simp)))
    have pK := I'.pin (kS, seqObj "list" keys e) (List.mem_append_right _ (List.mem_append_right _ (by simp)))
    have nk : s'.heap.get? kS = some (seqObj "list" keys e) := pK.1
    have nd : s'.heap.get? D = some (seqObj "list" #[] e1) := pD.1
    have hk2 : EachIs (fun v k => Plain s'.heap (okey k) v) keys.toList ws := EachIs.mono (fun u k q => by
      obtain ⟨v, r, w'⟩ := q
      exact wk_plain ex.fh I'.hok w' r) hk
    have hsz : keys.size = its.length := by
      have h1 := hk2.length
      rw [Array.length_toList] at h1
      omega
    have units : ∀ z ∈ ws, X.A.in1.in1.units + 3 * z.depth + 20 < cLine := fun z hz => by
      have h1 := depk z hz
      have h2 := hr.un
      simp only [Around.in1_units]
      omega
    obtain ⟨ys, y1, y2⟩ := sorted_vals hk2 (hw.up ex.ff) rv
    try dsimp only
    refine wpAny_bind (listItems_at nk rfl ?_)
    obtain ⟨G', gk, ge⟩ := L2.restrict s'.heap fun b => decide (b ≠ kS)
    have gkk : ∀ b, b ≠ kS → G'.get? b = s'.heap.get? b := fun b hb => gk b (decide_eq_true hb)
    have gke : G'.get? kS = none := ge kS (by simp)
    refine keyH_end (κ := wKind s'.heap ws) (h₁ := G') (s := s') (fun b o hb q => ?_) gke nk nd hDK (sorts_words hk2 fullk units) hsz hz fun h3 tk3 c k3 n3 => ?_
    · by_cases hbk : b = kS
      · rw [hbk, gke] at q; cases q
      · rw [← gkk b hbk]; exact q
    · refine done _ H' F' ys ?_ ex pD.2.1 y2
      have I0 : L2.Inv X pins σ H' s' := I'.unpinned
      have keep : ∀ b o, b ≠ D → b ≠ kS → s'.heap.get? b = some o → h3.get? b = some o := fun b o h1 h2 q => k3 b o h1 (by rw [gkk b h2]; exact q)
      have hDn : H' D = none := pD.2.1
      have hKn : H' kS = none := pK.2.1
      have yl : ys.length ≤ sizeLine := by
        have := y2.len
        have w1 : (wsort ws).length = ws.length := List.length_mergeSort _
        omega
      refine I0.step (g' := s'.gens) (d' := s'.drawn) (t' := tk3) (ch := [D, kS]) (fun b hb => ?_) (fun b o _ _ hb q _ => ?_) (fun b o _ _ hb q _ => ?_) (fun b o hb q n => ?_) (fun b o hb q => ?_) (fun b xs q => ?_) (fun b o u q => ?_) (fun b ps q => ?_) (fun m hm => ?_) ?_ I0.bare
      · simp only [List.mem_cons, List.not_mem_nil, or_false] at hb
        rcases hb with z | z
        · subst z
          exact ⟨fD.2.2.2.1, fD.2.1, fD.2.2.2.2.1, fD.2.2.2.2.2⟩
        · subst z
          exact ⟨fK.2.2.2.1, fK.2.1, fK.2.2.2.2.1, fK.2.2.2.2.2⟩
      · simp only [List.mem_cons, List.not_mem_nil, or_false, not_or] at hb
        exact keep b o hb.1 hb.2 q
      · simp only [List.mem_cons, List.not_mem_nil, or_false, not_or] at hb
        exact ⟨o.slots, keep b o hb.1 hb.2 q⟩
      · simp only [List.mem_cons, List.not_mem_nil, or_false, not_or] at hb
        rw [upd_ne hb.1]; exact n
      · simp only [List.mem_cons, List.not_mem_nil, or_false, not_or] at hb
        exact ⟨o, keep b o hb.1 hb.2 q⟩
      · rw [upd_ne (ne_of_none q hDn)]; exact q
      · rw [upd_ne (ne_of_none q hDn)]; exact q
      · exact ⟨#[], by rw [upd_ne (ne_of_none q hDn), q]; simp⟩
      · obtain ⟨om, es', ep', hom, rm⟩ := hm
        exact ⟨om, es', ep', keep _ _ (Ne.symm fD.2.1) (Ne.symm fK.2.1) hom, rm⟩
      · intro b o q
        by_cases hb : b = D
        · subst hb
          rw [upd_same] at q
          cases q
          exact ⟨yl, _, c, y1, n3⟩
        · rw [upd_ne hb] at q
          have nb : b ≠ kS := ne_of_none q hKn
          refine (I0.hok b o q).stay (fun b2 u2 hb2 q2 => ?_) (fun b2 q2 => ?_) fun b2 xs q2 => ?_
          · rcases hb2 with z | z
            · rw [z] at q2 ⊢; exact keep b u2 hb nb q2
            · exact keep b2 u2 (ne_of_none z hDn) (ne_of_none z hKn) q2
          · rw [upd_ne (ne_of_none q2 hDn)]; exact q2
          · rw [upd_ne (ne_of_none q2 hDn)]; exact q2
end
end Ly

namespace Ly
open PySem PySem.Spec PyProof.Rows L2 PySem.W
def rSortedW (K : PySem.W.Frag) (x : Str) (n : Nat) : List V → List V → Hp → VK → Prop := fun vs zs H Q => ∃ (a : Addr) (xs : List V) (ws : List W) (F : Hp), vs = [V.ref a] ∧ zs = [V.ref (He.ga K x)] ∧ SqL K H a xs ∧ Same F H ∧ Wks F ws xs ∧ fulls ws = true ∧ NestedKey.depthAll ws < n ∧
  ∀ p ys F' H', Ex [] F H F' H' → H p = none → F' p = none → H' p = some (.lst ys) → Wks F' (wsort ws) ys → Q (.ref p) H'
section
variable {X : Cx}
theorem cr_sortedW {x : Str} {k n : Nat} {ps : List Str} (o : Ok X.prog X.w X.K X.mg X.base x k ps (spOrderKey n)) (hr : Room (k + 2) X.A) (hn : n ≤ 50) : CallRK X (.builtin "sorted") [Str.ofString "key"] (rSortedW X.K x n) := by
  intro pins s σ H vs zs us ws' Q I r rz h
  obtain ⟨a, xs, ws, F, rfl, rfl, hs, hF, hw, hf, hd, q⟩ := h
  obtain rfl := Vals.ref1 r
  obtain ⟨w1, rfl, e1⟩ := vals1 rz
  obtain rfl : w1 = Value.ref (He.ga X.K x) := e1
  obtain ⟨its, rv, hl, hz⟩ := I.list hs
  have hz2 : its.length ≤ sizeLine := by rw [← rv.length]; exact hz
  refine sorted_of_sort hl.isList hz2 (ksk_s1 _ _) (fun _ => ksk_l1 _ _) fun E' => ?_
  show wpAny _ _ (Builtin.«list.sort» ⟨[.ref (s.heap.objs.size + 1)], [(Str.ofString "key", .ref (He.ga X.K x))]⟩) _ _ _
  rw [ksk_t1]
  generalize hD : s.heap.objs.size + 1 = D
  have hDs : s.heap.objs.size ≤ D := by omega
  have ho : (copyHeap s.heap its).get? D = some (seqObj "list" its.toArray 0) := by rw [← hD]; exact copyHeap_at s.heap its
  have I1 : L2.Inv X pins σ H { s with heap := copyHeap s.heap its } := I.kept (t' := s.toks) fun b o e => copyHeap_old e
  have hDn : H D = none := I.hok.fresh hDs
  have fD : L2.FpOk X pins H D := I.fpOk hDs hDn
  obtain ⟨c1, ho1⟩ : ∃ c1, ((copyHeap s.heap its).update D (Obj.mapSeq fun _ => (#[] : Array Value))).get? D = some (seqObj "list" #[] c1) := ⟨_, get?_update_seq ho fun _ => #[]⟩
  have sb := Heap.SameBut.update (copyHeap s.heap its) D (Obj.mapSeq fun _ => (#[] : Array Value))
  have I2 := Inv.turn I1 fD (fun b o hb e => (sb.2 b hb).trans e)
  unfold ksk_tree
  refine wpAny_bind (listItems_at ho rfl ?_)
  refine wpAny_bind (listUpdate_at ho rfl ?_ (by rw [List.size_toArray]; exact hz2) (Nat.zero_le _))
  refine wpAny_bind (seqEpoch_at ho1 rfl ?_)
  refine wpAny_bind (wpAny_newTuple ?_ (by show its.length ≤ _; exact hz2))
  refine wpAny_bind (wpAny_newList ?_ (Nat.zero_le _))
  refine wpAny_holding ?_
  have szD : D < (copyHeap s.heap its).objs.size := Heap.lt_size ho
  generalize hh2 : (copyHeap s.heap its).update D (Obj.mapSeq fun _ => (#[] : Array Value)) = h2 at I2 ho1
  have sz2 : h2.objs.size = (copyHeap s.heap its).objs.size := by rw [← hh2, Heap.size_update]
  have I3 : L2.Inv X pins σ H { s with heap := h2.push (seqObj "tuple" its.toArray 0) } := I2.kept (t' := s.toks) fun b o e => Heap.get?_push_of_some _ e
  have I4 : L2.Inv X pins σ H { s with heap := (h2.push (seqObj "tuple" its.toArray 0)).push (seqObj "list" #[] 0) } := I3.kept (t' := s.toks) fun b o e => Heap.get?_push_of_some _ e
  have kS : (h2.push (seqObj "tuple" its.toArray 0)).objs.size = h2.objs.size + 1 := size_push' ..
  have nK : H (h2.objs.size + 1) = none := I3.hok.fresh (by show (h2.push (seqObj "tuple" its.toArray 0)).objs.size ≤ _; rw [kS]; exact Nat.le_refl _)
  have fK : L2.FpOk X pins H (h2.objs.size + 1) := I3.fpOk (by show (h2.push (seqObj "tuple" its.toArray 0)).objs.size ≤ _; rw [kS]; exact Nat.le_refl _) nK
  have gK : ((h2.push (seqObj "tuple" its.toArray 0)).push (seqObj "list" #[] 0)).get? (h2.objs.size + 1) = some (seqObj "list" #[] 0) := by
    rw [← kS]
    exact Heap.get?_push_size _ rfl
  have gD : ((h2.push (seqObj "tuple" its.toArray 0)).push (seqObj "list" #[] 0)).get? D = some (seqObj "list" #[] c1) := Heap.get?_push_of_some _ (Heap.get?_push_of_some _ ho1)
  have hne : h2.objs.size + 1 ≠ D := by omega
  show wpAny _ _ (ksk_rest D (.ref (He.ga X.K x)) false its.toArray c1 (.ref (h2.push (seqObj "tuple" its.toArray 0)).objs.size)) _ _ _
  rw [kS]
  refine keyW_rest (pins := pins) (σ := σ) (F := F) (H := H) o hr hn (I4.pins_of (fun p hp => ?_)) fD fK hne hF rv hw hf hd hz2 fun s' H' F' out I' ex hn' hw' => ⟨rfl, .ref D, upd H' D (.lst out), I', rfl, ?_⟩
  · rcases List.mem_append.mp hp with z | z
    · exact I4.pin p (List.mem_append_right _ z)
    · simp only [List.mem_cons, List.not_mem_nil, or_false] at z
      rcases z with z | z
      · subst z
        exact ⟨gD, hDn, fD.2.1, fD.2.2.1, fun v h => by cases h⟩
      · subst z
        exact ⟨gK, nK, fK.2.1, fK.2.2.1, fun v h => by cases h⟩
  · have fD' : F' D = none := Same.free ex.fh hn'
    exact q D out F' _ (ex.wr hDn fD') hDn fD' upd_same hw'
/-- sorted(e, key=f) -/
theorem pe_sortedK {x : Str} {k n : Nat} {ps : List Str} {e : Expr} {t : TA} {p pos p2 p3 : Pos} (o : Ok X.prog X.w X.K X.mg X.base x k ps (spOrderKey n)) (hr : Room (k + 2) X.A) (hn : n ≤ 50) (hm : X.mg "sorted" = none) (ha : PA X [e] t) (hg : Gl X "sorted" := by rfl) (hx : Gl X x := by rfl)
    (hdb : (x == ("__debug__" : Str)) = false := by decide)
    (he : backTo pos (starEach [e] X.env) = (false, eval e X.env) :: backTo pos (starEach [] X.env) := by rfl) (hpl : (backTo pos (starEach [e] X.env)).any (·.1) = false := by rfl)
    (hall : (backToKw pos (keywordEach [⟨some "key", .Name x p2, p3⟩] X.env)).all (·.1.isSome) = true := by rfl) (hnone : (backToKw pos (keywordEach [⟨some "key", .Name x p2, p3⟩] X.env)).any (·.1.isNone) = false := by rfl)
    (hks : (backToKw pos (keywordEach [⟨some "key", .Name x p2, p3⟩] X.env)).filterMap (·.1) = [Str.ofString "key"] := by rfl) :
    PE X (.Call (.Name "sorted" p) [e] [⟨some "key", .Name x p2, p3⟩] pos) (tCKw (rSortedW X.K x n) t (tCons (tC (.ref (He.ga X.K x))) tNil)) := by
  have hmx : X.mg x = some (.ref (He.ga X.K x)) := by
    obtain ⟨fd, h, _⟩ := o
    exact h
  exact pe_callBK (cr_sortedW o hr hn) hg hm (by decide +kernel) ha (pk_cons (pe_glob hx hmx rfl hdb) pk_nil) (by decide) (by decide) he hpl hall hnone hks
end
end Ly

namespace Ly
open PySem PySem.Spec PyProof.Rows L2
/-! ### a dict whose keys are words that are tuples -/
abbrev Ent := W × Addr × Value
def DNO (P : Program) (w : World) (d : Addr) (xs : List Ent) : HO := .ext fun h => xs.length ≤ sizeLine ∧ (d == sysModules) = false ∧
  ∃ o es ep, h.get? d = some o ∧ o.ExactDict ∧ o.data = .dict es ep ∧ es.toList = xs.map (entryOfKey (nestedKind P w)) ∧ (xs.map (·.1)).Nodup
/-- it is tracked, and its keys are -/
structure DN (P : Program) (w : World) (H : Hp) (d : Addr) (xs : List Ent) : Prop where
  at' : H d = some (DNO P w d xs)
  keys : ∀ x ∈ xs, Wk H x.1 (.ref x.2.1) ∧ x.1.depth ≤ 8
section
variable {P : Program} {w : World} {H : Hp} {h : Heap} {d : Addr} {xs : List Ent}
theorem dno_ok (z : xs.length ≤ sizeLine) (hd : (d == sysModules) = false) (dd : h.DictOfH (nestedKind P w) d xs) : ObjOk P w H h d (DNO P w d xs) := by
  obtain ⟨o, es, ep, h1, h2, h3, h4, h5, h6⟩ := dd
  refine ⟨⟨z, hd, o, es, ep, h1, h2, h3, h4, h6⟩, ⟨o, h1⟩, ?_⟩
  rintro g1 g2 ⟨a1, a2, o', es', ep', b1, b2⟩ k
  exact ⟨a1, a2, o', es', ep', k _ b1, b2⟩
theorem dno_empty (h : Heap) (hb : sysModules < h.objs.size) : ObjOk P w H (h.push { cls := .type "dict", data := .dict #[] }) h.objs.size (DNO P w h.objs.size []) :=
  dno_ok (Nat.zero_le _) (by
    cases z : (h.objs.size == sysModules) with
    | false => rfl
    | true =>
      have := eq_of_beq z
      rw [this] at hb
      exact absurd hb (Nat.lt_irrefl _)) (Heap.DictOfH.new h)
/-- a tracked word that is a tuple is a key -/
theorem wk_is {k : W} {b : Addr} (ok : HOk P w H h) (e : Wk H k (.ref b)) (dp : k.depth ≤ 8) : (nestedKind P w).is h k b := ⟨(wk_plain (Same.refl H) ok e rfl).nested, dp⟩
theorem dn_of (ok : HOk P w H h) (e : DN P w H d xs) : xs.length ≤ sizeLine ∧ (d == sysModules) = false ∧ h.DictOfH (nestedKind P w) d xs := by
  obtain ⟨⟨z, y, o, es, ep, h1, h2, h3, h4, h5⟩, _⟩ := (show ObjOk P w H h d (DNO P w d xs) from ok d _ e.at')
  exact ⟨z, y, o, es, ep, h1, h2, h3, h4, fun x hx => wk_is ok (e.keys x hx).1 (e.keys x hx).2, h5⟩
theorem dnod_len (xs : List Ent) (k : W) (b : Addr) (v : Value) : (storedH xs k b v).length ≤ xs.length + 1 := by
  unfold storedH
  split <;> simp
end
/-- d[k] = True by a comprehension -/
theorem dn_set {X : Cx} {pn : List (Addr × Obj)} {τ : L2.St} {H : Hp} {s : Shared} {E : Value → Shared → Prop} {d b : Addr} {xs : List Ent} {k : W} {r : Value} {Q : Unit → Shared → Prop} (J : Inv X pn τ H s) (hu : X.A.units + 64 < cLine) (dn : DN X.prog X.w H d xs) (hz : xs.length < sizeLine)
    (wk : Wk H k (.ref b)) (dp : k.depth ≤ 8) (h : ∀ s2, Inv X pn τ (upd H d (DNO X.prog X.w d (storedH xs k b r))) s2 → Q () s2) : wpAny (model X.prog X.w) X.A (dictSet d (.ref b) r) Q E s := by
  obtain ⟨z, hd, dd⟩ := dn_of J.hok dn
  have hl : (storedH xs k b r).length ≤ sizeLine := by have := dnod_len xs k b r; omega
  refine wpAny_dictSet_heap (hsz := z) (knd := nestedKind X.prog X.w) (by show X.A.units + 8 < cLine; omega) (wk_is J.hok wk dp) dd fun h2 dd2 hs => h _ ?_
  have he : ∃ q, h2.get? d = some q := let ⟨q, _, _, hq, _⟩ := dd2; ⟨q, hq⟩
  exact d_write J (by rw [dn.at']; exact True.intro) hs he (dno_ok hl hd dd2)
/-- len(d) -/
def rLenN (P : Program) (w : World) : List V → Hp → VK → Prop := fun vs H Q => ∃ a xs, vs = [.ref a] ∧ DN P w H a xs ∧ Q (.int xs.length) H
theorem call_lenN {X : Cx} : CallR X (.builtin "len") (rLenN X.prog X.w) := by
  rintro pn s τ H vs us Q J r ⟨a, xs, rfl, dn, q⟩
  cases r with
  | cons r0 r1 =>
    cases r1
    cases (show _ = Value.ref a from r0)
    obtain ⟨z, hd, dd⟩ := dn_of J.hok dn
    have dk : s.heap.DictKeyed (nestedKind X.prog X.w) a (pairsH xs) := ⟨xs, dd, rfl⟩
    rw [sizeLine_eq] at z
    refine Calls.call_function_entry kind_len plain_len entry_len (args_len1 _) ?_
    unfold Builtin.«len»
    refine wpAny_bind (m := oneArg "len" _) (wpAny_pure ?_)
    refine wpAny_bind (m := callSpecial? (.ref a) (Str.ofString "__len__")) (wpAny_callSpecial?_slot (name := Str.ofString "__len__") dk.typeIs F.slot_dict_len (len_keyed hd dk ?_))
    show wpAny _ _ _ _ _ { s with toks := s.toks + 1 }
    rw [pairsH_length]
    refine wpAny_bind (wpAny_holding (wpAny_pure ?_))
    refine wpAny_bind (wpAny_letGo ?_)
    show wpAny _ _ (if ((xs.length : Nat) : Int) < 0 then _ else _) _ _ _
    rw [if_neg (by omega)]
    show wpAny _ _ (if ((xs.length : Nat) : Int) ≥ 2 ^ 63 then _ else _) _ _ _
    rw [if_neg (by omega)]
    exact wpAny_bind (wpAny_mkInt (wpAny_pure ⟨_, rfl, V.int xs.length, H, J.tok _, ⟨_, rfl⟩, q⟩))
/-- k in d -/
def rInN (P : Program) (w : World) : R2 := fun y x H Q => ∃ a b k xs, y = .ref b ∧ x = .ref a ∧ DN P w H a xs ∧ Wk H k (.ref b) ∧ k.depth ≤ 8 ∧ Q (.bl (atKey xs k).isSome) H
theorem op_inN {X : Cx} (hu : X.A.units + 64 < cLine) : OpR X (compareOp .In) (rInN X.prog X.w) := by
  rintro pn s τ H y x v u Q J ry rx ⟨a, b, k, xs, rfl, rfl, dn, wk, dp, q⟩
  cases (show _ = Value.ref a from rx)
  cases (show _ = Value.ref b from ry)
  obtain ⟨z, hd, dd⟩ := dn_of J.hok dn
  exact wpAny_in_heap (knd := nestedKind X.prog X.w) (by show X.A.units + 1 + 8 < cLine; omega) (wk_is J.hok wk dp) hd dd ⟨V.bl _, H, J.tok _, rfl, q⟩
section
variable {X : Cx}
/-- {k: True for .. in .. if ..}, the keys words -/
def tDcN (P : Program) (w : World) (wi : TI) (g : TG) (tt : TT) (tk tv : TE) (vs : List Nat) : TE := fun σ H Q => wi σ H fun Jt H1 => ∀ D, H1 D = none → ∃ Wq : Nat → Nat → Hp → Prop, (∃ m, Wq 0 m (upd H1 D (DNO P w D []))) ∧ ∀ i m H, Wq i m H →
  (Jt.stop i H ∧ Q (.ref D) H) ∨ (Jt.go i H ∧ ∃ Nx : Hp → Prop, (∀ H2, Nx H2 → ∃ m2, m2 < m ∧ Wq (i + 1) m2 H2) ∧ ∀ x H2, Jt.yld i H x H2 → g x (wipe σ vs) H2 fun σ2 H2 => wipe σ2 vs = wipe σ vs ∧ tt σ2 H2 fun b H3 =>
    if b = true then tk σ2 H3 fun y H4 => tv σ2 H4 fun z H5 => ∃ xs k b, y = .ref b ∧ z = .bl true ∧ Wk H5 k (.ref b) ∧ k.depth ≤ 8 ∧ DN P w H5 D xs ∧ xs.length < sizeLine ∧ Nx (upd H5 D (DNO P w D (storedH xs k b (.bool true)))) else Nx H3)
theorem dcN_core {pn : List (Addr × Obj)} {s : Shared} {τ : L2.St} {H : Hp} {Q : VK} {kX vX tg iter : Expr} {ifs : List Expr} {sco : Scope} {ows : List (Str × Nat)} {po pos' : Pos} {wi : TI} {g : TG} {tq : TT} {tk tv : TE} {uze : Option (Value → Sem Unit)} {Qf : Value → Shared → Prop}
    (hu : X.A.units + 64 < cLine) (hc : X.calm = true) (hN : X.N.Nodup) (I : Inv X pn τ H s) (hi : PI X tg iter wi) (okk : BlkOk X.N X.env.scope sco ows)
    (hg : ∀ (s : Shared) (H : Hp) (C : Addr) (cl : List (Str × Addr)) (fq : List Addr), PG (X.blk s H sco (compEnvC sco cl C X.env) fq) tg g) (ht : ∀ (s : Shared) (H : Hp) (C : Addr) (cl : List (Str × Addr)) (fq : List Addr), PTs (X.blk s H sco (compEnvC sco cl C X.env) fq) ifs tq)
    (hk : ∀ (s : Shared) (H : Hp) (C : Addr) (cl : List (Str × Addr)) (fq : List Addr), PE (X.blk s H sco (compEnvC sco cl C X.env) fq) kX tk)
    (he : ∀ (s : Shared) (H : Hp) (C : Addr) (cl : List (Str × Addr)) (fq : List Addr), PE (X.blk s H sco (compEnvC sco cl C X.env) fq) vX tv) (hs : ∀ x, foldedSetIterable iter X.env x = pure x)
    (h : tDcN X.prog X.w wi g tq tk tv (ows.map (·.2)) τ H Q)
    (hRR : ∀ D C sz m Gz, Inv X pn τ Gz sz → Q (.ref D) Gz → sz.heap.Ns C m → FpOk X pn Gz C → compPost (model X.prog X.w) X.A X.xe uze Qf (.ref D) C (.ok .next) sz) :
    wpAny (model X.prog X.w) X.A (comprehension (.DictComp kX vX [⟨tg, iter, ifs, 0⟩] sco po) sco X.env pos' newDict false (eval iter X.env) uze) Qf X.xe s := by
  have hfr : ∀ y ∈ sco.names, y.2 = .free → ∃ c, X.env.cells.lookup y.1 = some c := fun y hy e => by
    rcases okk.free y hy e with k | k
    · exact I.ok.has _ (.inl k)
    · exact I.ok.has _ (.inr k)
  refine wpAny_comprehension_free (use := uze) rfl hs (closure_ok hfr) okk.kind (fun y hy e => by rw [okk.uniq y hy, e])
    (thn (hi.run pn s τ H _ I h) fun xv sA hx => thn hx fun itv sB h2 => ?_)
  obtain ⟨it, fq, tn, J, G2, e, J2, T, sv2, f2, q⟩ := h2
  subst e
  refine wpAny_newObj_type (newEnv_comp ?_)
  generalize hD : sB.heap.objs.size = D
  have hDn : G2 D = none := J2.hok.fresh (Nat.le_of_eq hD)
  obtain ⟨Wq, ⟨m0, w0⟩, turn⟩ := q D hDn
  -- the new list
  generalize hs3 : ({ sB with heap := sB.heap.push { cls := .type "dict", data := .dict #[] } } : Shared) = sC
  have J3 : Inv X pn τ (upd G2 D (DNO X.prog X.w D [])) sC := by
    rw [← hs3]
    refine J2.laid (t' := sB.toks) (fun b o e => Heap.get?_push_of_some _ e) (Nat.le_of_eq hD) ?_
    rw [← hD]
    exact dno_empty sB.heap J2.big
  have h3 : sC.heap = sB.heap.push { cls := .type "dict", data := .dict #[] } := by rw [← hs3]
  have sz : ∀ b ∈ fq, b < sB.heap.objs.size := fun b hb => by
    obtain ⟨o, e, _⟩ := T.obj _ _ sv2 b hb
    exact Heap.lt_size e
  have f3 : ∀ b ∈ fq, FpOk X pn (upd G2 D (DNO X.prog X.w D [])) b ∧ b < sC.heap.objs.size := fun b hb => by
    have hlt := sz b hb
    refine ⟨⟨?_, (f2 b hb).2⟩, by rw [h3, Heap.size_push]; exact Nat.lt_succ_of_lt hlt⟩
    rw [upd_ne (by rw [← hD]; exact Nat.ne_of_lt hlt)]
    exact (f2 b hb).1
  have sv3 : tn 0 sC.heap := T.keep _ _ _ sv2 fun b _ o e => by rw [h3]; exact Heap.get?_push_of_some _ e
  have J4 := block_start J3 okk hN f3
  have pg := hg sC (upd G2 D (DNO X.prog X.w D [])) sC.heap.objs.size (cellsFrom (sC.heap.objs.size + 1) sco.names (cloFrom X.env.cells sco.names [])) fq
  have pt := ht sC (upd G2 D (DNO X.prog X.w D [])) sC.heap.objs.size (cellsFrom (sC.heap.objs.size + 1) sco.names (cloFrom X.env.cells sco.names [])) fq
  have pk := hk sC (upd G2 D (DNO X.prog X.w D [])) sC.heap.objs.size (cellsFrom (sC.heap.objs.size + 1) sco.names (cloFrom X.env.cells sco.names [])) fq
  have pe := he sC (upd G2 D (DNO X.prog X.w D [])) sC.heap.objs.size (cellsFrom (sC.heap.objs.size + 1) sco.names (cloFrom X.env.cells sco.names [])) fq
  show codeAny _ _ (.compStart (.DictComp kX vX [⟨tg, iter, ifs, 0⟩] sco po) 0 (.ref it) (.ref D) (compEnvC sco (cellsFrom (sC.heap.objs.size + 1) sco.names (cloFrom X.env.cells sco.names [])) sC.heap.objs.size X.env)) (compPost (model X.prog X.w) X.A X.xe uze Qf (.ref D) sC.heap.objs.size) { sC with heap := pushCells (sC.heap.push { cls := .type "dict", data := .dict #[] }) sco.names }
  have nfp : ∀ b ∈ fq, (upd G2 D (DNO X.prog X.w D [])) b = none := fun b hb => (f3 b hb).1.1
  generalize hce : compEnvC sco (cellsFrom (sC.heap.objs.size + 1) sco.names (cloFrom X.env.cells sco.names [])) sC.heap.objs.size X.env = cev at J4 pg pt pk pe ⊢
  have cL : cev.locals = sC.heap.objs.size := by subst hce; rfl
  generalize hH3 : upd G2 D (DNO X.prog X.w D []) = G3 at J3 J4 pg pt pk pe w0 nfp f3
  generalize hs4 : ({ sC with heap := pushCells (sC.heap.push { cls := .type "dict", data := .dict #[] }) sco.names } : Shared) = sD at J4 ⊢
  have sv4 : tn 0 sD.heap := T.keep _ _ _ sv3 fun b _ o e => by rw [← hs4]; exact pushCells_keeps _ _ _ _ (Heap.get?_push_of_some _ e)
  have stat : ∀ {τz : L2.St} {Gz : Hp} {sz : Shared}, Inv (X.blk sC G3 sco cev fq) [] τz Gz sz → (∀ b ∈ fq, Gz b = none) → ∀ b ∈ fq, FpOk (X.blk sC G3 sco cev fq) [] Gz b := fun {τz Gz sz} Jz hn b hb =>
    ⟨hn b hb, (Jz.ok.exf b hb).1, Jz.ok.exfs b hb, .inl hb, fun x c e => (Jz.ok.exf b hb).2 x c e, fun p hp => absurd (show p ∈ ([] : List (Addr × Obj)) ++ [] from hp) (by simp)⟩
  have loop : codeAny (model X.prog X.w) X.A (.compLoop (.DictComp kX vX [⟨tg, iter, ifs, 0⟩] sco po) 0 (.ref it) (.ref D) cev) (compPost (model X.prog X.w) X.A X.xe uze Qf (.ref D) sC.heap.objs.size) sD := by
    refine compLoop_anyD (fun n sz => ∃ i Gz, Inv (X.blk sC G3 sco cev fq) [] (wipe τ (ows.map (·.2))) Gz sz ∧ tn i sz.heap ∧ (∀ b ∈ fq, Gz b = none) ∧ Wq i n Gz) ?_ m0 ⟨0, G3, J4, sv4, nfp, w0⟩
    rintro n sE ⟨i, G5, J5, sv5, n5, w5⟩
    rcases turn i n G5 w5 with ⟨stop, qq⟩ | ⟨go, Nx, hNx, step⟩
    · have td := T.done (X.blk sC G3 sco cev fq) rfl rfl rfl hc i [] sE _ G5 (fun _ _ => False) J5 (stat J5 n5) sv5 stop
      refine thnF td fun r sF ⟨hr, J6⟩ => ?_
      subst hr
      -- back in the def's context
      have J7 : Inv X pn τ G5 sF := J3.call' (ch := fq) J6.os J6.base J6.hok J6.bare fun b hb => ⟨(f3 b hb).1.2.2.2.1, (f3 b hb).1.2.1, (f3 b hb).1.2.2.2.2.1, (f3 b hb).1.2.2.2.2.2⟩
      have nC : G5 sC.heap.objs.size = none := by
        have z : G5 cev.locals = none := J6.free
        rw [cL] at z
        exact z
      obtain ⟨m, hn, _⟩ := J6.loc
      have hn : sF.heap.Ns cev.locals m := hn
      rw [cL] at hn
      exact hRR D sC.heap.objs.size sF m G5 J7 qq hn (J3.fpOk (Nat.le_refl _) nC)
    · have ti := T.item (X.blk sC G3 sco cev fq) rfl rfl rfl hc i [] sE _ G5 (fun _ _ => False) J5 (stat J5 n5) sv5 go
      refine thnF ti fun r sF ⟨u, hr, h6⟩ => ?_
      subst hr
      refine thnF h6 fun _ sG ⟨x, G7, J7, r7, y7, sv7, n7⟩ => ?_
      have J7z := J7.pinned (stat J7 n7) (T.obj _ _ sv7)
      refine thnF (pg.run _ sG _ G7 x u _ J7z r7 (step x G7 y7)) fun _ sH ⟨τ8, G8, J8, hw8, q8⟩ => ?_
      refine thnF (pt.run _ sH τ8 G8 _ J8 q8) fun b sI ⟨G9, I9, q9⟩ => ?_
      -- the turn's end
      have fin : ∀ {sz : Shared} {Gz : Hp}, Inv (X.blk sC G3 sco cev fq) ([] ++ pinsAt fq sG.heap) τ8 Gz sz → Nx Gz → ∃ m, m < n ∧ ∃ i Gz, Inv (X.blk sC G3 sco cev fq) [] (wipe τ (ows.map (·.2))) Gz sz ∧ tn i sz.heap ∧ (∀ b ∈ fq, Gz b = none) ∧ Wq i m Gz := fun {sz Gz} Jz nx => by
        obtain ⟨m', hm, w'⟩ := hNx Gz nx
        have pin' : ∀ b ∈ fq, ∀ o, sG.heap.get? b = some o → sz.heap.get? b = some o ∧ Gz b = none := fun b hb o e =>
          let z := Jz.pin (b, o) (List.mem_append_right _ (List.mem_append_right _ (mem_pinsAt hb e)))
          ⟨z.1, z.2.1⟩
        have hl : (wipe τ (ows.map (·.2))).length = τ8.length := by rw [← hw8, wipe_length]
        refine ⟨m', hm, i + 1, Gz, (Jz.unpinned (pins := [])).weak hl (fun j v e => ?_), T.keep _ _ _ sv7 fun b hb o e => (pin' b hb o e).1, fun b hb => ?_, w'⟩
        · rw [← hw8] at e
          exact (wipe_some e).1
        · obtain ⟨o, e, _⟩ := T.obj _ _ sv7 b hb
          exact (pin' b hb o e).2
      cases b with
      | false =>
        simp only [Bool.false_eq_true, if_false] at q9 ⊢
        exact fin I9 q9
      | true =>
        simp only [if_true] at q9 ⊢
        refine thnF (pk.run _ sI τ8 G9 _ I9 q9) fun z sJ ⟨yk, G10, I10, r10, q10⟩ => ?_
        refine thnF (pe.run _ sJ τ8 G10 _ I10 q10) fun z2 sK ⟨yv, G11, I11, r11, xs, k, b, ey, ez, wk, dep, dn, small, nx⟩ => ?_
        subst ey ez
        cases (show z = Value.ref b from r10)
        cases (show z2 = Value.bool true from r11)
        exact dn_set (X := X.blk sC G3 sco cev fq) I11 (by show X.A.units + 64 < cLine; exact hu) dn small wk dep fun sL I12 => fin I12 nx
  exact codeAny_compStart_dict loop (T.self X.A 0 _ _ _ sv4 loop)
theorem pe_dcN {kX vX tg iter : Expr} {ifs : List Expr} {sco : Scope} {ows : List (Str × Nat)} {po : Pos} {wi : TI} {g : TG} {tq : TT} {tk tv : TE} (hu : X.A.units + 64 < cLine) (hc : X.calm = true) (hN : X.N.Nodup) (hi : PI X tg iter wi) (okk : BlkOk X.N X.env.scope sco ows)
    (hg : ∀ (s : Shared) (H : Hp) (C : Addr) (cl : List (Str × Addr)) (fq : List Addr), PG (X.blk s H sco (compEnvC sco cl C X.env) fq) tg g) (ht : ∀ (s : Shared) (H : Hp) (C : Addr) (cl : List (Str × Addr)) (fq : List Addr), PTs (X.blk s H sco (compEnvC sco cl C X.env) fq) ifs tq)
    (hk : ∀ (s : Shared) (H : Hp) (C : Addr) (cl : List (Str × Addr)) (fq : List Addr), PE (X.blk s H sco (compEnvC sco cl C X.env) fq) kX tk)
    (he : ∀ (s : Shared) (H : Hp) (C : Addr) (cl : List (Str × Addr)) (fq : List Addr), PE (X.blk s H sco (compEnvC sco cl C X.env) fq) vX tv) (hs : ∀ x, foldedSetIterable iter X.env x = pure x := by intro _; rfl) :
    PE X (.DictComp kX vX [⟨tg, iter, ifs, 0⟩] sco po) (tDcN X.prog X.w wi g tq tk tv (ows.map (·.2))) := by
  refine ⟨fun pn s τ H Q I h => ?_⟩
  rw [arm_eval_DictComp]
  refine dcN_core hu hc hN I hi okk hg ht hk he hs h fun D C sz m Gz Jz q hn f => ⟨m, hn, fun h'' sb => ?_⟩
  obtain ⟨f0, f1, f2, f3, f4, f5⟩ := f
  exact ⟨.ref D, Gz, Jz.turned (t' := sz.toks) (fun b o hb e => (sb.2 b hb).trans e) f0 f1 f3 f4 f5, rfl, q⟩
end
end Ly

namespace Ly
open PySem PySem.Spec PyProof.Rows L2
/-! ### each word once -/
def eOnce {α : Type} [DecidableEq α] (l : List α) : List α := l.foldl (fun acc k => if k ∈ acc then acc else acc ++ [k]) []
section
variable {α : Type} [DecidableEq α]
theorem eOnce_snoc (l : List α) (k : α) : eOnce (l ++ [k]) = if k ∈ eOnce l then eOnce l else eOnce l ++ [k] := by
  unfold eOnce
  rw [List.foldl_append]
  rfl
theorem eOnce_take {l : List α} {i : Nat} {k : α} (h : l[i]? = some k) : eOnce (l.take (i + 1)) = if k ∈ eOnce (l.take i) then eOnce (l.take i) else eOnce (l.take i) ++ [k] := by
  rw [List.take_add_one, h]
  exact eOnce_snoc _ _
theorem rev_ind {p : List α → Prop} (h0 : p []) (hs : ∀ l k, p l → p (l ++ [k])) : ∀ l, p l := by
  intro l
  have : ∀ m : List α, p m.reverse := by
    intro m
    induction m with
    | nil => exact h0
    | cons a m ih => rw [List.reverse_cons]; exact hs _ _ ih
  simpa using this l.reverse
theorem eOnce_mem : ∀ (l : List α) (k : α), k ∈ eOnce l ↔ k ∈ l := by
  refine rev_ind (by simp [eOnce]) fun l a ih k => ?_
  rw [eOnce_snoc]
  split
  · rename_i h
    have := (ih a).mp h
    rw [ih]
    constructor
    · intro z; simp [z]
    · intro z
      rcases List.mem_append.mp z with z | z
      · exact z
      · rw [List.mem_singleton.mp z]; exact this
  · simp [ih]
theorem eOnce_nodup : ∀ l : List α, (eOnce l).Nodup := by
  refine rev_ind (by simp [eOnce]) fun l a ih => ?_
  rw [eOnce_snoc]
  split
  · exact ih
  · rename_i h
    rw [List.nodup_append]
    refine ⟨ih, by simp, ?_⟩
    intro x hx y hy
    rw [List.mem_singleton.mp hy]
    rintro rfl
    exact h hx
theorem eOnce_le : ∀ l : List α, (eOnce l).length ≤ l.length := by
  refine rev_ind (by simp [eOnce]) fun l a ih => ?_
  rw [eOnce_snoc]
  split
  · simp; omega
  · simp; omega
theorem eOnce_self : ∀ l : List α, (eOnce l).length = l.length ↔ l.Nodup := by
  refine rev_ind (by simp [eOnce]) fun l a ih => ?_
  have q := eOnce_le l
  have m := eOnce_mem l a
  rw [eOnce_snoc, List.nodup_append]
  split
  · rename_i h
    constructor
    · intro z; simp at z; omega
    · rintro ⟨_, _, z⟩
      exact absurd rfl (z a (m.mp h) a (by simp))
  · rename_i h
    simp only [List.length_append, List.length_singleton]
    constructor
    · intro z
      refine ⟨ih.mp (by omega), by simp, ?_⟩
      intro x hx y hy
      rw [List.mem_singleton.mp hy]
      rintro rfl
      exact h (m.mpr hx)
    · rintro ⟨z, _, _⟩
      have := ih.mpr z
      omega
end
theorem atKey_some {xs : List Ent} {k : W} : (atKey xs k).isSome = decide (k ∈ xs.map (·.1)) := by
  unfold atKey
  rw [Option.isSome_map]
  induction xs with
  | nil => simp
  | cons x xs ih =>
    rw [List.find?_cons]
    by_cases h : x.1 = k
    · simp [h]
    · have h2 : ¬ k = x.1 := fun z => h z.symm
      simp only [h, decide_false]
      rw [ih]
      simp [h2]
theorem storedH_keys {xs : List Ent} {k : W} {b : Addr} {v : Value} : (storedH xs k b v).map (·.1) = if k ∈ xs.map (·.1) then xs.map (·.1) else xs.map (·.1) ++ [k] := by
  unfold storedH
  rw [atKey_some]
  by_cases h : k ∈ xs.map (·.1)
  · rw [if_pos h, if_pos (by simpa using h), List.map_map]
    apply List.map_congr_left
    intro x _
    show (putAt k v x).1 = x.1
    unfold putAt
    split <;> rfl
  · rw [if_neg h, if_neg (by simpa using h)]
    simp
theorem storedH_mem {xs : List Ent} {k : W} {b : Addr} {v : Value} {x : Ent} (h : x ∈ storedH xs k b v) : (∃ y ∈ xs, y.1 = x.1 ∧ y.2.1 = x.2.1) ∨ (x.1 = k ∧ x.2.1 = b) := by
  unfold storedH at h
  split at h
  · obtain ⟨y, hy, rfl⟩ := List.mem_map.mp h
    refine .inl ⟨y, hy, ?_⟩
    unfold putAt
    split <;> exact ⟨rfl, rfl⟩
  · rcases List.mem_append.mp h with h | h
    · exact .inl ⟨x, h, rfl, rfl⟩
    · rw [List.mem_singleton.mp h]; exact .inr ⟨rfl, rfl⟩
section
variable {P : Program} {w : World} {K : PySem.W.Frag}
theorem DN.up {H H2 : Hp} {d : Addr} {xs : List Ent} (h : Same H H2) (x : DN P w H d xs) : DN P w H2 d xs := ⟨h _ _ x.at', fun y hy => ⟨(x.keys y hy).1.up h, (x.keys y hy).2⟩⟩
/-- {k: True for .. in l} over a list that stands frozen: the keys, each once -/
theorem dcg_list {tl : TE} {a : Addr} {xs : List V} {g : TG} {tk : TE} {vs : List Nat} {σ : L2.St} {F H : Hp} {Q : VK} (hl : ∀ R : VK, R (.ref a) H → tl σ H R) (hx : F a = some (.lst xs)) (hF : Same F H) (hn : xs.length < sizeLine)
    (ks : List W) (hk : ks.length = xs.length) (dep : ∀ k ∈ ks, k.depth ≤ 8)
    (hs : ∀ (i : Nat) (x : V) (k : W) F1 H1 (Kk : VK), xs[i]? = some x → ks[i]? = some k → Ex [] F H F1 H1 → (∀ b F4 H4, Ex [] F1 H1 F4 H4 → Wk F4 k (.ref b) → Kk (.ref b) H4) → g x (wipe σ vs) H1 fun σ2 H2 => wipe σ2 vs = wipe σ vs ∧ tk σ2 H2 Kk)
    (hd : ∀ D es F1 H1, Ex [] F H F1 H1 → DN P w F1 D es → es.map (·.1) = eOnce ks → es.length = (eOnce ks).length → Q (.ref D) H1) : tDcN P w (iList K tl) g tYes tk (tC (.bl true)) vs σ H Q := by
  refine hl _ ⟨a, rfl, ⟨xs, SqL.of (hF _ _ hx)⟩, ?_⟩
  intro D hD
  have fD : F D = none := Same.free hF hD
  refine ⟨fun i m H1 => m = xs.length - i ∧ i ≤ xs.length ∧ ∃ es F1, Ex [] F H F1 H1 ∧ F1 D = none ∧ H1 D = some (DNO P w D es) ∧ (∀ x ∈ es, Wk F1 x.1 (.ref x.2.1) ∧ x.1.depth ≤ 8) ∧ es.map (·.1) = eOnce (ks.take i), ⟨xs.length, by simp, Nat.zero_le _, [], F, Ex.new hF hD, fD, upd_same, by simp, by simp [eOnce]⟩, ?_⟩
  rintro i m H1 ⟨rfl, hi, es, F1, e1, f1, d1, w1, p1⟩
  have l1 : es.length ≤ i := by
    have q := eOnce_le (ks.take i)
    rw [← p1] at q
    simp at q
    omega
  have sq : SqL K H1 a xs := SqL.of (e1.fh _ _ (e1.ff _ _ hx))
  by_cases hlt : i < xs.length
  · refine .inr ⟨⟨xs, xs[i], sq, by simp [hlt]⟩, fun H2 => ∃ es F2, Ex [] F H F2 H2 ∧ F2 D = none ∧ H2 D = some (DNO P w D es) ∧ (∀ x ∈ es, Wk F2 x.1 (.ref x.2.1) ∧ x.1.depth ≤ 8) ∧ es.map (·.1) = eOnce (ks.take (i + 1)), fun H2 q => ⟨xs.length - (i + 1), by omega, rfl, hlt, q⟩, fun x H2 y => ?_⟩
    obtain ⟨rfl, hx2⟩ := y
    have hx3 := hx2 xs sq
    have hi2 : i < ks.length := by omega
    have hki : ks[i]? = some ks[i] := by simp [hi2]
    have h3 := hs i x ks[i] F1 H2 (fun y H4 => ∃ es k b, y = .ref b ∧ V.bl true = .bl true ∧ Wk H4 k (.ref b) ∧ k.depth ≤ 8 ∧ DN P w H4 D es ∧ es.length < sizeLine ∧ ∃ es' F2, Ex [] F H F2 (upd H4 D (DNO P w D (storedH es k b (.bool true)))) ∧ F2 D = none ∧ upd H4 D (DNO P w D (storedH es k b (.bool true))) D = some (DNO P w D es') ∧ (∀ x ∈ es', Wk F2 x.1 (.ref x.2.1) ∧ x.1.depth ≤ 8) ∧ es'.map (·.1) = eOnce (ks.take (i + 1))) hx3 hki e1 (fun b F4 H4 e4 wk => by
      have f4 : F4 D = none := e4.nf f1 (ne_none d1)
      have dp : ks[i].depth ≤ 8 := dep _ (List.getElem_mem hi2)
      refine ⟨es, ks[i], b, rfl, rfl, wk.up e4.fh, dp, ⟨e4.at d1, fun z hz => ⟨((w1 z hz).1.up e4.ff).up e4.fh, (w1 z hz).2⟩⟩, by omega, storedH es ks[i] b (.bool true), F4, (e1.trans e4).wr hD f4, f4, upd_same, fun z hz => ?_, ?_⟩
      · rcases storedH_mem hz with ⟨y, hy, q1, q2⟩ | ⟨q1, q2⟩
        · have := w1 y hy
          rw [q1, q2] at this
          exact ⟨this.1.up e4.ff, this.2⟩
        · rw [q1, q2]; exact ⟨wk, dp⟩
      · rw [storedH_keys, p1, eOnce_take hki])
    exact h3
  · have ei : i = xs.length := by omega
    subst ei
    rw [List.take_of_length_le (by omega)] at p1
    refine .inl ⟨⟨xs, sq, Nat.le_refl _⟩, hd D es _ H1 (e1.frz hD d1 f1) ⟨upd_same, fun z hz => ⟨(w1 z hz).1.up (Same.upd f1), (w1 z hz).2⟩⟩ p1 (by rw [← p1]; simp)⟩
/-! ### loops -/
theorem forg_gen {Jt : It} {n : Nat} {G : Hp → Prop} {xs : List V} (wk : Walk Jt n G (YAt xs)) {g : TG} {tb : TS} {D : Ends} {σ : L2.St} {F H : Hp} (M : List Addr) (hF : Same F H) (hG : ∀ F' H', Same F F' → Same F' H' → G H') (I : Nat → L2.St → Hp → Hp → Prop) (h0 : I 0 σ F H)
    (hs : ∀ i x σ1 F1 H1 (Nk : L2.St → Hp → Prop), i < n → xs[i]? = some x → Ex M F H F1 H1 → I i σ1 F1 H1 → (∀ σ2 F2 H2, Ex M F1 H1 F2 H2 → I (i + 1) σ2 F2 H2 → Nk σ2 H2) → g x σ1 H1 fun σ2 H2 => tb { D with nx := Nk, ct := Nk, bk := D.nx } σ2 H2)
    (hd : ∀ σ1 F1 H1, Ex M F H F1 H1 → I n σ1 F1 H1 → D.nx σ1 H1) :
    ∃ W : Nat → Nat → L2.St → Hp → Prop, (∃ m, W 0 m σ H) ∧ ∀ i m σ H, W i m σ H →
      (Jt.stop i H ∧ D.nx σ H) ∨ (Jt.go i H ∧ ∃ N : L2.St → Hp → Prop, (∀ σ' H', N σ' H' → ∃ m', m' < m ∧ W (i + 1) m' σ' H') ∧ ∀ x H', Jt.yld i H x H' → g x σ H' fun σ2 H2 => tb { D with nx := N, ct := N, bk := D.nx } σ2 H2) :=
  for_it wk (fun i σ1 H1 => ∃ F1, Ex M F H F1 H1 ∧ I i σ1 F1 H1) ⟨F, Ex.refl hF, h0⟩ (fun i σ1 H1 _ ⟨F1, e, _⟩ => hG F1 H1 e.ff e.fh)
    (fun i x σ1 H1 H2 hi ⟨F1, e, p⟩ y => by
      obtain ⟨rfl, hx⟩ := y
      exact hs i x σ1 F1 H2 _ hi hx e p fun σ2 F2 H3 e2 p2 => ⟨F2, e.trans e2, p2⟩)
    fun σ1 H1 ⟨F1, e, p⟩ => hd σ1 F1 H1 e p
theorem forg_list {tl : TE} {a : Addr} {xs : List V} {g : TG} {tb : TS} {D : Ends} {σ : L2.St} {F H : Hp} (M : List Addr) (hl : ∀ R : VK, R (.ref a) H → tl σ H R) (hx : F a = some (.lst xs)) (hF : Same F H) (I : Nat → L2.St → Hp → Hp → Prop) (h0 : I 0 σ F H)
    (hs : ∀ i x σ1 F1 H1 (Nk : L2.St → Hp → Prop), i < xs.length → xs[i]? = some x → Ex M F H F1 H1 → I i σ1 F1 H1 → (∀ σ2 F2 H2, Ex M F1 H1 F2 H2 → I (i + 1) σ2 F2 H2 → Nk σ2 H2) → g x σ1 H1 fun σ2 H2 => tb { D with nx := Nk, ct := Nk, bk := D.nx } σ2 H2)
    (hd : ∀ σ1 F1 H1, Ex M F H F1 H1 → I xs.length σ1 F1 H1 → D.nx σ1 H1) : tFor (iList K tl) g tb D σ H :=
  r_for (hl _ ⟨a, rfl, ⟨xs, SqL.of (hF _ _ hx)⟩, forg_gen walk_listF M hF (fun F' H' h1 h2 => h2 _ _ (h1 _ _ hx)) I h0 hs hd⟩)
theorem forg_tup {tl : TE} {a : Addr} {xs : List V} {g : TG} {tb : TS} {D : Ends} {σ : L2.St} {F H : Hp} (M : List Addr) (hl : ∀ R : VK, R (.ref a) H → tl σ H R) (hx : F a = some (.tup xs)) (hF : Same F H) (I : Nat → L2.St → Hp → Hp → Prop) (h0 : I 0 σ F H)
    (hs : ∀ i x σ1 F1 H1 (Nk : L2.St → Hp → Prop), i < xs.length → xs[i]? = some x → Ex M F H F1 H1 → I i σ1 F1 H1 → (∀ σ2 F2 H2, Ex M F1 H1 F2 H2 → I (i + 1) σ2 F2 H2 → Nk σ2 H2) → g x σ1 H1 fun σ2 H2 => tb { D with nx := Nk, ct := Nk, bk := D.nx } σ2 H2)
    (hd : ∀ σ1 F1 H1, Ex M F H F1 H1 → I xs.length σ1 F1 H1 → D.nx σ1 H1) : tFor (iTup K tl) g tb D σ H :=
  r_for (hl _ ⟨a, rfl, ⟨xs, SqT.of (hF _ _ hx)⟩, forg_gen walk_tupF M hF (fun F' H' h1 h2 => h2 _ _ (h1 _ _ hx)) I h0 hs hd⟩)
theorem forg_rng {ta : TA} {n : Nat} {g : TG} {tb : TS} {D : Ends} {σ : L2.St} {F H : Hp} (M : List Addr) (hl : ∀ R : List V → Hp → Prop, R [.int n] H → ta σ H R) (hn : n < sizeLine) (hF : Same F H) (I : Nat → L2.St → Hp → Hp → Prop) (h0 : I 0 σ F H)
    (hs : ∀ i σ1 F1 H1 (Nk : L2.St → Hp → Prop), i < n → Ex M F H F1 H1 → I i σ1 F1 H1 → (∀ σ2 F2 H2, Ex M F1 H1 F2 H2 → I (i + 1) σ2 F2 H2 → Nk σ2 H2) → g (.int (i : Nat)) σ1 H1 fun σ2 H2 => tb { D with nx := Nk, ct := Nk, bk := D.nx } σ2 H2)
    (hd : ∀ σ1 F1 H1, Ex M F H F1 H1 → I n σ1 F1 H1 → D.nx σ1 H1) : tFor (iRng1 ta) g tb D σ H := by
  have hz := sizeLine_eq
  refine r_for (hl _ ⟨_, rfl, by omega, by omega, ?_⟩)
  have e : ((n : Int).toNat) = n := by omega
  rw [e]
  refine forg_gen walk_rg M hF (fun _ _ _ _ => trivial) I h0 (fun i x σ1 F1 H1 Nk hi hx e1 p k => ?_) hd
  obtain ⟨_, rfl⟩ := rgL_get hx
  have := hs i σ1 F1 H1 Nk hi e1 p k
  simpa using this
/-- for i, x in enumerate(l) -/
theorem forg_enum {ta : TA} {a : Addr} {xs : List V} {g : TG} {tb : TS} {D : Ends} {σ : L2.St} {F H : Hp} (M : List Addr) (hl : ∀ R : List V → Hp → Prop, R [.ref a] H → ta σ H R) (hx : F a = some (.lst xs)) (hF : Same F H) (I : Nat → L2.St → Hp → Hp → Prop) (h0 : I 0 σ F H)
    (hs : ∀ i x T σ1 F1 H1 (Nk : L2.St → Hp → Prop), i < xs.length → xs[i]? = some x → Ex M F H F1 H1 → I i σ1 F1 H1 → H1 T = none → (∀ σ2 F2 H2, Ex M F1 (upd H1 T (.tup [.int (i : Nat), x])) F2 H2 → I (i + 1) σ2 F2 H2 → Nk σ2 H2) → g (.ref T) σ1 (upd H1 T (.tup [.int (i : Nat), x])) fun σ2 H2 => tb { D with nx := Nk, ct := Nk, bk := D.nx } σ2 H2)
    (hd : ∀ σ1 F1 H1, Ex M F H F1 H1 → I xs.length σ1 F1 H1 → D.nx σ1 H1) : tFor (iEnum K ta) g tb D σ H := by
  refine r_for (hl _ ⟨a, xs, rfl, SqL.of (hF _ _ hx), ?_⟩)
  refine for_it walk_enum (fun i σ1 H1 => ∃ F1, Ex M F H F1 H1 ∧ I i σ1 F1 H1) ⟨F, Ex.refl hF, h0⟩ (fun i σ1 H1 _ ⟨F1, e, _⟩ => SqL.of (e.fh _ _ (e.ff _ _ hx)))
    (fun i y σ1 H1 H2 hi ⟨F1, e, p⟩ yy => ?_) fun σ1 H1 ⟨F1, e, p⟩ => hd σ1 F1 H1 e p
  obtain ⟨T, x, z, rfl, hT, rfl, e1, e2⟩ := yy
  cases e1
  exact hs i z T σ1 F1 H1 _ hi e2 e p hT fun σ2 F2 H3 e3 p2 => ⟨F2, e.trans ((Ex.new e.fh hT).trans e3), p2⟩
end
/-! ### an own class -/
section
variable (P : Program) (w : World) (K : PySem.W.Frag) (mg : Str → Option Value) (base : Heap)
def OkM (f : Addr) (k : Nat) (ps : List Str) (sp : Sp) : Prop := ∃ fd, Binds K fd ps [] ∧ FnOk P w K mg base CX0 k f fd ps sp
end
section
variable {P : Program} {w : World} {K : PySem.W.Frag} {mg : Str → Option Value} {base : Heap}
theorem okm_of {x q : Str} {f : Addr} {params : Arguments} {body : List Stmt} {scope : Scope} {N ps : List Str} {k : Nat} {sp : Sp}
    (F : ∃ fd, FunD K x q params body scope [] [] f fd) (S : FnScope N ps scope)
    (hb : ∀ (kV doc pm : Value) (an : Option Addr) (cdv ct : Value) (us : List Value), us.length = ps.length → bindArgs (PySem.W.fnOf x q params body scope .none kV doc pm an cdv ct) ⟨us, []⟩ = pure (ps.zip us))
    (len : ∀ vs H Q E, sp vs H Q E → vs.length = ps.length)
    (hbody : ∀ (cdv : Value) (A : Around) (outer : List Env) (s : Shared) (H : Hp) (vs : List V) (Q : VK) (E : XK), Room k (A.deeper (envOfC q scope s.heap.objs.size f cdv)) → sp vs H Q E →
      ∃ t, PSs (cxOf CX0 P w K mg base N q scope f cdv A outer s H E).nox body t ∧ t { nx := fun _ H' => Q .non H', rt := Q } (start N vs) H) : OkM P w K mg base f (k + 1) ps sp := by
  obtain ⟨fd, F⟩ := F
  refine ⟨fd, F.bindsN hb, F.ok S len fun cdv A outer s H vs Q E hr h => ?_⟩
  obtain ⟨t, h1, h2⟩ := hbody cdv A outer s H vs Q E hr h
  exact ⟨t, h1.nox, h2⟩
end
section
variable {X : Cx}
theorem pe_mkO {x : Str} {f C : Addr} {k j : Nat} {ps : List Str} {sp : Sp} {e : Expr} {es : List Expr} {t : TA} {p pos : Pos} (M : Mk X.K C f) (o : OkM X.prog X.w X.K X.mg X.base f k ps sp) (hr : Room j X.A) (hm : X.mg x = some (.ref C)) (ha : PA X (e :: es) t) (hk : k + 1 ≤ j := by first | decide | omega) (hg : Gl X x := by rfl)
    (hdb : (x == ("__debug__" : Str)) = false := by decide) (he : starEach (e :: es) X.env = (false, eval e X.env) :: starEach es X.env := by rfl) (hpl : (backTo pos (starEach es X.env)).any (·.1) = false := by rfl) :
    PE X (.Call (.Name x p) (e :: es) [] pos) (tMake C sp [] E0 t) := by
  obtain ⟨fd, a, b⟩ := o
  exact pe_make M b (hr.mono hk) hg hm a .nil pass0 ha hdb he hpl
/-- len(o) by the class's own __len__ -/
def rLenO (C : Addr) (sp : Sp) : List V → Hp → VK → Prop := fun vs H Q => ∃ a dx fs, vs = [.ref a] ∧ H a = some (.ins C dx fs) ∧ sp [.ref a] H (fun v H2 => ∃ n : Nat, v = .int n ∧ n < sizeLine ∧ Q (.int n) H2) E0
theorem call_lenO {C f : Addr} {k j : Nat} {ps : List Str} {sp : Sp} (me : Meth X.K C "__len__" f) (o : OkM X.prog X.w X.K X.mg X.base f k ps sp) (hr : Room j X.A) (hk : k + 1 ≤ j := by first | decide | omega) : CallR X (.builtin "len") (rLenO C sp) := by
  rintro pn s τ H vs us Q J r ⟨a, dx, fs, rfl, ha, q⟩
  obtain ⟨fd, bi, FN⟩ := o
  cases r with
  | cons r0 r1 =>
    cases r1
    cases (show _ = Value.ref a from r0)
    obtain ⟨mA, J1, _⟩ := ins_get J.hok ha
    obtain ⟨od, J2, _⟩ := J1.look
    have sb : Room k X.A.in1 := (hr.mono hk).in1
    have z0 := sizeLine_eq
    refine Calls.call_function_entry kind_len plain_len entry_len (args_len1 _) ?_
    unfold Builtin.«len»
    refine wpAny_bind (m := oneArg "len" _) (wpAny_pure ?_)
    refine wpAny_bind (m := callSpecial? (.ref a) (Str.ofString "__len__")) (PySem.W.special_fn (name := Str.ofString "__len__") J.kIn J2 me.at_ (beq_iff_eq.mp me.fn) ?_)
    have e0 : Env0 X.prog X.w X.K X.mg X.base X.A.in1 X.stack s H := by
      have e := J.env0
      exact ⟨by show X.A.frames = _; exact e.frames, e.mod, e.bs, e.bsz, e.funs, e.frf, e.hok, e.bare⟩
    have hl := FN.len _ _ _ _ q
    have r2 : Vals [V.ref a] [Value.ref a] := .cons rfl .nil
    refine wpAny_call (codeAny_mono (FN.run X.A.in1 X.stack s H ⟨[.ref a], []⟩ [.ref a] [.ref a] _ E0 sb e0 (by
      have := bi s [.ref a] J.kIn (by simpa using hl)
      simpa using this) r2 q) fun r s2 hq => ?_)
    cases r with
    | error e => exact pass0 pn τ H s e s2 J hq
    | ok fl =>
      cases fl with
      | next => exact False.elim hq
      | brk => exact False.elim hq
      | cont => exact False.elim hq
      | ret u =>
        obtain ⟨v, H2, J3, rv, n, rfl, hn, q3⟩ := J.after hq
        obtain ⟨tk, rfl⟩ := (show ∃ t, u = Value.int n t from rv)
        refine wpAny_bind (wpAny_holding (wpAny_pure ?_))
        refine wpAny_bind (wpAny_letGo ?_)
        show wpAny _ _ (if ((n : Nat) : Int) < 0 then _ else _) _ _ _
        rw [if_neg (by omega)]
        show wpAny _ _ (if ((n : Nat) : Int) ≥ 2 ^ 63 then _ else _) _ _ _
        rw [if_neg (by omega)]
        exact wpAny_bind (wpAny_mkInt (wpAny_pure ⟨_, rfl, V.int n, H2, J3.tok _, ⟨_, rfl⟩, q3⟩))
end
/-! ### all that came new, frozen at once -/
def frzAll (H F1 H1 : Hp) : Hp := fun b => if (H b).isNone then H1 b else F1 b
theorem frzAll_new {H F1 H1 : Hp} {b : Addr} (h : H b = none) : frzAll H F1 H1 b = H1 b := by simp [frzAll, h]
theorem Ex.all {M : List Addr} {F H F1 H1 : Hp} (hF : Same F H) (e : Ex M F H F1 H1) : Ex M F H (frzAll H F1 H1) H1 where
  ff := fun b o z => by
    have h1 := hF b o z
    show (if (H b).isNone then H1 b else F1 b) = some o
    rw [h1]
    exact e.ff b o z
  fh := fun b o z => by
    unfold frzAll at z
    split at z
    · exact z
    · exact e.fh b o z
  hh := e.hh
  dm := e.dm
  fr := fun b z => by
    unfold frzAll at z
    cases hb : H b with
    | none => exact .inr rfl
    | some o =>
      rw [hb] at z
      rcases e.fr b z with q | q
      · exact .inl q
      · rw [hb] at q; cases q
theorem Ex.all_le {M : List Addr} {F H F1 H1 : Hp} (e : Ex M F H F1 H1) : Same F1 (frzAll H F1 H1) := fun b o z => by
  unfold frzAll
  split
  · exact e.fh b o z
  · exact z
end Ly

namespace Ly
open PySem PySem.Spec PyProof.Rows L2
/-! ### words compared -/
mutual
theorem eqv_data : ∀ a b : W, PyData.eqv a.data b.data = NestedKey.beq a b
  | .none, .none => rfl
  | .none, .num _ => rfl
  | .none, .text _ => rfl
  | .none, .tup _ => rfl
  | .num _, .none => rfl
  | .num _, .num _ => rfl
  | .num _, .text _ => rfl
  | .num _, .tup _ => rfl
  | .text _, .none => rfl
  | .text _, .num _ => rfl
  | .text _, .text _ => rfl
  | .text _, .tup _ => rfl
  | .tup _, .none => rfl
  | .tup _, .num _ => rfl
  | .tup _, .text _ => rfl
  | .tup xs, .tup ys => by
    have := eqv_datas xs ys
    simpa [NestedKey.data, PyData.eqv, NestedKey.beq] using this
theorem eqv_datas : ∀ a b : List W, PyData.eqvAll (NestedKey.datas a) (NestedKey.datas b) = NestedKey.beqAll a b
  | [], [] => rfl
  | [], _ :: _ => rfl
  | _ :: _, [] => rfl
  | x :: xs, y :: ys => by
    have h1 := eqv_data x y
    have h2 := eqv_datas xs ys
    simp only [NestedKey.datas, PyData.eqvAll, NestedKey.beqAll, h1, h2]
end
theorem eqv_dec (a b : W) : PyData.eqv a.data b.data = decide (a = b) := by rw [eqv_data, NestedKey.decide_eq]
mutual
theorem wk_dp {K : PySem.W.Frag} {F H : Hp} (hF : Same F H) : ∀ {k : W} {v : V}, Wk F k v → Dp K H v k.data
  | .none, v, e => by
    simp only [Wk] at e
    subst e
    exact .non
  | .num i, v, e => by
    rw [wk_num.mp e]
    exact .int i
  | .text s, v, e => by
    rw [wk_text.mp e]
    exact .str s
  | .tup ks, v, e => by
    obtain ⟨a, vs, rfl, h1, h2, _⟩ := wk_tup.mp e
    exact .tup (SqT.of (hF _ _ h1)) (wks_dp hF h2)
theorem wks_dp {K : PySem.W.Frag} {F H : Hp} (hF : Same F H) : ∀ {ks : List W} {vs : List V}, Wks F ks vs → DpAll K H vs (NestedKey.datas ks)
  | [], vs, e => by
    rw [wks_nil.mp e]
    exact .nil
  | k :: ks, vs, e => by
    obtain ⟨v, r, rfl, e2, e3⟩ := wks_cons.mp e
    exact .cons (wk_dp hF e2) (wks_dp hF e3)
end
/-- a word that may be compared -/
structure Wok (k : W) : Prop where
  fl : full k = true
  lay : k.data.canLay0 = true
  dp : k.depth ≤ 3
theorem Wok.shaped {k : W} (h : Wok k) : SeqAt.shaped k.data = true := by
  unfold SeqAt.shaped
  rw [h.lay, depth_data]
  have := h.dp
  simp
  omega
theorem lay_datas : ∀ {ks : List W}, (∀ k ∈ ks, k.data.canLay0 = true) → PyData.canLayAll0 (NestedKey.datas ks) = true
  | [], _ => rfl
  | k :: ks, h => by
    simp only [NestedKey.datas, PyData.canLayAll0, Bool.and_eq_true]
    exact ⟨h k (by simp), lay_datas fun x hx => h x (by simp [hx])⟩
theorem dall_le {n : Nat} : ∀ {ks : List W}, (∀ k ∈ ks, k.depth ≤ n) → NestedKey.depthAll ks ≤ n
  | [], _ => Nat.zero_le _
  | k :: ks, h => by
    simp only [NestedKey.depthAll]
    have h1 := h k (by simp)
    have h2 := dall_le fun x hx => h x (List.mem_cons_of_mem _ hx)
    omega
theorem fulls_of : ∀ {ks : List W}, (∀ k ∈ ks, full k = true) → fulls ks = true
  | [], _ => rfl
  | k :: ks, h => by
    simp only [fulls, Bool.and_eq_true]
    exact ⟨h k (by simp), fulls_of fun x hx => h x (List.mem_cons_of_mem _ hx)⟩
/-- a list of such words (of depth 4 at most) -/
theorem shaped_list {ks : List W} (h1 : ∀ k ∈ ks, k.data.canLay0 = true) (h2 : ∀ k ∈ ks, k.depth ≤ 4) : SeqAt.shaped (.list (NestedKey.datas ks)) = true := by
  have a := lay_datas h1
  have b := dall_le h2
  have c := depths_datas ks
  unfold SeqAt.shaped
  simp only [PyData.canLay0, a, PyData.depth, c, Bool.true_and, decide_eq_true_eq]
  omega
theorem any_datas (k : W) : ∀ ks : List W, ((NestedKey.datas ks).any fun z => PyData.eqv z k.data) = decide (k ∈ ks)
  | [] => by simp [NestedKey.datas]
  | x :: xs => by
    simp only [NestedKey.datas, List.any_cons]
    rw [eqv_dec, any_datas k xs]
    by_cases h : x = k
    · simp [h]
    · have : ¬ k = x := fun z => h z.symm
      simp [h, this]
/-! ### roads -/
structure Rd where
  a : Nat
  b : Nat
  o : W
  i : W
namespace Rd
def w (r : Rd) : W := .tup [.num r.a, .num r.b, r.o, r.i]
def un : W → Rd
  | .tup [.num a, .num b, o, i] => ⟨a.toNat, b.toNat, o, i⟩
  | _ => ⟨0, 0, .none, .none⟩
theorem un_w (r : Rd) : un r.w = r := by
  unfold w un
  simp
theorem inj {r s : Rd} (h : r.w = s.w) : r = s := by rw [← un_w r, h, un_w]
instance : DecidableEq Rd := fun r s => decidable_of_iff (r.w = s.w) ⟨inj, fun h => by rw [h]⟩
def rev (r : Rd) : Rd := ⟨r.b, r.a, r.i, r.o⟩
theorem rev_rev (r : Rd) : r.rev.rev = r := rfl
/-- the end of a road, with its door -/
def ew (r : Rd) : W := .tup [.num r.a, r.o]
def sh (k : Nat) (r : Rd) : Rd := ⟨r.a + k, r.b + k, r.o, r.i⟩
structure OkN (n : Nat) (r : Rd) : Prop where
  ha : r.a < n
  hb : r.b < n
  ho : Wok r.o
  hi : Wok r.i
theorem OkN.rev {n : Nat} {r : Rd} (h : OkN n r) : OkN n r.rev := ⟨h.hb, h.ha, h.hi, h.ho⟩
theorem OkN.sh {n k : Nat} {r : Rd} (h : OkN n r) : OkN (n + k) (r.sh k) := ⟨by have := h.ha; show r.a + k < _; omega, by have := h.hb; show r.b + k < _; omega, h.ho, h.hi⟩
theorem OkN.mono {n m : Nat} {r : Rd} (h : OkN n r) (l : n ≤ m) : OkN m r := ⟨by have := h.ha; omega, by have := h.hb; omega, h.ho, h.hi⟩
theorem OkN.full {n : Nat} {r : Rd} (h : OkN n r) : full r.w = true := by simp [w, Ly.full, fulls, h.ho.fl, h.hi.fl]
theorem OkN.depth {n : Nat} {r : Rd} (h : OkN n r) : r.w.depth ≤ 4 := by
  have h1 := h.ho.dp
  have h2 := h.hi.dp
  simp [w, NestedKey.depth, NestedKey.depthAll]
  omega
theorem OkN.lay {n : Nat} {r : Rd} (h : OkN n r) : r.w.data.canLay0 = true := by simp [w, NestedKey.data, NestedKey.datas, PyData.canLay0, PyData.canLayAll0, h.ho.lay, h.hi.lay]
theorem OkN.shaped {n : Nat} {r : Rd} (h : OkN n r) : SeqAt.shaped r.w.data = true := by
  unfold SeqAt.shaped
  rw [h.lay, depth_data]
  have := h.depth
  simp
  omega
theorem wk {F : Hp} {r : Rd} {v : V} (h : Wk F r.w v) : ∃ p o i, v = .ref p ∧ F p = some (.tup [.int r.a, .int r.b, o, i]) ∧ Wk F r.o o ∧ Wk F r.i i := by
  obtain ⟨p, vs, rfl, h1, h2, _⟩ := wk_tup.mp h
  obtain ⟨v1, t1, rfl, q1, h2⟩ := wks_cons.mp h2
  obtain ⟨v2, t2, rfl, q2, h2⟩ := wks_cons.mp h2
  obtain ⟨v3, t3, rfl, q3, h2⟩ := wks_cons.mp h2
  obtain ⟨v4, t4, rfl, q4, h2⟩ := wks_cons.mp h2
  rw [wks_nil.mp h2] at h1
  rw [wk_num.mp q1, wk_num.mp q2] at h1
  exact ⟨p, v3, v4, rfl, h1, q3, q4⟩
/-- a road that is just laid -/
theorem wk_new {F : Hp} {p : Addr} {a b : Nat} {o i : W} {vo vi : V} (hp : F p = none) (h1 : Wk F o vo) (h2 : Wk F i vi) : Wk (upd F p (.tup [.int a, .int b, vo, vi])) (Rd.mk a b o i).w (.ref p) :=
  Ly.wk_new hp (.cons (wk_num.mpr rfl) (.cons (wk_num.mpr rfl) (.cons h1 (.one h2))))
end Rd
/-- a list of roads -/
abbrev Rds (F : Hp) (rs : List Rd) (vs : List V) : Prop := Wks F (rs.map Rd.w) vs
theorem Rds.get {F : Hp} {rs : List Rd} {vs : List V} {i : Nat} {v : V} (h : Rds F rs vs) (e : vs[i]? = some v) : ∃ r, rs[i]? = some r ∧ Wk F r.w v := by
  obtain ⟨k, h1, h2⟩ := Wks.get h e
  rw [List.getElem?_map] at h1
  obtain ⟨r, h3, rfl⟩ := Option.map_eq_some_iff.mp h1
  exact ⟨r, h3, h2⟩
theorem Rds.len {F : Hp} {rs : List Rd} {vs : List V} (h : Rds F rs vs) : vs.length = rs.length := by
  have := Wks.len h
  simpa using this
theorem Rds.app {F : Hp} {rs : List Rd} {vs : List V} {r : Rd} {v : V} (h : Rds F rs vs) (e : Wk F r.w v) : Rds F (rs ++ [r]) (vs ++ [v]) := by
  show Wks F ((rs ++ [r]).map Rd.w) _
  rw [List.map_append]
  exact Wks.app h (Wks.one e)
theorem perm_un {l : List W} {rs : List Rd} (h : l.Perm (rs.map Rd.w)) : ∃ rs' : List Rd, rs'.Perm rs ∧ l = rs'.map Rd.w := by
  refine ⟨l.map Rd.un, ?_, ?_⟩
  · have := h.map Rd.un
    rw [List.map_map] at this
    have e : (Rd.un ∘ Rd.w) = id := by funext r; exact Rd.un_w r
    rw [e, List.map_id] at this
    exact this
  · rw [List.map_map]
    symm
    have : ∀ x ∈ l, (Rd.w ∘ Rd.un) x = x := fun x hx => by
      obtain ⟨r, _, rfl⟩ := List.mem_map.mp (h.mem_iff.mp hx)
      show Rd.w (Rd.un r.w) = r.w
      rw [Rd.un_w]
    rw [List.map_congr_left this]
    simp
/-- words of roads, kept one by one -/
theorem mem_rds {n : Nat} {rs : List Rd} (h : ∀ r ∈ rs, r.OkN n) {k : W} (hk : k ∈ rs.map Rd.w) : full k = true ∧ k.depth ≤ 4 ∧ k.data.canLay0 = true := by
  obtain ⟨r, hr, rfl⟩ := List.mem_map.mp hk
  exact ⟨(h r hr).full, (h r hr).depth, (h r hr).lay⟩
end Ly

namespace Ly
open PySem PySem.Spec PyProof.Rows L2
theorem iteF' {c : Bool} {A B : Prop} (e : c = false) (h : B) : if c = true then A else B := by
  subst e
  exact iteF h
theorem iteT' {c : Bool} {A B : Prop} (e : c = true) (h : A) : if c = true then A else B := by
  subst e
  exact iteT h
/-- what was written came new: nothing that stood is written -/
theorem Ex.newly {M : List Addr} {F H F1 H1 F2 H2 : Hp} (a : Ex [] F H F1 H1) (b : Ex M F1 H1 F2 H2) (hM : ∀ p ∈ M, H p = none) : Ex [] F H F2 H2 where
  ff := Same.trans a.ff b.ff
  fh := b.fh
  hh := fun c o _ e => b.hh c o (fun z => by rw [hM c z] at e; cases e) (a.hh c o (by simp) e)
  dm := fun c e => b.dm c (a.dm c e)
  fr := fun c e => by
    rcases b.fr c e with h | h
    · exact a.fr c h
    · right
      cases z : H c with
      | none => rfl
      | some o => exact absurd h (a.dm c (ne_none z))
theorem Ex.newly' {M M' : List Addr} {F H F1 H1 F2 H2 : Hp} (a : Ex M' F H F1 H1) (b : Ex M F1 H1 F2 H2) (hM : ∀ p ∈ M, H p = none ∨ p ∈ M') : Ex M' F H F2 H2 where
  ff := Same.trans a.ff b.ff
  fh := b.fh
  hh := fun c o h e => b.hh c o (fun z => by
    rcases hM c z with q | q
    · rw [q] at e; cases e
    · exact h q) (a.hh c o h e)
  dm := fun c e => b.dm c (a.dm c e)
  fr := fun c e => by
    rcases b.fr c e with h | h
    · exact a.fr c h
    · right
      cases z : H c with
      | none => rfl
      | some o => exact absurd h (a.dm c (ne_none z))
/-! ### a net -/
def netFs (l1 l2 l3 l4 : Addr) : List (Str × V) := [("own_signs", .ref l1), ("own_roads", .ref l2), ("own_in", .ref l3), ("own_out", .ref l4)]
/-- lists of roads, by place -/
def Lots (F : Hp) (l : Addr) (n : Nat) (f : Nat → List Rd) : Prop := ∃ vs : List V, F l = some (.lst vs) ∧ vs.length = n ∧ ∀ k, k < n → ∃ q us, vs[k]? = some (.ref q) ∧ F q = some (.lst us) ∧ Rds F (f k) us
structure NetF (C : Addr) (F : Hp) (sg : List W) (rs : List Rd) (x : V) : Prop where
  ex : ∃ (a dx l1 l2 l3 l4 : Addr) (svs rvs : List V), x = .ref a ∧ F a = some (.ins C dx (netFs l1 l2 l3 l4)) ∧ F l1 = some (.lst svs) ∧ Wks F sg svs ∧ F l2 = some (.lst rvs) ∧ Rds F rs rvs ∧
    Lots F l3 sg.length (fun k => rs.filter fun r => decide (r.b = k)) ∧ Lots F l4 sg.length (fun k => rs.filter fun r => decide (r.a = k))
  pos : 0 < sg.length
  sml : sg.length < 100000
  sok : ∀ k ∈ sg, Wok k
  rok : ∀ r ∈ rs, r.OkN sg.length
  rsm : rs.length < 100000
theorem Lots.up {F F2 : Hp} (h : Same F F2) {l : Addr} {n : Nat} {f : Nat → List Rd} (x : Lots F l n f) : Lots F2 l n f := by
  obtain ⟨vs, a, b, c⟩ := x
  refine ⟨vs, h _ _ a, b, fun k hk => ?_⟩
  obtain ⟨q, us, d1, d2, d3⟩ := c k hk
  exact ⟨q, us, d1, h _ _ d2, Wks.up h d3⟩
theorem NetF.up {C : Addr} {F F2 : Hp} (h : Same F F2) {sg : List W} {rs : List Rd} {x : V} (n : NetF C F sg rs x) : NetF C F2 sg rs x := by
  obtain ⟨⟨a, dx, l1, l2, l3, l4, svs, rvs, e, h1, h2, h3, h4, h5, h6, h7⟩, p1, p2, p3, p4, p5⟩ := n
  exact ⟨⟨a, dx, l1, l2, l3, l4, svs, rvs, e, h _ _ h1, h _ _ h2, h3.up h, h _ _ h4, Wks.up h h5, h6.up h, h7.up h⟩, p1, p2, p3, p4, p5⟩
end Ly

namespace Ly
open PySem PySem.Spec PyProof.Rows L2
/-! ### lists within a list, each written further -/
structure LotG (qs : List Addr) (F H : Hp) (R : Nat → List V → Prop) : Prop where
  nd : qs.Nodup
  at' : ∀ j q, qs[j]? = some q → F q = none ∧ ∃ us, H q = some (.lst us) ∧ R j us
section
variable {qs : List Addr} {F H F2 H2 : Hp} {R R2 : Nat → List V → Prop} {M : List Addr}
theorem LotG.ex (l : LotG qs F H R) (e : Ex M F H F2 H2) (h : ∀ q ∈ qs, q ∉ M) (r : ∀ j us, R j us → R2 j us) : LotG qs F2 H2 R2 := by
  refine ⟨l.nd, fun j q hq => ?_⟩
  obtain ⟨a, us, b, c⟩ := l.at' j q hq
  exact ⟨e.nf a (ne_none b), us, e.at b (h q (List.mem_of_getElem? hq)), r j us c⟩
theorem nodup_at {α : Type} {l : List α} (h : l.Nodup) {i j : Nat} {x : α} (a : l[i]? = some x) (b : l[j]? = some x) : i = j := by
  obtain ⟨ha, ea⟩ := List.getElem?_eq_some_iff.mp a
  obtain ⟨hb, eb⟩ := List.getElem?_eq_some_iff.mp b
  have pw := List.pairwise_iff_getElem.mp h
  rcases Nat.lt_trichotomy i j with z | z | z
  · exact absurd (ea.trans eb.symm) (pw i j ha hb z)
  · exact z
  · exact absurd (eb.trans ea.symm) (pw j i hb ha z)
theorem LotG.put (l : LotG qs F H R) {j : Nat} {q : Addr} {us : List V} (hq : qs[j]? = some q) (h1 : R2 j us) (h2 : ∀ k us, k ≠ j → R k us → R2 k us) : LotG qs F (upd H q (.lst us)) R2 := by
  refine ⟨l.nd, fun k p hp => ?_⟩
  obtain ⟨a, vs, b, c⟩ := l.at' k p hp
  by_cases e : k = j
  · subst e
    rw [hq] at hp
    cases hp
    exact ⟨a, us, upd_same, h1⟩
  · refine ⟨a, vs, ?_, h2 k vs e c⟩
    rw [upd_ne]
    · exact b
    · rintro rfl
      exact e (nodup_at l.nd hp hq)
theorem LotG.app {qs ps : List Addr} {R' : Nat → List V → Prop} (l : LotG qs F H R) (m : LotG ps F H R') (hd : ∀ q ∈ qs, q ∉ ps) : LotG (qs ++ ps) F H (fun j us => if j < qs.length then R j us else R' (j - qs.length) us) := by
  refine ⟨?_, fun j q hq => ?_⟩
  · rw [List.nodup_append]
    exact ⟨l.nd, m.nd, fun a ha b hb z => hd a ha (by rw [z]; exact hb)⟩
  · by_cases h : j < qs.length
    · rw [List.getElem?_append_left h] at hq
      obtain ⟨a, us, b, c⟩ := l.at' j q hq
      exact ⟨a, us, b, by rw [if_pos h]; exact c⟩
    · rw [List.getElem?_append_right (by omega)] at hq
      obtain ⟨a, us, b, c⟩ := m.at' _ q hq
      exact ⟨a, us, b, by rw [if_neg h]; exact c⟩
theorem LotG.imp (l : LotG qs F H R) (r : ∀ j us, R j us → R2 j us) : LotG qs F H R2 := ⟨l.nd, fun j q hq => by
  obtain ⟨a, us, b, c⟩ := l.at' j q hq
  exact ⟨a, us, b, r j us c⟩⟩
end
/-- [[] for x in l] -/
theorem lcg_nils {K : PySem.W.Frag} {tl : TE} {a : Addr} {xs : List V} {j : Nat} {vs : List Nat} {σ : L2.St} {F H : Hp} {Q : VK} (hl : ∀ R : VK, R (.ref a) H → tl σ H R) (hx : F a = some (.lst xs)) (hF : Same F H) (hn : xs.length < sizeLine)
    (hw : ∀ x : V, wipe ((wipe σ vs).set j (some x)) vs = wipe σ vs)
    (hd : ∀ D qs H1, Ex [] F H F H1 → H D = none → H1 D = some (.lst (qs.map V.ref)) → qs.length = xs.length → D ∉ qs → (∀ q ∈ qs, H q = none) → LotG qs F H1 (fun _ us => us = []) → Q (.ref D) H1) :
    tLc (iList K tl) (gName j) tYes (tLst tNil) vs σ H Q := by
  refine hl _ ⟨a, rfl, ⟨xs, SqL.of (hF _ _ hx)⟩, ?_⟩
  intro D hD
  have fD : F D = none := Same.free hF hD
  refine lc_it walk_listF (fun i H1 => ∃ qs : List Addr, Ex [] F H F H1 ∧ H1 D = some (.lst (qs.map V.ref)) ∧ qs.length = i ∧ D ∉ qs ∧ (∀ q ∈ qs, H q = none) ∧ LotG qs F H1 (fun _ us => us = [])) ⟨[], Ex.new hF hD, upd_same, rfl, by simp, by simp, ⟨List.nodup_nil, by simp⟩⟩ (fun i H1 _ ⟨_, e, _⟩ => e.fh _ _ hx) ?_ ?_
  · rintro i x H1 H2 hi ⟨qs, e, d1, l1, d2, n1, lo⟩ ⟨rfl, hx2⟩
    refine ⟨hw x, Nat.zero_le _, fun p hp => ?_⟩
    have ep : Ex [] F H2 F (upd H2 p (.lst [])) := Ex.new e.fh hp
    have hpD : D ≠ p := ne_of_none d1 hp
    have hHp : H p = none := by
      cases z : H p with
      | none => rfl
      | some o => exact absurd hp (e.dm p (ne_none z))
    have d3 : (upd H2 p (.lst [])) D = some (.lst (qs.map V.ref)) := ep.at d1
    refine ⟨_, d3, by simp; omega, qs ++ [p], (e.trans ep).wr hD fD, by rw [upd_same]; simp, by simp [l1], by simp [d2, hpD], ?_, ?_⟩
    · intro q hq
      rcases List.mem_append.mp hq with z | z
      · exact n1 q z
      · rw [List.mem_singleton.mp z]; exact hHp
    · have lo2 := lo.ex ep (by simp) (R2 := fun _ us => us = []) (fun _ _ h => h)
      have pnew : p ∉ qs := fun z => by
        obtain ⟨k, hk⟩ := List.getElem?_of_mem z
        obtain ⟨_, us, b, _⟩ := lo.at' k p hk
        rw [hp] at b
        cases b
      refine ⟨?_, fun k q hq => ?_⟩
      · rw [List.nodup_append]
        exact ⟨lo.nd, by simp, fun x hx y hy z => pnew (by rw [← List.mem_singleton.mp hy, ← z]; exact hx)⟩
      · have qD : q ≠ D := by
          rintro rfl
          have := List.mem_of_getElem? hq
          simp [d2, hpD] at this
        rw [upd_ne qD]
        by_cases hk : k < qs.length
        · rw [List.getElem?_append_left hk] at hq
          exact lo2.at' k q hq
        · rw [List.getElem?_append_right (by omega)] at hq
          have : q = p := by
            rcases hk2 : k - qs.length with _ | m
            · rw [hk2] at hq; simpa using hq.symm
            · rw [hk2] at hq; simp at hq
          rw [this, upd_same]
          exact ⟨Same.free e.fh hp, [], rfl, rfl⟩
  · rintro H1 ⟨qs, e, d1, l1, d2, n1, lo⟩
    exact hd D qs H1 e hD d1 l1 d2 n1 lo
end Ly

namespace Ly
open PySem PySem.Spec PyProof.Rows L2
theorem Ex.drop {M : List Addr} {F H F2 H2 : Hp} (e : Ex M F H F2 H2) : Ex M F H F H2 := ⟨Same.refl F, fun b o z => e.fh b o (e.ff b o z), e.hh, e.dm, fun b z => .inl z⟩
/-! ### what is reached -/
inductive Rch (g : Nat → List Nat) (s : Nat) : Nat → Prop where
  | refl : Rch g s s
  | step {u v : Nat} : Rch g s u → v ∈ g u → Rch g s v
theorem nodup_sub {α : Type} [DecidableEq α] : ∀ {l m : List α}, l.Nodup → (∀ x ∈ l, x ∈ m) → l.length ≤ m.length
  | [], m, _, _ => Nat.zero_le _
  | a :: l, m, h, s => by
    have h2 := List.nodup_cons.mp h
    have am : a ∈ m := s a (by simp)
    have := nodup_sub (l := l) (m := m.erase a) h2.2 fun x hx => by
      have ne : x ≠ a := by
        rintro rfl
        exact h2.1 hx
      exact (List.mem_erase_of_ne ne).mpr (s x (by simp [hx]))
    rw [List.length_erase_of_mem am] at this
    have pos := List.length_pos_of_mem am
    simp only [List.length_cons]
    omega
theorem nodup_lt {l : List Nat} {n : Nat} (h : l.Nodup) (s : ∀ v ∈ l, v < n) : l.length ≤ n := by
  have := nodup_sub (m := List.range n) h fun x hx => List.mem_range.mpr (s x hx)
  simpa using this
theorem full_iff {l : List Nat} {n : Nat} (h : l.Nodup) (s : ∀ v ∈ l, v < n) : l.length = n ↔ ∀ v, v < n → v ∈ l := by
  constructor
  · intro e v hv
    by_cases z : v ∈ l
    · exact z
    · have := nodup_lt (l := v :: l) (n := n) (List.nodup_cons.mpr ⟨z, h⟩) fun x hx => by
        rcases List.mem_cons.mp hx with y | y
        · rw [y]; exact hv
        · exact s x y
      simp at this
      omega
  · intro a
    have h1 := nodup_lt h s
    have h2 := nodup_sub (l := List.range n) (m := l) List.nodup_range fun x hx => a x (List.mem_range.mp hx)
    simp at h2
    omega
theorem Rch.lt {g : Nat → List Nat} {n s v : Nat} (hs : s < n) (hg : ∀ u, u < n → ∀ v ∈ g u, v < n) (h : Rch g s v) : v < n := by
  induction h with
  | refl => exact hs
  | step _ hv ih => exact hg _ ih _ hv
/-- a set that is closed holds all that is reached -/
theorem Rch.sub {g : Nat → List Nat} {s v : Nat} {l : List Nat} (hs : s ∈ l) (hc : ∀ u ∈ l, ∀ v ∈ g u, v ∈ l) (h : Rch g s v) : v ∈ l := by
  induction h with
  | refl => exact hs
  | step _ hv ih => exact hc _ ih _ hv
theorem Rch.trans {g : Nat → List Nat} {s u v : Nat} (a : Rch g s u) (b : Rch g u v) : Rch g s v := by
  induction b with
  | refl => exact a
  | step _ hv ih => exact .step ih hv
theorem Rch.mono {g g' : Nat → List Nat} {s v : Nat} (h : ∀ u v, v ∈ g u → v ∈ g' u) (a : Rch g s v) : Rch g' s v := by
  induction a with
  | refl => exact .refl
  | step _ hv ih => exact .step ih (h _ _ hv)
/-- the other way round -/
theorem Rch.back {g g' : Nat → List Nat} {s v : Nat} (h : ∀ u v, v ∈ g u → u ∈ g' v) (a : Rch g s v) : Rch g' v s := by
  induction a with
  | refl => exact .refl
  | step _ hv ih => exact (Rch.step .refl (h _ _ hv)).trans ih
/-! ### the graphs of a net -/
def gOut (rs : List Rd) (u : Nat) : List Nat := (rs.filter fun r => decide (r.a = u)).map (·.b)
def gIn (rs : List Rd) (u : Nat) : List Nat := (rs.filter fun r => decide (r.b = u)).map (·.a)
def gAll : List Rd → Nat → List Nat
  | [], _ => []
  | r :: rs, u => (if r.a = u then [r.b] else []) ++ ((if r.b = u then [r.a] else []) ++ gAll rs u)
theorem gAll_app (rs ss : List Rd) (u : Nat) : gAll (rs ++ ss) u = gAll rs u ++ gAll ss u := by
  induction rs with
  | nil => rfl
  | cons r rs ih => simp [gAll, ih]
theorem mem_gOut {rs : List Rd} {u v : Nat} : v ∈ gOut rs u ↔ ∃ r ∈ rs, r.a = u ∧ r.b = v := by
  unfold gOut
  constructor
  · intro h
    obtain ⟨r, hr, e⟩ := List.mem_map.mp h
    rw [List.mem_filter] at hr
    exact ⟨r, hr.1, by simpa using hr.2, e⟩
  · rintro ⟨r, hr, e1, e2⟩
    exact List.mem_map.mpr ⟨r, List.mem_filter.mpr ⟨hr, by simpa using e1⟩, e2⟩
theorem mem_gIn {rs : List Rd} {u v : Nat} : v ∈ gIn rs u ↔ ∃ r ∈ rs, r.b = u ∧ r.a = v := by
  unfold gIn
  constructor
  · intro h
    obtain ⟨r, hr, e⟩ := List.mem_map.mp h
    rw [List.mem_filter] at hr
    exact ⟨r, hr.1, by simpa using hr.2, e⟩
  · rintro ⟨r, hr, e1, e2⟩
    exact List.mem_map.mpr ⟨r, List.mem_filter.mpr ⟨hr, by simpa using e1⟩, e2⟩
theorem mem_gAll {u v : Nat} : ∀ {rs : List Rd}, v ∈ gAll rs u ↔ ∃ r ∈ rs, (r.a = u ∧ r.b = v) ∨ (r.b = u ∧ r.a = v)
  | [] => by simp [gAll]
  | r :: rs => by
    have ih := mem_gAll (u := u) (v := v) (rs := rs)
    simp only [gAll, List.mem_append, ih]
    constructor
    · rintro (h | h | ⟨s, hs, h⟩)
      · split at h
        · rename_i e
          exact ⟨r, by simp, .inl ⟨e, (List.mem_singleton.mp h).symm⟩⟩
        · simp at h
      · split at h
        · rename_i e
          exact ⟨r, by simp, .inr ⟨e, (List.mem_singleton.mp h).symm⟩⟩
        · simp at h
      · exact ⟨s, by simp [hs], h⟩
    · rintro ⟨s, hs, h⟩
      rcases List.mem_cons.mp hs with e | e
      · subst e
        rcases h with ⟨h1, h2⟩ | ⟨h1, h2⟩
        · left; simp [h1, h2]
        · right; left; simp [h1, h2]
      · right; right; exact ⟨s, e, h⟩
/-! ### a dict of ints by a comprehension over one int -/
def ents (l : List Nat) : List (Key × V) := l.map fun (v : Nat) => ((Sum.inl (v : Int) : Key), V.bl true)
theorem ents_val (l : List Nat) (v : Nat) : (valV (ents l) (.inl (v : Int))).isSome = decide (v ∈ l) := by
  rw [← valV_any]
  unfold ents
  rw [List.any_map]
  induction l with
  | nil => simp
  | cons a l ih =>
    simp only [List.any_cons, ih, Function.comp]
    by_cases h : a = v
    · simp [h]
    · have h2 : ¬ v = a := fun z => h z.symm
      have h3 : ¬ ((Sum.inl (a : Int) : Key) = Sum.inl (v : Int)) := fun z => h (by
        have := Sum.inl.inj z
        omega)
      simp [h2, h3]
theorem ents_put {l : List Nat} {v : Nat} (h : v ∉ l) : putK (ents l) (.inl (v : Int)) (.bl true) = ents (l ++ [v]) := by
  rw [putK_new _ (by
    have := ents_val l v
    cases z : valV (ents l) (.inl (v : Int)) with
    | none => rfl
    | some o =>
      rw [z] at this
      simp [h] at this)]
  simp [ents]
theorem dc_one {K : PySem.W.Frag} {tl : TE} {a : Addr} {i : Nat} {j : Nat} {vs : List Nat} {σ : L2.St} {H : Hp} {Q : VK} (hl : ∀ R : VK, R (.ref a) H → tl σ H R) (hx : H a = some (.lst [.int (i : Nat)])) (hj : j < (wipe σ vs).length)
    (hw : ∀ x : V, wipe ((wipe σ vs).set j (some x)) vs = wipe σ vs) (hd : ∀ D, H D = none → Q (.ref D) (upd H D (.dK (ents [i])))) :
    tDc (iList K tl) (gName j) tYes (tVar j) (tC (.bl true)) vs σ H Q := by
  refine hl _ ⟨a, rfl, ⟨_, SqL.of hx⟩, fun D hD => ?_⟩
  refine ⟨fun k m H1 => (k = 0 ∧ m = 1 ∧ H1 = upd H D (.dK [])) ∨ (k = 1 ∧ m = 0 ∧ H1 = upd H D (.dK (ents [i]))), ⟨1, .inl ⟨rfl, rfl, rfl⟩⟩, ?_⟩
  have ha : a ≠ D := ne_of_none hx hD
  rintro k m H1 (⟨rfl, rfl, rfl⟩ | ⟨rfl, rfl, rfl⟩)
  · have sq : SqL K (upd H D (.dK [])) a [.int (i : Nat)] := SqL.of (by rw [upd_ne ha]; exact hx)
    refine .inr ⟨⟨_, _, sq, rfl⟩, fun H2 => H2 = upd H D (.dK (ents [i])), fun H2 e => ⟨0, by omega, .inr ⟨rfl, rfl, e⟩⟩, fun x H2 y => ?_⟩
    obtain ⟨rfl, y⟩ := y
    have ey := y _ sq
    cases ey
    refine ⟨hw _, ?_⟩
    refine ⟨.int (i : Nat), by simp [hj], [], .inl (i : Int), rfl, upd_same, by show 0 < sizeLine; rw [sizeLine_eq]; omega, ?_⟩
    rw [upd_upd]
    rfl
  · have sq : SqL K (upd H D (.dK (ents [i]))) a [.int (i : Nat)] := SqL.of (by rw [upd_ne ha]; exact hx)
    exact .inl ⟨⟨_, sq, Nat.le_refl _⟩, hd D hD⟩
end Ly

namespace Ly
open PySem PySem.Spec PyProof.Rows L2
section
variable {X : Cx}
theorem sw_trueD {ka va : Expr} {gs : List Comprehension} {sco : Scope} {po py : Pos} {y : Str} {l : Nat} {ev : Env} (hk : ev.scope.kind = .function) (hy : ev.scope.names.lookup y = some .local) (hl : (py.line == po.line) = true)
    (ha : (sco.names.any fun (n, k) => n == y && (k == .local || k == .cell)) = false) : swapsWith (.DictComp ka va gs sco po) (some (.Name y py)) l ev = pure true := by
  have k1 : ev.kindOf y = some .local := hy
  have k2 : ev.blockKind = .function := by unfold Env.blockKind; rw [hk]; rfl
  unfold swapsWith
  simp only [k2, k1, ha, Expr.pos, hl]
  rfl
/-- name = {.. for ..}, the name a local -/
theorem ps_setDc {i : Nat} {y : Str} {py : Pos} {ka va tgt itr : Expr} {fs : List Expr} {sco : Scope} {own : List (Str × Nat)} {po sp : Pos} {wi : TI} {g : TG} {tt : TT} {tk tv : TE} (hc : X.calm = true) (hN : X.N.Nodup) (hy : X.N[i]? = some y) (hyl : X.env.scope.names.lookup y = some .local)
    (hsw : swapsWith (.DictComp ka va [⟨tgt, itr, fs, 0⟩] sco po) (some (.Name y py)) sp.line X.env = pure true) (hi : PI X tgt itr wi) (okk : BlkOk X.N X.env.scope sco own)
    (h1 : ∀ (s : Shared) (H : Hp) (C : Addr) (cl : List (Str × Addr)) (fq : List Addr), PG (X.blk s H sco (compEnvC sco cl C X.env) fq) tgt g) (h2 : ∀ (s : Shared) (H : Hp) (C : Addr) (cl : List (Str × Addr)) (fq : List Addr), PTs (X.blk s H sco (compEnvC sco cl C X.env) fq) fs tt)
    (h3 : ∀ (s : Shared) (H : Hp) (C : Addr) (cl : List (Str × Addr)) (fq : List Addr), PE (X.blk s H sco (compEnvC sco cl C X.env) fq) ka tk)
    (h4 : ∀ (s : Shared) (H : Hp) (C : Addr) (cl : List (Str × Addr)) (fq : List Addr), PE (X.blk s H sco (compEnvC sco cl C X.env) fq) va tv) (h5 : ∀ x, foldedSetIterable itr X.env x = pure x := by intro _; rfl) :
    PS X (.Assign [.Name y py] (.DictComp ka va [⟨tgt, itr, fs, 0⟩] sco po) sp) (tAsg (tDc wi g tt tk tv (own.map (·.2))) (gName i)) := by
  refine ⟨fun pn s τ H D J h => ?_⟩
  rw [exec_Assign_Name_used _ _ _ _ hsw]
  refine wpAny_bind (wpAny_standAt (wpAny_bind ?_))
  rw [arm_evalThenUse_DictComp]
  have h' : tDc wi g tt tk tv (own.map (·.2)) τ H (fun x H1 => gName i x τ H1 D.nx) := h
  refine wpAny_bind (thn (dc_core (Qf := fun _ sz => SP X pn D .next sz) hc hN J hi okk h1 h2 h3 h4 h5 h' fun L C sz m Gz Jz q hn f => ?_) fun _ sz hq => wpAny_pure (wpAny_pure hq))
  show wpAny _ _ (assign (.Name y py) X.env (.ref L)) _ _ _
  refine wpAny_assign_Name (store_ok2 (v := V.ref L) Jz hN hy (.inl hyl) rfl (fun s2 J2 ⟨a, sb, ha⟩ => ?_) (.inr hyl))
  obtain ⟨f0, f1, f2, f3, f4, f5⟩ := f
  have neC : C ≠ a := by
    rcases ha with z | z
    · rw [z]; exact f1
    · exact fun e => f4 y a z e.symm
  refine ⟨m, hn.sameBut sb neC, fun g3 sb3 => ?_⟩
  exact ⟨_, Gz, J2.turned (t' := s2.toks) (fun b o hb e => (sb3.2 b hb).trans e) f0 f1 f3 f4 f5, q⟩
/-- .. its keys words -/
theorem ps_setDcN {i : Nat} {y : Str} {py : Pos} {ka va tgt itr : Expr} {fs : List Expr} {sco : Scope} {ows : List (Str × Nat)} {po sp : Pos} {wi : TI} {g : TG} {tq : TT} {tk tv : TE} (hu : X.A.units + 64 < cLine) (hc : X.calm = true) (hN : X.N.Nodup) (hy : X.N[i]? = some y) (hyl : X.env.scope.names.lookup y = some .local)
    (hsw : swapsWith (.DictComp ka va [⟨tgt, itr, fs, 0⟩] sco po) (some (.Name y py)) sp.line X.env = pure true) (hi : PI X tgt itr wi) (okk : BlkOk X.N X.env.scope sco ows)
    (h1 : ∀ (s : Shared) (H : Hp) (C : Addr) (cl : List (Str × Addr)) (fq : List Addr), PG (X.blk s H sco (compEnvC sco cl C X.env) fq) tgt g) (h2 : ∀ (s : Shared) (H : Hp) (C : Addr) (cl : List (Str × Addr)) (fq : List Addr), PTs (X.blk s H sco (compEnvC sco cl C X.env) fq) fs tq)
    (h3 : ∀ (s : Shared) (H : Hp) (C : Addr) (cl : List (Str × Addr)) (fq : List Addr), PE (X.blk s H sco (compEnvC sco cl C X.env) fq) ka tk)
    (h4 : ∀ (s : Shared) (H : Hp) (C : Addr) (cl : List (Str × Addr)) (fq : List Addr), PE (X.blk s H sco (compEnvC sco cl C X.env) fq) va tv) (h5 : ∀ x, foldedSetIterable itr X.env x = pure x := by intro _; rfl) :
    PS X (.Assign [.Name y py] (.DictComp ka va [⟨tgt, itr, fs, 0⟩] sco po) sp) (tAsg (tDcN X.prog X.w wi g tq tk tv (ows.map (·.2))) (gName i)) := by
  refine ⟨fun pn s τ H D J h => ?_⟩
  rw [exec_Assign_Name_used _ _ _ _ hsw]
  refine wpAny_bind (wpAny_standAt (wpAny_bind ?_))
  rw [arm_evalThenUse_DictComp]
  have h' : tDcN X.prog X.w wi g tq tk tv (ows.map (·.2)) τ H (fun x H1 => gName i x τ H1 D.nx) := h
  refine wpAny_bind (thn (dcN_core (Qf := fun _ sz => SP X pn D .next sz) hu hc hN J hi okk h1 h2 h3 h4 h5 h' fun L C sz m Gz Jz q hn f => ?_) fun _ sz hq => wpAny_pure (wpAny_pure hq))
  show wpAny _ _ (assign (.Name y py) X.env (.ref L)) _ _ _
  refine wpAny_assign_Name (store_ok2 (v := V.ref L) Jz hN hy (.inl hyl) rfl (fun s2 J2 ⟨a, sb, ha⟩ => ?_) (.inr hyl))
  obtain ⟨f0, f1, f2, f3, f4, f5⟩ := f
  have neC : C ≠ a := by
    rcases ha with z | z
    · rw [z]; exact f1
    · exact fun e => f4 y a z e.symm
  refine ⟨m, hn.sameBut sb neC, fun g3 sb3 => ?_⟩
  exact ⟨_, Gz, J2.turned (t' := s2.toks) (fun b o hb e => (sb3.2 b hb).trans e) f0 f1 f3 f4 f5, q⟩
end
end Ly

namespace Ly
open PySem PySem.Spec PyProof.Rows L2
/-- a comprehension over pairs, each pair a new tuple -/
theorem lc_pair {Jt : It} {n : Nat} {G : Hp → Prop} {fx fy : Nat → Option V} (wk : Walk Jt n G (YPair fx fy)) {g : TG} {tt : TT} {te : TE} {vs : List Nat} {σ : L2.St} {F H : Hp} {Q : VK} (hF : Same F H) (hn : n < sizeLine)
    (P : Nat → List V → Hp → Prop) (hP : ∀ k acc F F', Same F F' → P k acc F → P k acc F') (h0 : P 0 [] F) (hG : ∀ F' H', Same F F' → Same F' H' → G H')
    (hs : ∀ k x y t acc F1 H1 (Kk : VK) (Nk : Hp → Prop), k < n → fx k = some x → fy k = some y → Ex [] F H F1 (upd H1 t (.tup [x, y])) → P k acc F1 → acc.length ≤ k →
      (∀ z F4 H4, Ex [] F1 (upd H1 t (.tup [x, y])) F4 H4 → P (k + 1) (acc ++ [z]) F4 → Kk z H4) → (∀ F4 H4, Ex [] F1 (upd H1 t (.tup [x, y])) F4 H4 → P (k + 1) acc F4 → Nk H4) →
      g (.ref t) (wipe σ vs) (upd H1 t (.tup [x, y])) fun σ2 H2 => wipe σ2 vs = wipe σ vs ∧ tt σ2 H2 fun b H3 => if b = true then te σ2 H3 Kk else Nk H3)
    (hd : ∀ D acc F1 H1, Ex [] F H F1 H1 → H D = none → F1 D = none → H1 D = some (.lst acc) → P n acc F1 → acc.length ≤ n → Q (.ref D) H1) :
    ∀ D, H D = none → ∃ W : Nat → Nat → Hp → Prop, (∃ m, W 0 m (upd H D (.lst []))) ∧ ∀ i m H, W i m H →
      (Jt.stop i H ∧ Q (.ref D) H) ∨ (Jt.go i H ∧ ∃ Nx : Hp → Prop, (∀ H', Nx H' → ∃ m', m' < m ∧ W (i + 1) m' H') ∧ ∀ x H', Jt.yld i H x H' → g x (wipe σ vs) H' fun σ2 H2 => wipe σ2 vs = wipe σ vs ∧ tt σ2 H2 fun b H3 =>
        if b = true then te σ2 H3 fun y H4 => ∃ acc, H4 D = some (.lst acc) ∧ acc.length < sizeLine ∧ Nx (upd H4 D (.lst (acc ++ [y]))) else Nx H3) := by
  intro D hD
  have fD : F D = none := Same.free hF hD
  have e0 : Ex [] F H F (upd H D (.lst [])) := Ex.new hF hD
  refine lc_it wk (fun i H1 => ∃ acc F1, Ex [] F H F1 H1 ∧ F1 D = none ∧ H1 D = some (.lst acc) ∧ P i acc F1 ∧ acc.length ≤ i) ⟨[], F, e0, fD, upd_same, h0, Nat.le_refl _⟩ (fun i H1 _ ⟨acc, F1, e, _⟩ => hG F1 H1 e.ff e.fh) ?_ ?_
  · rintro i v H1 H2 hi ⟨acc, F1, e1, f1, d1, p1, l1⟩ ⟨t, x, y, rfl, ht, rfl, e2, e3⟩
    have et : Ex [] F1 H1 F1 (upd H1 t (.tup [x, y])) := Ex.new e1.fh ht
    have d2 := et.at d1
    refine hs i x y t acc F1 H1 _ _ hi e2 e3 (e1.trans et) p1 l1 (fun z F4 H4 e4 p4 => ?_) (fun F4 H4 e4 p4 => ?_)
    · have d4 : H4 D = some (.lst acc) := e4.at d2
      have f4 : F4 D = none := e4.nf f1 (ne_none d2)
      exact ⟨acc, d4, by omega, acc ++ [z], F4, ((e1.trans et).trans e4).wr hD f4, f4, upd_same, p4, by simp; omega⟩
    · exact ⟨acc, F4, (e1.trans et).trans e4, e4.nf f1 (ne_none d2), e4.at d2, p4, by omega⟩
  · rintro H1 ⟨acc, F1, e1, f1, d1, p1, l1⟩
    exact hd D acc F1 H1 e1 hD f1 d1 p1 l1
theorem lcg_zip {K : PySem.W.Frag} {ts : TA} {a b : Addr} {xs ys : List V} {n : Nat} {g : TG} {tt : TT} {te : TE} {vs : List Nat} {σ : L2.St} {F H : Hp} {Q : VK} (hl : ∀ R : List V → Hp → Prop, R [.ref a, .ref b] H → ts σ H R) (hx : F a = some (.lst xs)) (hy : F b = some (.lst ys)) (hnn : n = min xs.length ys.length) (hF : Same F H) (hn : n < sizeLine)
    (P : Nat → List V → Hp → Prop) (hP : ∀ k acc F F', Same F F' → P k acc F → P k acc F') (h0 : P 0 [] F)
    (hs : ∀ k x y t acc F1 H1 (Kk : VK) (Nk : Hp → Prop), k < n → xs[k]? = some x → ys[k]? = some y → Ex [] F H F1 (upd H1 t (.tup [x, y])) → P k acc F1 → acc.length ≤ k →
      (∀ z F4 H4, Ex [] F1 (upd H1 t (.tup [x, y])) F4 H4 → P (k + 1) (acc ++ [z]) F4 → Kk z H4) → (∀ F4 H4, Ex [] F1 (upd H1 t (.tup [x, y])) F4 H4 → P (k + 1) acc F4 → Nk H4) →
      g (.ref t) (wipe σ vs) (upd H1 t (.tup [x, y])) fun σ2 H2 => wipe σ2 vs = wipe σ vs ∧ tt σ2 H2 fun b H3 => if b = true then te σ2 H3 Kk else Nk H3)
    (hd : ∀ D acc F1 H1, Ex [] F H F1 H1 → H D = none → F1 D = none → H1 D = some (.lst acc) → P n acc F1 → acc.length ≤ n → Q (.ref D) H1) : tLc (iZip K ts) g tt te vs σ H Q :=
  hl _ ⟨a, b, xs, ys, rfl, SqL.of (hF _ _ hx), SqL.of (hF _ _ hy), lc_pair (walk_zip hnn) hF hn P hP h0 (fun F' H' g1 g2 => ⟨SqL.of (g2 _ _ (g1 _ _ hx)), SqL.of (g2 _ _ (g1 _ _ hy))⟩) hs hd⟩
end Ly

namespace Ly
open PySem PySem.Spec PyProof.Rows L2
/-! ### displays of words, and of lists of words -/
def okW (F : Hp) (d : Nat) (v : V) : Prop := ∃ k : W, full k = true ∧ k.data.canLay0 = true ∧ k.depth ≤ d ∧ Wk F k v
theorem okW.up {F F2 : Hp} {d : Nat} {v : V} (h : Same F F2) (x : okW F d v) : okW F2 d v := by
  obtain ⟨k, a, b, c, e⟩ := x
  exact ⟨k, a, b, c, e.up h⟩
theorem okW.mono {F : Hp} {d d2 : Nat} {v : V} (x : okW F d v) (h : d ≤ d2) : okW F d2 v := by
  obtain ⟨k, a, b, c, e⟩ := x
  exact ⟨k, a, b, Nat.le_trans c h, e⟩
theorem okW.wok {F : Hp} {v : V} (x : okW F 3 v) : ∃ k, Wok k ∧ Wk F k v := by
  obtain ⟨k, a, b, c, e⟩ := x
  exact ⟨k, ⟨a, b, c⟩, e⟩
theorem okWs_words {F : Hp} {d : Nat} : ∀ {vs : List V}, (∀ v ∈ vs, okW F d v) → ∃ ks : List W, Wks F ks vs ∧ ks.length = vs.length ∧ ∀ k ∈ ks, full k = true ∧ k.data.canLay0 = true ∧ k.depth ≤ d
  | [], _ => ⟨[], Wks.nil, rfl, by simp⟩
  | v :: vs, h => by
    obtain ⟨k, a, b, c, e⟩ := h v (by simp)
    obtain ⟨ks, h1, h2, h3⟩ := okWs_words (vs := vs) fun x hx => h x (by simp [hx])
    refine ⟨k :: ks, Wks.cons e h1, by simp [h2], fun x hx => ?_⟩
    rcases List.mem_cons.mp hx with z | z
    · rw [z]; exact ⟨a, b, c⟩
    · exact h3 x z
def okL (F : Hp) (d : Nat) (v : V) : Prop := ∃ (a : Addr) (xs : List V), v = .ref a ∧ F a = some (.lst xs) ∧ 0 < xs.length ∧ xs.length < 100 ∧ ∀ x ∈ xs, okW F d x
theorem okL.up {F F2 : Hp} {d : Nat} {v : V} (h : Same F F2) (x : okL F d v) : okL F2 d v := by
  obtain ⟨a, xs, e, h1, h2, h3, h4⟩ := x
  exact ⟨a, xs, e, h _ _ h1, h2, h3, fun y hy => (h4 y hy).up h⟩
def EvW (te : TE) (d : Nat) : Prop := ∀ (σ : L2.St) (F H : Hp) (Q : VK), Same F H → (∀ v F1 H1, Ex [] F H F1 H1 → okW F1 d v → Q v H1) → te σ H Q
def EvWs (ts : TA) (n d : Nat) : Prop := ∀ (σ : L2.St) (F H : Hp) (R : List V → Hp → Prop), Same F H → (∀ xs F1 H1, Ex [] F H F1 H1 → xs.length = n → (∀ x ∈ xs, okW F1 d x) → R xs H1) → ts σ H R
def EvLs (ts : TA) (n d : Nat) : Prop := ∀ (σ : L2.St) (F H : Hp) (R : List V → Hp → Prop), Same F H → (∀ xs F1 H1, Ex [] F H F1 H1 → xs.length = n → (∀ x ∈ xs, okL F1 d x) → R xs H1) → ts σ H R
theorem ev_int {d : Nat} (i : Int) : EvW (tC (.int i)) d := fun σ F H Q hF k => k _ F H (Ex.refl hF) ⟨.num i, rfl, rfl, Nat.zero_le _, wk_num.mpr rfl⟩
theorem ev_str {d : Nat} {s : Str} (h : PyData.canLay0 (.str s) = true := by decide +kernel) : EvW (tC (.str s)) d := fun σ F H Q hF k => k _ F H (Ex.refl hF) ⟨.text s, rfl, h, Nat.zero_le _, wk_text.mpr rfl⟩
theorem ev_nil {d : Nat} : EvWs tNil 0 d := fun σ F H R hF k => k [] F H (Ex.refl hF) rfl (by simp)
theorem ev_cons {te : TE} {ts : TA} {n d : Nat} (h1 : EvW te d) (h2 : EvWs ts n d) : EvWs (tCons te ts) (n + 1) d := fun σ F H R hF k =>
  r_cons (h1 σ F H _ hF fun v F1 H1 e1 w1 => h2 σ F1 H1 _ e1.fh fun xs F2 H2 e2 l2 w2 => k (v :: xs) F2 H2 (e1.trans e2) (by simp [l2]) fun x hx => by
    rcases List.mem_cons.mp hx with z | z
    · rw [z]; exact w1.up e2.ff
    · exact w2 x z)
theorem ev_tup {ts : TA} {n d : Nat} (h : EvWs ts n d) (hn : n < 1000 := by decide) : EvW (tTup ts) (d + 1) := fun σ F H Q hF k =>
  r_tup (h σ F H _ hF fun xs F1 H1 e1 l1 w1 => ⟨by rw [l1, sizeLine_eq]; omega, fun p hp => by
    obtain ⟨ks, h1, h2, h3⟩ := okWs_words w1
    have hp1 : F1 p = none := Same.free e1.fh hp
    refine k _ _ _ (e1.trans (Ex.newF e1.fh hp)) ⟨.tup ks, by simp [full, fulls_of fun z hz => (h3 z hz).1], by simp [NestedKey.data, PyData.canLay0, lay_datas fun z hz => (h3 z hz).2.1], ?_, wk_new hp1 h1 (by omega)⟩
    simp only [NestedKey.depth]
    have := dall_le (n := d) fun z hz => (h3 z hz).2.2
    omega⟩)
theorem evl_nil {d : Nat} : EvLs tNil 0 d := fun σ F H R hF k => k [] F H (Ex.refl hF) rfl (by simp)
theorem evl_cons {ts us : TA} {n m d : Nat} (h1 : EvWs ts m d) (h2 : EvLs us n d) (h0 : 0 < m := by decide) (hm : m < 100 := by decide) : EvLs (tCons (tLst ts) us) (n + 1) d := fun σ F H R hF k =>
  r_cons (r_lst (h1 σ F H _ hF fun xs F1 H1 e1 l1 w1 => ⟨by rw [l1, sizeLine_eq]; omega, fun p hp => by
    have e2 : Ex [] F1 H1 (upd F1 p (.lst xs)) (upd H1 p (.lst xs)) := Ex.newF e1.fh hp
    have ok : okL (upd F1 p (.lst xs)) d (.ref p) := ⟨p, xs, rfl, upd_same, by omega, by omega, fun x hx => (w1 x hx).up e2.ff⟩
    refine h2 σ _ _ _ e2.fh fun ys F3 H3 e3 l3 w3 => k (.ref p :: ys) F3 H3 (e1.trans (e2.trans e3)) (by simp [l3]) fun x hx => ?_
    rcases List.mem_cons.mp hx with z | z
    · rw [z]; exact ok.up e3.ff
    · exact w3 x z⟩))
/-- a list of lists of words, frozen -/
theorem ev_ll {ts : TA} {n d : Nat} (h : EvLs ts n d) {σ : L2.St} {F H : Hp} {Q : VK} (hF : Same F H) (k : ∀ a xs F1 H1, Ex [] F H F1 H1 → F1 a = some (.lst xs) → xs.length = n → (∀ x ∈ xs, okL F1 d x) → Q (.ref a) H1) (hn : n < 1000 := by decide) : tLst ts σ H Q :=
  r_lst (h σ F H _ hF fun xs F1 H1 e1 l1 w1 => ⟨by rw [l1, sizeLine_eq]; omega, fun p hp => by
    have e2 : Ex [] F1 H1 (upd F1 p (.lst xs)) (upd H1 p (.lst xs)) := Ex.newF e1.fh hp
    exact k p xs _ _ (e1.trans e2) upd_same l1 fun x hx => (w1 x hx).up e2.ff⟩)
/-- a list of words, frozen -/
theorem ev_l {ts : TA} {n d : Nat} (h : EvWs ts n d) {σ : L2.St} {F H : Hp} {Q : VK} (hF : Same F H) (k : ∀ a xs F1 H1, Ex [] F H F1 H1 → F1 a = some (.lst xs) → xs.length = n → (∀ x ∈ xs, okW F1 d x) → Q (.ref a) H1) (hn : n < 1000 := by decide) : tLst ts σ H Q :=
  r_lst (h σ F H _ hF fun xs F1 H1 e1 l1 w1 => ⟨by rw [l1, sizeLine_eq]; omega, fun p hp => by
    have e2 : Ex [] F1 H1 (upd F1 p (.lst xs)) (upd H1 p (.lst xs)) := Ex.newF e1.fh hp
    exact k p xs _ _ (e1.trans e2) upd_same l1 fun x hx => (w1 x hx).up e2.ff⟩)
/-- a frozen list of roads -/
def RL (m : Nat) (F : Hp) (n : Nat) (v : V) : Prop := ∃ p ys rs, v = .ref p ∧ F p = some (.lst ys) ∧ Rds F rs ys ∧ (∀ r ∈ rs, r.OkN n) ∧ rs.length ≤ m
theorem RL.up {m n : Nat} {F F2 : Hp} {v : V} (h : Same F F2) (x : RL m F n v) : RL m F2 n v := by
  obtain ⟨p, ys, rs, e, a, b, c, d⟩ := x
  exact ⟨p, ys, rs, e, h _ _ a, Wks.up h b, c, d⟩
theorem RL.le {m m2 n : Nat} {F : Hp} {v : V} (x : RL m F n v) (h : m ≤ m2) : RL m2 F n v := by
  obtain ⟨p, ys, rs, e, a, b, c, d⟩ := x
  exact ⟨p, ys, rs, e, a, b, c, Nat.le_trans d h⟩
end Ly

namespace Ly
open PySem PySem.Spec PyProof.Rows
/-! ### a dict whose keys are words of any kind -/
section
variable {prog : Program} {w : World} {A : Around} {E : Value → Shared → Prop} {s : Shared}
def isV (h : Heap) (k : W) (v : Value) : Prop := NestedIs h k v ∧ k.depth ≤ 8
theorem isV_inj {h : Heap} {v : Value} {x y : W} (a : isV h x v) (b : isV h y v) : x = y := NestedIs.inj _ _ _ a.1 b.1
theorem isV_keeps {h h' : Heap} {k : W} {v : Value} {d : Addr} {o : Obj} {ez eq0} (x : isV h k v) (go : h.get? d = some o) (gd : o.data = .dict ez eq0) (hs : Heap.SameBut d h h') : isV h' k v := ⟨NestedIs.at (fun b ob vs n gb gc => by
  refine (hs.2 b fun e => ?_).trans gb
  subst e
  rw [go] at gb
  cases gb
  rw [gd] at gc
  cases gc) k _ x.1, x.2⟩
theorem isV_hash {k : W} {v : Value} {Q : Int → Shared → Prop} (hu : A.units + 8 < cLine) (gk0 : isV s.heap k v) (h : Q (k.hash w) { s with toks := s.toks + k.draws }) : wpAny (model prog w) A (pyHash v) Q E s := pyHash_key _ _ _ _ _ gk0.1 (by have := gk0.2; omega) h
theorem isV_eq {x y : W} {u v : Value} {Q : Bool → Shared → Prop} (hu : A.units + 8 < cLine) (gx : isV s.heap x u) (hy : isV s.heap y v) (h : Q (decide (x = y)) s) : wpAny (model prog w) A (eqBool u v) Q E s :=
  eqAt_key x y A s _ _ gx.1 hy.1 (by have := gx.2; omega) _ _ _ _ (by rw [← NestedKey.decide_eq]; exact h)
theorem isV_quiet {k : W} {v : Value} {Q : Bool → Shared → Prop} (gk0 : isV s.heap k v) (h : Q true s) : wpAny (model prog w) A (eqIsQuiet 8 v) Q E s := quiet_key k _ 8 s gk0.1 gk0.2 A E Q h
def entV (w : World) (x : W × Value × Value) : DictEntry := ⟨x.1.hash w, x.2.1, x.2.2⟩
theorem entV_at {ez : Array DictEntry} {ls : List (W × Value × Value)} (ge : ez.toList = ls.map (entV w)) (j : Nat) : ez[j]? = (ls[j]?).map (entV w) := by
  rw [← Array.getElem?_toList, ge, List.getElem?_map]
theorem entV_size {ez : Array DictEntry} {ls : List (W × Value × Value)} (ge : ez.toList = ls.map (entV w)) : ez.size = ls.length := by
  rw [← Array.length_toList, ge, List.length_map]
end
section
def atV (ls : List (W × Value × Value)) (k : W) : Option (Value × Value) := (ls.find? fun x => decide (x.1 = k)).map (·.2)

def putV (k : W) (v : Value) (x : W × Value × Value) : W × Value × Value := if x.1 = k then (x.1, x.2.1, v) else x

def stV (ls : List (W × Value × Value)) (k : W) (a : Value) (v : Value) : List (W × Value × Value) :=
  if (atV ls k).isSome then ls.map (putV k v) else ls ++ [(k, a, v)]

theorem stV_new {ls : List (W × Value × Value)} {k : W} (h : atV ls k = none) (a : Value) (v : Value) : stV ls k a v = ls ++ [(k, a, v)] := by simp [stV, h]
theorem stV_old {ls : List (W × Value × Value)} {k : W} {p : Value × Value} (h : atV ls k = some p) (a : Value) (v : Value) : stV ls k a v = ls.map (putV k v) := by simp [stV, h]

theorem idxV {ls : List (W × Value × Value)} (nd : (ls.map (·.1)).Nodup) : ∀ {i j : Nat} {k : W} {p q : Value × Value}, ls[i]? = some (k, p) → ls[j]? = some (k, q) → i = j := by
  intro i j k p q gi gj
  have hi' : (ls.map (·.1))[i]? = some k := by rw [List.getElem?_map, gi]; rfl
  have hj' : (ls.map (·.1))[j]? = some k := by rw [List.getElem?_map, gj]; rfl
  exact (List.getElem?_inj (List.getElem?_eq_some_iff.mp hi').1 nd).mp (hi'.trans hj'.symm)

theorem atV_of_get {ls : List (W × Value × Value)} (nd : (ls.map (·.1)).Nodup) {i : Nat} {k : W} {p : Value × Value} (gx : ls[i]? = some (k, p)) : atV ls k = some p := by
  induction ls generalizing i with
  | nil => simp at gx
  | cons x rst iH =>
    rw [List.map_cons, List.nodup_cons] at nd
    cases i with
    | zero =>
      simp only [List.getElem?_cons_zero, Option.some.injEq] at gx
      subst gx; simp [atV]
    | succ j =>
      simp only [List.getElem?_cons_succ] at gx
      have gmem : k ∈ rst.map (·.1) := List.mem_map.mpr ⟨(k, p), List.mem_of_getElem? gx, rfl⟩
      have gne : ¬ x.1 = k := fun e => nd.1 (e ▸ gmem)
      have := iH nd.2 gx
      simpa [atV, List.find?_cons, gne] using this

theorem atV_none_of_get {ls : List (W × Value × Value)} {k : W} (h : ∀ (j : Nat) (p : Value × Value), ls[j]? ≠ some (k, p)) : atV ls k = none := by
  have : (ls.find? fun x => decide (x.1 = k)) = none := by
    rw [List.find?_eq_none]
    intro x gx gk0
    obtain ⟨j, gj⟩ := List.mem_iff_getElem?.mp gx
    have hk' : x.1 = k := of_decide_eq_true gk0
    exact h j x.2 (by rw [gj, ← hk'])
  simp [atV, this]

theorem notmV {ls : List (W × Value × Value)} {k : W} (h : ∀ (j : Nat) (p : Value × Value), ls[j]? ≠ some (k, p)) : k ∉ ls.map (·.1) := by
  intro gm
  obtain ⟨x, gx, rfl⟩ := List.mem_map.mp gm
  obtain ⟨j, gj⟩ := List.mem_iff_getElem?.mp gx
  exact h j x.2 gj

theorem mapputV (ls : List (W × Value × Value)) (k : W) (v : Value) (nd : k ∉ ls.map (·.1)) : ls.map (putV k v) = ls := by
  induction ls with
  | nil => rfl
  | cons x ls iH =>
    simp only [List.map_cons, List.mem_cons, not_or] at nd ⊢
    rw [putV, if_neg (fun e => nd.1 e.symm), iH nd.2]

theorem keysputV (ls : List (W × Value × Value)) (k : W) (v : Value) : (ls.map (putV k v)).map (·.1) = ls.map (·.1) := by
  induction ls with
  | nil => rfl
  | cons x ls iH =>
    simp only [List.map_cons, iH]
    by_cases gk0 : x.1 = k <;> simp [putV, gk0]

theorem modputV {β : Type} (f : W × Value × Value → β) (g : β → β) (k : W) (v : Value) (hg : ∀ a v₀, g (f (k, a, v₀)) = f (k, a, v)) :
    ∀ {ls : List (W × Value × Value)} {j : Nat} {p : Value × Value}, (ls.map (·.1)).Nodup → ls[j]? = some (k, p) → (ls.map f).modify j g = (ls.map (putV k v)).map f := by
  intro ls
  induction ls with
  | nil => intro j p _ gj; simp at gj
  | cons x rst iH =>
    intro j p nd gj
    rw [List.map_cons, List.nodup_cons] at nd
    cases j with
    | zero =>
      simp only [List.getElem?_cons_zero, Option.some.injEq] at gj
      subst gj
      rw [List.map_cons, List.map_cons, mapputV rst k v nd.1, putV, if_pos rfl, List.map_cons]
      show g (f (k, p)) :: rst.map f = f (k, p.1, v) :: rst.map f
      rw [show (k, p) = (k, p.1, p.2) from rfl, hg]
    | succ j =>
      simp only [List.getElem?_cons_succ] at gj
      have gmem : k ∈ rst.map (·.1) := List.mem_map.mpr ⟨(k, p), List.mem_of_getElem? gj, rfl⟩
      have gne : ¬ x.1 = k := fun e => nd.1 (e ▸ gmem)
      rw [List.map_cons, List.map_cons, putV, if_neg gne, List.map_cons]
      show f x :: (rst.map f).modify j g = f x :: (rst.map (putV k v)).map f
      rw [iH nd.2 gj]


end
section
variable {prog : Program} {w : World} {A : Around} {E : Value → Shared → Prop} {s : Shared}
theorem tellsV {a : Value} {k : W} {sto : List Value} {Q : Bool → Shared → Prop} (gk : isV s.heap k a)
    (gst : ∀ v ∈ sto, ∃ k2 b, v = b ∧ isV s.heap k2 b) (h : Q false s) : wpAny (model prog w) A (tableMayTell a sto) Q E s := by
  unfold tableMayTell
  split
  · exact wpAny_pure h
  · refine wpAny_bind (isV_quiet gk ?_)
    simp only [Bool.not_true, Bool.false_eq_true, if_false]
    refine wpAny_bind ?_
    refine wpAny_forIn_list _ (fun rst r s2 => s2 = s ∧ r = (none, ()) ∧ ∀ v ∈ rst, ∃ k2 b, v = b ∧ isV s.heap k2 b) _ ?_ ?_ _ _ ⟨rfl, rfl, gst⟩
    · rintro x rst r s2 ⟨rfl, rfl, gr⟩
      obtain ⟨k2, b, rfl, gb⟩ := gr x List.mem_cons_self
      refine wpAny_bind (isV_quiet gb ?_)
      simp only [Bool.not_true, Bool.false_eq_true, if_false]
      exact wpAny_pure ⟨rfl, rfl, fun v gv => gr v (List.mem_cons_of_mem _ gv)⟩
    · rintro r s2 ⟨rfl, rfl, _⟩
      exact wpAny_pure h

theorem findV {d : Addr} {a : Value} {o : Obj} {ez eq0} {ls : List (W × Value × Value)} {k : W} {Q : Option Nat → Shared → Prop} (hu : A.units + 8 < cLine) (gk : isV s.heap k a)
    (go : s.heap.get? d = some o) (gd : o.data = .dict ez eq0) (ge : ez.toList = ls.map (entV w)) (gis : ∀ x ∈ ls, isV s.heap x.1 x.2.1) (nd : (ls.map (·.1)).Nodup)
    (gNone : (∀ (j : Nat) (p : Value × Value), ls[j]? ≠ some (k, p)) → Q none s) (gSome : ∀ (j : Nat) (p : Value × Value), ls[j]? = some (k, p) → Q (some j) s) :
    wpAny (model prog w) A (dictFind d a (k.hash w)) Q E s := by
  have gsz : ez.size = ls.length := entV_size ge

  have hask : ∀ (j : Nat) (p : Value × Value), ls[j]? = some (k, p) → ((ez[j]?.map (·.hash)) == some (k.hash w)) = true := by
    intro j p gj
    rw [entV_at ge j, gj]
    simp [entV]
  have gmem : ∀ e ∈ ez, ∃ x ∈ ls, e = entV w x := by
    intro e gin
    have : e ∈ ls.map (entV w) := ge ▸ Array.mem_toList_iff.mpr gin
    obtain ⟨x, gx, rfl⟩ := List.mem_map.mp this
    exact ⟨x, gx, rfl⟩

  have hany : ∀ b, a = .ref b → ¬ (ez.any fun e => e.key == a && e.hash != k.hash w) = true := by
    rintro b rfl
    rw [← Array.any_toList, List.any_eq_true]
    rintro ⟨e, gin, gc⟩
    obtain ⟨x, gx, rfl⟩ := gmem e (Array.mem_toList_iff.mp gin)
    simp only [entV, Bool.and_eq_true, beq_iff_eq, bne_iff_ne, ne_eq, Value.ref.injEq] at gc
    obtain ⟨hxa, gne⟩ := gc
    have := gis x gx
    rw [hxa] at this
    exact gne (by rw [isV_inj this gk])
  have gst : ∀ v ∈ (placesWithHash ez.size (fun i => ez[i]?.map (·.hash)) (k.hash w)).filterMap (fun i => ez[i]?.map (·.key)), ∃ k2 b, v = b ∧ isV s.heap k2 b := by
    intro v gv
    obtain ⟨i, _, gi⟩ := List.mem_filterMap.mp gv
    cases gei : ez[i]? with
    | none => rw [gei] at gi; cases gi
    | some e =>
      rw [gei] at gi
      obtain rfl : e.key = v := by simpa using gi
      obtain ⟨x, gx, rfl⟩ := gmem e (Array.mem_of_getElem? gei)
      exact ⟨x.1, x.2.1, rfl, gis x gx⟩
  unfold dictFind
  try with_reducible refine wpAny_holding ?_
  refine wpAny_bind (wpAny_dictEntries go gd ?_)
  dsimp only
  by_cases gall : ((a :: (placesWithHash ez.size (fun i => ez[i]?.map (·.hash)) (k.hash w)).filterMap (fun i => ez[i]?.map (·.key))).all carriedByValue) = true
  · rw [if_pos gall]
    have old : wpAny (model prog w) A (dictWalkPlain d a (k.hash w) ez (placesWithHash ez.size (fun i => ez[i]?.map (·.hash)) (k.hash w))) Q E s := by
      refine wpAny_bind ?_
      refine wpAny_forIn_list _ (fun rst b s2 => s2 = s ∧ b = (none, ()) ∧ ∃ i, rst = (List.range' i (ez.size - i)).filter (fun i => (ez[i]?.map (·.hash)) == some (k.hash w)) ∧ i ≤ ez.size ∧ ∀ j p, j < i → ls[j]? ≠ some (k, p)) _ ?_ ?_ _ _
        ⟨rfl, rfl, 0, by rw [placesWithHash, List.range_eq_range', Nat.sub_zero], Nat.zero_le _, fun _ _ h => absurd h (Nat.not_lt_zero _)⟩
      · rintro x rst b s2 ⟨rfl, rfl, i, gr, gi, gno⟩
        obtain ⟨hix, hxn, hpx, gskip, grst0⟩ := filter_range'_cons _ _ _ _ _ gr.symm
        have glt : x < ez.size := by omega
        have grst : rst = (List.range' (x + 1) (ez.size - (x + 1))).filter (fun i => (ez[i]?.map (·.hash)) == some (k.hash w)) := by rw [grst0]; congr 2; omega
        obtain ⟨⟨k2, b, v2⟩, gkv⟩ : ∃ y, ls[x]? = some y := ⟨ls[x]'(by rw [← gsz]; exact glt), List.getElem?_eq_getElem _⟩
        have gib : isV s2.heap k2 b := gis _ (List.mem_of_getElem? gkv)
        have gex : ez[x]? = some ⟨k2.hash w, b, v2⟩ := by rw [entV_at ge x, gkv]; rfl
        have gstay : ¬ k2 = k → ∀ j p, j < x + 1 → ls[j]? ≠ some (k, p) := by
          intro gne j p gjx gj
          rcases Nat.lt_or_ge j i with h | h
          · exact gno j p h gj
          · rcases Nat.lt_or_ge j x with h2 | h2
            · have := gskip j h h2
              rw [hask j p gj] at this
              exact absurd this (by decide)
            · have gjx2 : j = x := by omega
              subst gjx2
              rw [gkv] at gj
              injection gj with gj
              injection gj with gj
              exact gne gj
        rw [gex]
        dsimp only
        by_cases gh : (k2.hash w == k.hash w) = true
        · rw [if_pos gh]
          refine wpAny_bind (wpAny_dictEpoch go gd (wpAny_bind (isV_eq (x := k2) (y := k) hu gib gk (wpAny_bind (wpAny_dictEpoch go gd ?_)))))
          show wpAny _ _ (if (eq0 != eq0) = true then _ else _) _ E _
          rw [if_neg (by simp)]
          by_cases gkk : k2 = k
          · rw [decide_eq_true gkk]
            subst gkk
            exact wpAny_bind (wpAny_rule (wpAny_pure (wpAny_pure (gSome x _ gkv))))
          · rw [decide_eq_false gkk]
            exact wpAny_bind (wpAny_rule (wpAny_pure ⟨rfl, rfl, x + 1, grst, glt, gstay gkk⟩))
        · rw [if_neg gh]
          refine wpAny_pure ⟨rfl, rfl, x + 1, grst, glt, gstay ?_⟩
          intro gkk
          rw [gkk] at gh
          simp at gh
      · rintro b s2 ⟨rfl, rfl, i, gr, gi, gno⟩
        refine wpAny_pure (gNone fun j p gj => ?_)
        rcases Nat.lt_or_ge j i with h | h
        · exact gno j p h gj
        · have gjl : j < ez.size := by
            rw [gsz]
            exact (List.getElem?_eq_some_iff.mp gj).1
          have := List.filter_eq_nil_iff.mp gr.symm j (List.mem_range'_1.mpr ⟨h, by omega⟩)
          exact absurd (hask j p gj) this
    split
    next x t =>
      by_cases hstrs : (ez.all fun e => isExactStrKey e.key) = true
      · rw [if_pos hstrs]
        have kx : k = .text x := by
          have h1 := gk.1
          cases k <;> cases h1
          rfl
        have isx : ∀ (k2 : W) (v2 : Value), isV s.heap k2 v2 → v2.isStr x = decide (k2 = .text x) := by
          intro k2 v2 h2
          have h1 := h2.1
          cases h1 with
          | none => simp [Value.isStr]
          | bool _ => simp [Value.isStr]
          | int _ _ => simp [Value.isStr]
          | text y _ =>
            simp only [Value.isStr]
            by_cases e : y = x
            · simp [e]
            · have e2 : ¬ x = y := fun z => e z.symm
              simp [e, e2]
          | tup _ _ _ _ => simp [Value.isStr]
        unfold foundByValue
        cases hf : ez.findIdx? (fun e => e.key.isStr x) with
        | none =>
          refine wpAny_pure (gNone fun j p gj => ?_)
          have gjl : j < ez.size := by
            rw [gsz]
            exact (List.getElem?_eq_some_iff.mp gj).1
          have h1 := Array.findIdx?_eq_none_iff.mp hf ez[j] (Array.getElem_mem gjl)
          have h2 : ez[j] = entV w (k, p) := by
            have := entV_at ge j
            rw [gj, Array.getElem?_eq_getElem gjl] at this
            exact Option.some.inj this
          rw [h2] at h1
          have h3 := isx k p.1 (gis _ (List.mem_of_getElem? gj))
          rw [kx] at h3
          simp only [entV] at h1
          rw [h3] at h1
          simp at h1
        | some i =>
          obtain ⟨glt, gi, _⟩ := Array.findIdx?_eq_some_iff_getElem.mp hf
          obtain ⟨⟨k2, b, v2⟩, gkv⟩ : ∃ y, ls[i]? = some y := ⟨ls[i]'(by rw [← gsz]; exact glt), List.getElem?_eq_getElem _⟩
          have gib : isV s.heap k2 b := gis _ (List.mem_of_getElem? gkv)
          have gex : ez[i] = ⟨k2.hash w, b, v2⟩ := by
            have := entV_at ge i
            rw [gkv, Array.getElem?_eq_getElem glt] at this
            exact Option.some.inj this
          rw [gex] at gi
          have gkk : k2 = k := by
            rw [isx k2 b gib] at gi
            rw [kx]
            exact of_decide_eq_true gi
          simp only [Array.getElem?_eq_getElem glt, gex]
          refine wpAny_bind (wpAny_dictEpoch go gd (wpAny_bind (isV_eq (x := k2) (y := k) hu gib gk (wpAny_bind (wpAny_dictEpoch go gd ?_)))))
          show wpAny _ _ (if (eq0 != eq0) = true then _ else _) _ E _
          rw [if_neg (by simp), decide_eq_true gkk]
          subst gkk
          exact wpAny_bind (wpAny_rule (wpAny_pure (gSome i _ gkv)))
      · rw [if_neg hstrs]
        exact old
    next => exact old
  · rw [if_neg gall]
    have hstrs : ∀ x t, a = .str x t → ¬ (ez.all fun e => isExactStrKey e.key) = true := fun x t ha hs => gall (by
      rw [List.all_cons, Bool.and_eq_true]
      refine ⟨by rw [ha]; rfl, ?_⟩
      rw [List.all_eq_true]
      intro v gv
      obtain ⟨i, _, gi⟩ := List.mem_filterMap.mp gv
      cases gei : ez[i]? with
      | none => rw [gei] at gi; cases gi
      | some e =>
        rw [gei] at gi
        obtain rfl : e.key = v := by simpa using gi
        have := (Array.all_eq_true_iff_forall_mem.mp hs) e (Array.mem_of_getElem? gei)
        cases hk2 : e.key with
        | ref b =>
          rw [hk2] at this
          simp [isExactStrKey] at this
        | _ => rfl)
    have shape : a = .none ∨ (∃ b, a = .bool b) ∨ (∃ i t, a = .int i t) ∨ (∃ x t, a = .str x t) ∨ ∃ b, a = .ref b := by
      have h1 := gk.1
      cases h1 with
      | none => exact .inl rfl
      | bool _ => exact .inr (.inl ⟨_, rfl⟩)
      | int _ _ => exact .inr (.inr (.inl ⟨_, _, rfl⟩))
      | text _ _ => exact .inr (.inr (.inr (.inl ⟨_, _, rfl⟩)))
      | tup _ _ _ _ => exact .inr (.inr (.inr (.inr ⟨_, rfl⟩)))
    rcases shape with rfl | ⟨b0, rfl⟩ | ⟨i0, t0, rfl⟩ | ⟨x0, t0, rfl⟩ | ⟨b0, rfl⟩
    · dsimp only
      by_cases hone : (((placesWithHash ez.size (fun i => ez[i]?.map (·.hash)) (k.hash w)).filterMap (fun i => ez[i]?.map (·.key))) == [Value.none]) = true <;>
      (first | rw [if_pos hone] | rw [if_neg hone]) <;> (first | refine wpAny_bind (wpAny_pure ?_) | refine wpAny_bind (tellsV gk gst ?_)) <;> (
        rw [if_neg (by simp)]
        refine wpAny_bind ?_
        refine wpAny_forIn_list _
          (fun rst b s2 => s2 = s ∧ ∃ i ht, b = (none, ht) ∧ rst = (List.range' i (ez.size - i)).filter (fun i => (ez[i]?.map (·.hash)) == some (k.hash w)) ∧ i ≤ ez.size ∧
            ((ht = none ∧ ∀ j p, j < i → ls[j]? ≠ some (k, p)) ∨ ∃ j p, ht = some j ∧ j < i ∧ ls[j]? = some (k, p))) _ ?_ ?_ _ _
          ⟨rfl, 0, none, rfl, by rw [placesWithHash, List.range_eq_range', Nat.sub_zero], Nat.zero_le _, .inl ⟨rfl, fun _ _ h => absurd h (Nat.not_lt_zero _)⟩⟩
        · rintro x rst b s2 ⟨rfl, i, ht, rfl, gr, gi, gH⟩
          obtain ⟨hix, hxn, hpx, gskip, grst0⟩ := filter_range'_cons _ _ _ _ _ gr.symm
          have glt : x < ez.size := by omega
          have grst : rst = (List.range' (x + 1) (ez.size - (x + 1))).filter (fun i => (ez[i]?.map (·.hash)) == some (k.hash w)) := by rw [grst0]; congr 2; omega
          obtain ⟨⟨k2, b, v2⟩, gkv⟩ : ∃ y, ls[x]? = some y := ⟨ls[x]'(by rw [← gsz]; exact glt), List.getElem?_eq_getElem _⟩
          have gib : isV s2.heap k2 b := gis _ (List.mem_of_getElem? gkv)
          have gex : ez[x]? = some ⟨k2.hash w, b, v2⟩ := by rw [entV_at ge x, gkv]; rfl

          have gHx : (ht = none ∧ ∀ j p, j < x → ls[j]? ≠ some (k, p)) ∨ ∃ j p, ht = some j ∧ j < x ∧ ls[j]? = some (k, p) := by
            rcases gH with ⟨h0, gno⟩ | ⟨j, p, h1, gji, gj⟩
            · refine .inl ⟨h0, fun j p gjx gj => ?_⟩
              rcases Nat.lt_or_ge j i with h | h
              · exact gno j p h gj
              · have := gskip j h gjx
                rw [hask j p gj] at this
                exact absurd this (by decide)
            · exact .inr ⟨j, p, h1, by omega, gj⟩
          have gstay : ¬ k2 = k → ((ht = none ∧ ∀ j p, j < x + 1 → ls[j]? ≠ some (k, p)) ∨ ∃ j p, ht = some j ∧ j < x + 1 ∧ ls[j]? = some (k, p)) := by
            intro gne
            rcases gHx with ⟨h0, gno⟩ | ⟨j, p, h1, gjx, gj⟩
            · refine .inl ⟨h0, fun j p gjx gj => ?_⟩
              rcases Nat.lt_or_ge j x with h | h
              · exact gno j p h gj
              · have gjx2 : j = x := by omega
                subst gjx2
                rw [gkv] at gj
                injection gj with gj
                injection gj with gj
                exact gne gj
            · exact .inr ⟨j, p, h1, by omega, gj⟩
          rw [gex]
          dsimp only
          by_cases gh : (k2.hash w == k.hash w) = true
          · rw [if_pos gh]
            refine wpAny_bind (wpAny_dictEpoch go gd (wpAny_bind (isV_eq (x := k2) (y := k) hu gib gk (wpAny_bind (wpAny_dictEpoch go gd ?_)))))
            show wpAny _ _ (if (eq0 != eq0) = true then _ else _) _ E _
            rw [if_neg (by simp)]
            by_cases gkk : k2 = k
            · rw [decide_eq_true gkk]
              subst gkk
              rcases gHx with ⟨rfl, _⟩ | ⟨j, p, _, gjx, gj⟩
              · first | rw [if_pos rfl] | skip
                simp only [Option.isSome_none, Bool.false_eq_true, if_false]
                first | refine wpAny_bind (wpAny_pure ?_) | skip
                refine wpAny_bind (wpAny_rule ?_)
                split
                · exact wpAny_pure (wpAny_pure (gSome x _ gkv))
                · exact wpAny_pure ⟨rfl, x + 1, some x, rfl, grst, glt, .inr ⟨x, _, rfl, Nat.lt_succ_self x, gkv⟩⟩
              · exact absurd (idxV nd gj gkv) (by omega)
            · rw [decide_eq_false gkk]
              simp only [Bool.false_eq_true, if_false]
              refine wpAny_bind (wpAny_rule ?_)
              first | rw [if_neg (by simp)] | skip
              first
                | exact wpAny_pure ⟨rfl, x + 1, ht, rfl, grst, glt, gstay gkk⟩
                | exact wpAny_bind (wpAny_pure (wpAny_pure ⟨rfl, x + 1, ht, rfl, grst, glt, gstay gkk⟩))
          · rw [if_neg gh]
            refine wpAny_pure ⟨rfl, x + 1, ht, rfl, grst, glt, gstay ?_⟩
            intro gkk
            rw [gkk] at gh; simp at gh
        · rintro b s2 ⟨rfl, i, ht, rfl, gr, gi, gH⟩
          have gall : ∀ j, i ≤ j → j < ez.size → ((ez[j]?.map (·.hash)) == some (k.hash w)) = false := by
            intro j h1 h2
            have := List.filter_eq_nil_iff.mp gr.symm j (List.mem_range'_1.mpr ⟨h1, by omega⟩)
            simpa using this
          rcases gH with ⟨rfl, gno⟩ | ⟨j, p, rfl, _, gj⟩
          · refine wpAny_pure (gNone fun j p gj => ?_)
            rcases Nat.lt_or_ge j i with h | h
            · exact gno j p h gj
            · have gjl : j < ez.size := by
                rw [gsz]
                rcases Nat.lt_or_ge j ls.length with h' | h'
                · exact h'
                · rw [List.getElem?_eq_none h'] at gj; exact nomatch gj
              have := gall j h gjl
              rw [hask j p gj] at this
              exact absurd this (by decide)
          · exact wpAny_pure (gSome j p gj))
    · dsimp only
      by_cases hone : (((placesWithHash ez.size (fun i => ez[i]?.map (·.hash)) (k.hash w)).filterMap (fun i => ez[i]?.map (·.key))) == [Value.bool b0]) = true <;>
      (first | rw [if_pos hone] | rw [if_neg hone]) <;> (first | refine wpAny_bind (wpAny_pure ?_) | refine wpAny_bind (tellsV gk gst ?_)) <;> (
        rw [if_neg (by simp)]
        refine wpAny_bind ?_
        refine wpAny_forIn_list _
          (fun rst b s2 => s2 = s ∧ ∃ i ht, b = (none, ht) ∧ rst = (List.range' i (ez.size - i)).filter (fun i => (ez[i]?.map (·.hash)) == some (k.hash w)) ∧ i ≤ ez.size ∧
            ((ht = none ∧ ∀ j p, j < i → ls[j]? ≠ some (k, p)) ∨ ∃ j p, ht = some j ∧ j < i ∧ ls[j]? = some (k, p))) _ ?_ ?_ _ _
          ⟨rfl, 0, none, rfl, by rw [placesWithHash, List.range_eq_range', Nat.sub_zero], Nat.zero_le _, .inl ⟨rfl, fun _ _ h => absurd h (Nat.not_lt_zero _)⟩⟩
        · rintro x rst b s2 ⟨rfl, i, ht, rfl, gr, gi, gH⟩
          obtain ⟨hix, hxn, hpx, gskip, grst0⟩ := filter_range'_cons _ _ _ _ _ gr.symm
          have glt : x < ez.size := by omega
          have grst : rst = (List.range' (x + 1) (ez.size - (x + 1))).filter (fun i => (ez[i]?.map (·.hash)) == some (k.hash w)) := by rw [grst0]; congr 2; omega
          obtain ⟨⟨k2, b, v2⟩, gkv⟩ : ∃ y, ls[x]? = some y := ⟨ls[x]'(by rw [← gsz]; exact glt), List.getElem?_eq_getElem _⟩
          have gib : isV s2.heap k2 b := gis _ (List.mem_of_getElem? gkv)
          have gex : ez[x]? = some ⟨k2.hash w, b, v2⟩ := by rw [entV_at ge x, gkv]; rfl

          have gHx : (ht = none ∧ ∀ j p, j < x → ls[j]? ≠ some (k, p)) ∨ ∃ j p, ht = some j ∧ j < x ∧ ls[j]? = some (k, p) := by
            rcases gH with ⟨h0, gno⟩ | ⟨j, p, h1, gji, gj⟩
            · refine .inl ⟨h0, fun j p gjx gj => ?_⟩
              rcases Nat.lt_or_ge j i with h | h
              · exact gno j p h gj
              · have := gskip j h gjx
                rw [hask j p gj] at this
                exact absurd this (by decide)
            · exact .inr ⟨j, p, h1, by omega, gj⟩
          have gstay : ¬ k2 = k → ((ht = none ∧ ∀ j p, j < x + 1 → ls[j]? ≠ some (k, p)) ∨ ∃ j p, ht = some j ∧ j < x + 1 ∧ ls[j]? = some (k, p)) := by
            intro gne
            rcases gHx with ⟨h0, gno⟩ | ⟨j, p, h1, gjx, gj⟩
            · refine .inl ⟨h0, fun j p gjx gj => ?_⟩
              rcases Nat.lt_or_ge j x with h | h
              · exact gno j p h gj
              · have gjx2 : j = x := by omega
                subst gjx2
                rw [gkv] at gj
                injection gj with gj
                injection gj with gj
                exact gne gj
            · exact .inr ⟨j, p, h1, by omega, gj⟩
          rw [gex]
          dsimp only
          by_cases gh : (k2.hash w == k.hash w) = true
          · rw [if_pos gh]
            refine wpAny_bind (wpAny_dictEpoch go gd (wpAny_bind (isV_eq (x := k2) (y := k) hu gib gk (wpAny_bind (wpAny_dictEpoch go gd ?_)))))
            show wpAny _ _ (if (eq0 != eq0) = true then _ else _) _ E _
            rw [if_neg (by simp)]
            by_cases gkk : k2 = k
            · rw [decide_eq_true gkk]
              subst gkk
              rcases gHx with ⟨rfl, _⟩ | ⟨j, p, _, gjx, gj⟩
              · first | rw [if_pos rfl] | skip
                simp only [Option.isSome_none, Bool.false_eq_true, if_false]
                first | refine wpAny_bind (wpAny_pure ?_) | skip
                refine wpAny_bind (wpAny_rule ?_)
                split
                · exact wpAny_pure (wpAny_pure (gSome x _ gkv))
                · exact wpAny_pure ⟨rfl, x + 1, some x, rfl, grst, glt, .inr ⟨x, _, rfl, Nat.lt_succ_self x, gkv⟩⟩
              · exact absurd (idxV nd gj gkv) (by omega)
            · rw [decide_eq_false gkk]
              simp only [Bool.false_eq_true, if_false]
              refine wpAny_bind (wpAny_rule ?_)
              first | rw [if_neg (by simp)] | skip
              first
                | exact wpAny_pure ⟨rfl, x + 1, ht, rfl, grst, glt, gstay gkk⟩
                | exact wpAny_bind (wpAny_pure (wpAny_pure ⟨rfl, x + 1, ht, rfl, grst, glt, gstay gkk⟩))
          · rw [if_neg gh]
            refine wpAny_pure ⟨rfl, x + 1, ht, rfl, grst, glt, gstay ?_⟩
            intro gkk
            rw [gkk] at gh; simp at gh
        · rintro b s2 ⟨rfl, i, ht, rfl, gr, gi, gH⟩
          have gall : ∀ j, i ≤ j → j < ez.size → ((ez[j]?.map (·.hash)) == some (k.hash w)) = false := by
            intro j h1 h2
            have := List.filter_eq_nil_iff.mp gr.symm j (List.mem_range'_1.mpr ⟨h1, by omega⟩)
            simpa using this
          rcases gH with ⟨rfl, gno⟩ | ⟨j, p, rfl, _, gj⟩
          · refine wpAny_pure (gNone fun j p gj => ?_)
            rcases Nat.lt_or_ge j i with h | h
            · exact gno j p h gj
            · have gjl : j < ez.size := by
                rw [gsz]
                rcases Nat.lt_or_ge j ls.length with h' | h'
                · exact h'
                · rw [List.getElem?_eq_none h'] at gj; exact nomatch gj
              have := gall j h gjl
              rw [hask j p gj] at this
              exact absurd this (by decide)
          · exact wpAny_pure (gSome j p gj))
    · dsimp only
      by_cases hone : (((placesWithHash ez.size (fun i => ez[i]?.map (·.hash)) (k.hash w)).filterMap (fun i => ez[i]?.map (·.key))) == [Value.int i0 t0]) = true <;>
      (first | rw [if_pos hone] | rw [if_neg hone]) <;> (first | refine wpAny_bind (wpAny_pure ?_) | refine wpAny_bind (tellsV gk gst ?_)) <;> (
        rw [if_neg (by simp)]
        refine wpAny_bind ?_
        refine wpAny_forIn_list _
          (fun rst b s2 => s2 = s ∧ ∃ i ht, b = (none, ht) ∧ rst = (List.range' i (ez.size - i)).filter (fun i => (ez[i]?.map (·.hash)) == some (k.hash w)) ∧ i ≤ ez.size ∧
            ((ht = none ∧ ∀ j p, j < i → ls[j]? ≠ some (k, p)) ∨ ∃ j p, ht = some j ∧ j < i ∧ ls[j]? = some (k, p))) _ ?_ ?_ _ _
          ⟨rfl, 0, none, rfl, by rw [placesWithHash, List.range_eq_range', Nat.sub_zero], Nat.zero_le _, .inl ⟨rfl, fun _ _ h => absurd h (Nat.not_lt_zero _)⟩⟩
        · rintro x rst b s2 ⟨rfl, i, ht, rfl, gr, gi, gH⟩
          obtain ⟨hix, hxn, hpx, gskip, grst0⟩ := filter_range'_cons _ _ _ _ _ gr.symm
          have glt : x < ez.size := by omega
          have grst : rst = (List.range' (x + 1) (ez.size - (x + 1))).filter (fun i => (ez[i]?.map (·.hash)) == some (k.hash w)) := by rw [grst0]; congr 2; omega
          obtain ⟨⟨k2, b, v2⟩, gkv⟩ : ∃ y, ls[x]? = some y := ⟨ls[x]'(by rw [← gsz]; exact glt), List.getElem?_eq_getElem _⟩
          have gib : isV s2.heap k2 b := gis _ (List.mem_of_getElem? gkv)
          have gex : ez[x]? = some ⟨k2.hash w, b, v2⟩ := by rw [entV_at ge x, gkv]; rfl

          have gHx : (ht = none ∧ ∀ j p, j < x → ls[j]? ≠ some (k, p)) ∨ ∃ j p, ht = some j ∧ j < x ∧ ls[j]? = some (k, p) := by
            rcases gH with ⟨h0, gno⟩ | ⟨j, p, h1, gji, gj⟩
            · refine .inl ⟨h0, fun j p gjx gj => ?_⟩
              rcases Nat.lt_or_ge j i with h | h
              · exact gno j p h gj
              · have := gskip j h gjx
                rw [hask j p gj] at this
                exact absurd this (by decide)
            · exact .inr ⟨j, p, h1, by omega, gj⟩
          have gstay : ¬ k2 = k → ((ht = none ∧ ∀ j p, j < x + 1 → ls[j]? ≠ some (k, p)) ∨ ∃ j p, ht = some j ∧ j < x + 1 ∧ ls[j]? = some (k, p)) := by
            intro gne
            rcases gHx with ⟨h0, gno⟩ | ⟨j, p, h1, gjx, gj⟩
            · refine .inl ⟨h0, fun j p gjx gj => ?_⟩
              rcases Nat.lt_or_ge j x with h | h
              · exact gno j p h gj
              · have gjx2 : j = x := by omega
                subst gjx2
                rw [gkv] at gj
                injection gj with gj
                injection gj with gj
                exact gne gj
            · exact .inr ⟨j, p, h1, by omega, gj⟩
          rw [gex]
          dsimp only
          by_cases gh : (k2.hash w == k.hash w) = true
          · rw [if_pos gh]
            refine wpAny_bind (wpAny_dictEpoch go gd (wpAny_bind (isV_eq (x := k2) (y := k) hu gib gk (wpAny_bind (wpAny_dictEpoch go gd ?_)))))
            show wpAny _ _ (if (eq0 != eq0) = true then _ else _) _ E _
            rw [if_neg (by simp)]
            by_cases gkk : k2 = k
            · rw [decide_eq_true gkk]
              subst gkk
              rcases gHx with ⟨rfl, _⟩ | ⟨j, p, _, gjx, gj⟩
              · first | rw [if_pos rfl] | skip
                simp only [Option.isSome_none, Bool.false_eq_true, if_false]
                first | refine wpAny_bind (wpAny_pure ?_) | skip
                refine wpAny_bind (wpAny_rule ?_)
                split
                · exact wpAny_pure (wpAny_pure (gSome x _ gkv))
                · exact wpAny_pure ⟨rfl, x + 1, some x, rfl, grst, glt, .inr ⟨x, _, rfl, Nat.lt_succ_self x, gkv⟩⟩
              · exact absurd (idxV nd gj gkv) (by omega)
            · rw [decide_eq_false gkk]
              simp only [Bool.false_eq_true, if_false]
              refine wpAny_bind (wpAny_rule ?_)
              first | rw [if_neg (by simp)] | skip
              first
                | exact wpAny_pure ⟨rfl, x + 1, ht, rfl, grst, glt, gstay gkk⟩
                | exact wpAny_bind (wpAny_pure (wpAny_pure ⟨rfl, x + 1, ht, rfl, grst, glt, gstay gkk⟩))
          · rw [if_neg gh]
            refine wpAny_pure ⟨rfl, x + 1, ht, rfl, grst, glt, gstay ?_⟩
            intro gkk
            rw [gkk] at gh; simp at gh
        · rintro b s2 ⟨rfl, i, ht, rfl, gr, gi, gH⟩
          have gall : ∀ j, i ≤ j → j < ez.size → ((ez[j]?.map (·.hash)) == some (k.hash w)) = false := by
            intro j h1 h2
            have := List.filter_eq_nil_iff.mp gr.symm j (List.mem_range'_1.mpr ⟨h1, by omega⟩)
            simpa using this
          rcases gH with ⟨rfl, gno⟩ | ⟨j, p, rfl, _, gj⟩
          · refine wpAny_pure (gNone fun j p gj => ?_)
            rcases Nat.lt_or_ge j i with h | h
            · exact gno j p h gj
            · have gjl : j < ez.size := by
                rw [gsz]
                rcases Nat.lt_or_ge j ls.length with h' | h'
                · exact h'
                · rw [List.getElem?_eq_none h'] at gj; exact nomatch gj
              have := gall j h gjl
              rw [hask j p gj] at this
              exact absurd this (by decide)
          · exact wpAny_pure (gSome j p gj))
    · dsimp only
      rw [if_neg (hstrs x0 t0 rfl)]
      by_cases hone : (((placesWithHash ez.size (fun i => ez[i]?.map (·.hash)) (k.hash w)).filterMap (fun i => ez[i]?.map (·.key))) == [Value.str x0 t0]) = true <;>
      (first | rw [if_pos hone] | rw [if_neg hone]) <;> (first | refine wpAny_bind (wpAny_pure ?_) | refine wpAny_bind (tellsV gk gst ?_)) <;> (
        rw [if_neg (by simp)]
        refine wpAny_bind ?_
        refine wpAny_forIn_list _
          (fun rst b s2 => s2 = s ∧ ∃ i ht, b = (none, ht) ∧ rst = (List.range' i (ez.size - i)).filter (fun i => (ez[i]?.map (·.hash)) == some (k.hash w)) ∧ i ≤ ez.size ∧
            ((ht = none ∧ ∀ j p, j < i → ls[j]? ≠ some (k, p)) ∨ ∃ j p, ht = some j ∧ j < i ∧ ls[j]? = some (k, p))) _ ?_ ?_ _ _
          ⟨rfl, 0, none, rfl, by rw [placesWithHash, List.range_eq_range', Nat.sub_zero], Nat.zero_le _, .inl ⟨rfl, fun _ _ h => absurd h (Nat.not_lt_zero _)⟩⟩
        · rintro x rst b s2 ⟨rfl, i, ht, rfl, gr, gi, gH⟩
          obtain ⟨hix, hxn, hpx, gskip, grst0⟩ := filter_range'_cons _ _ _ _ _ gr.symm
          have glt : x < ez.size := by omega
          have grst : rst = (List.range' (x + 1) (ez.size - (x + 1))).filter (fun i => (ez[i]?.map (·.hash)) == some (k.hash w)) := by rw [grst0]; congr 2; omega
          obtain ⟨⟨k2, b, v2⟩, gkv⟩ : ∃ y, ls[x]? = some y := ⟨ls[x]'(by rw [← gsz]; exact glt), List.getElem?_eq_getElem _⟩
          have gib : isV s2.heap k2 b := gis _ (List.mem_of_getElem? gkv)
          have gex : ez[x]? = some ⟨k2.hash w, b, v2⟩ := by rw [entV_at ge x, gkv]; rfl

          have gHx : (ht = none ∧ ∀ j p, j < x → ls[j]? ≠ some (k, p)) ∨ ∃ j p, ht = some j ∧ j < x ∧ ls[j]? = some (k, p) := by
            rcases gH with ⟨h0, gno⟩ | ⟨j, p, h1, gji, gj⟩
            · refine .inl ⟨h0, fun j p gjx gj => ?_⟩
              rcases Nat.lt_or_ge j i with h | h
              · exact gno j p h gj
              · have := gskip j h gjx
                rw [hask j p gj] at this
                exact absurd this (by decide)
            · exact .inr ⟨j, p, h1, by omega, gj⟩
          have gstay : ¬ k2 = k → ((ht = none ∧ ∀ j p, j < x + 1 → ls[j]? ≠ some (k, p)) ∨ ∃ j p, ht = some j ∧ j < x + 1 ∧ ls[j]? = some (k, p)) := by
            intro gne
            rcases gHx with ⟨h0, gno⟩ | ⟨j, p, h1, gjx, gj⟩
            · refine .inl ⟨h0, fun j p gjx gj => ?_⟩
              rcases Nat.lt_or_ge j x with h | h
              · exact gno j p h gj
              · have gjx2 : j = x := by omega
                subst gjx2
                rw [gkv] at gj
                injection gj with gj
                injection gj with gj
                exact gne gj
            · exact .inr ⟨j, p, h1, by omega, gj⟩
          rw [gex]
          dsimp only
          by_cases gh : (k2.hash w == k.hash w) = true
          · rw [if_pos gh]
            refine wpAny_bind (wpAny_dictEpoch go gd (wpAny_bind (isV_eq (x := k2) (y := k) hu gib gk (wpAny_bind (wpAny_dictEpoch go gd ?_)))))
            show wpAny _ _ (if (eq0 != eq0) = true then _ else _) _ E _
            rw [if_neg (by simp)]
            by_cases gkk : k2 = k
            · rw [decide_eq_true gkk]
              subst gkk
              rcases gHx with ⟨rfl, _⟩ | ⟨j, p, _, gjx, gj⟩
              · first | rw [if_pos rfl] | skip
                simp only [Option.isSome_none, Bool.false_eq_true, if_false]
                first | refine wpAny_bind (wpAny_pure ?_) | skip
                refine wpAny_bind (wpAny_rule ?_)
                split
                · exact wpAny_pure (wpAny_pure (gSome x _ gkv))
                · exact wpAny_pure ⟨rfl, x + 1, some x, rfl, grst, glt, .inr ⟨x, _, rfl, Nat.lt_succ_self x, gkv⟩⟩
              · exact absurd (idxV nd gj gkv) (by omega)
            · rw [decide_eq_false gkk]
              simp only [Bool.false_eq_true, if_false]
              refine wpAny_bind (wpAny_rule ?_)
              first | rw [if_neg (by simp)] | skip
              first
                | exact wpAny_pure ⟨rfl, x + 1, ht, rfl, grst, glt, gstay gkk⟩
                | exact wpAny_bind (wpAny_pure (wpAny_pure ⟨rfl, x + 1, ht, rfl, grst, glt, gstay gkk⟩))
          · rw [if_neg gh]
            refine wpAny_pure ⟨rfl, x + 1, ht, rfl, grst, glt, gstay ?_⟩
            intro gkk
            rw [gkk] at gh; simp at gh
        · rintro b s2 ⟨rfl, i, ht, rfl, gr, gi, gH⟩
          have gall : ∀ j, i ≤ j → j < ez.size → ((ez[j]?.map (·.hash)) == some (k.hash w)) = false := by
            intro j h1 h2
            have := List.filter_eq_nil_iff.mp gr.symm j (List.mem_range'_1.mpr ⟨h1, by omega⟩)
            simpa using this
          rcases gH with ⟨rfl, gno⟩ | ⟨j, p, rfl, _, gj⟩
          · refine wpAny_pure (gNone fun j p gj => ?_)
            rcases Nat.lt_or_ge j i with h | h
            · exact gno j p h gj
            · have gjl : j < ez.size := by
                rw [gsz]
                rcases Nat.lt_or_ge j ls.length with h' | h'
                · exact h'
                · rw [List.getElem?_eq_none h'] at gj; exact nomatch gj
              have := gall j h gjl
              rw [hask j p gj] at this
              exact absurd this (by decide)
          · exact wpAny_pure (gSome j p gj))
    · dsimp only
      rw [if_neg (hany b0 rfl)]
      by_cases hone : (((placesWithHash ez.size (fun i => ez[i]?.map (·.hash)) (k.hash w)).filterMap (fun i => ez[i]?.map (·.key))) == [Value.ref b0]) = true <;>
      (first | rw [if_pos hone] | rw [if_neg hone]) <;> (first | refine wpAny_bind (wpAny_pure ?_) | refine wpAny_bind (tellsV gk gst ?_)) <;> (
        rw [if_neg (by simp)]
        refine wpAny_bind ?_
        refine wpAny_forIn_list _
          (fun rst b s2 => s2 = s ∧ ∃ i ht, b = (none, ht) ∧ rst = (List.range' i (ez.size - i)).filter (fun i => (ez[i]?.map (·.hash)) == some (k.hash w)) ∧ i ≤ ez.size ∧
            ((ht = none ∧ ∀ j p, j < i → ls[j]? ≠ some (k, p)) ∨ ∃ j p, ht = some j ∧ j < i ∧ ls[j]? = some (k, p))) _ ?_ ?_ _ _
          ⟨rfl, 0, none, rfl, by rw [placesWithHash, List.range_eq_range', Nat.sub_zero], Nat.zero_le _, .inl ⟨rfl, fun _ _ h => absurd h (Nat.not_lt_zero _)⟩⟩
        · rintro x rst b s2 ⟨rfl, i, ht, rfl, gr, gi, gH⟩
          obtain ⟨hix, hxn, hpx, gskip, grst0⟩ := filter_range'_cons _ _ _ _ _ gr.symm
          have glt : x < ez.size := by omega
          have grst : rst = (List.range' (x + 1) (ez.size - (x + 1))).filter (fun i => (ez[i]?.map (·.hash)) == some (k.hash w)) := by rw [grst0]; congr 2; omega
          obtain ⟨⟨k2, b, v2⟩, gkv⟩ : ∃ y, ls[x]? = some y := ⟨ls[x]'(by rw [← gsz]; exact glt), List.getElem?_eq_getElem _⟩
          have gib : isV s2.heap k2 b := gis _ (List.mem_of_getElem? gkv)
          have gex : ez[x]? = some ⟨k2.hash w, b, v2⟩ := by rw [entV_at ge x, gkv]; rfl

          have gHx : (ht = none ∧ ∀ j p, j < x → ls[j]? ≠ some (k, p)) ∨ ∃ j p, ht = some j ∧ j < x ∧ ls[j]? = some (k, p) := by
            rcases gH with ⟨h0, gno⟩ | ⟨j, p, h1, gji, gj⟩
            · refine .inl ⟨h0, fun j p gjx gj => ?_⟩
              rcases Nat.lt_or_ge j i with h | h
              · exact gno j p h gj
              · have := gskip j h gjx
                rw [hask j p gj] at this
                exact absurd this (by decide)
            · exact .inr ⟨j, p, h1, by omega, gj⟩
          have gstay : ¬ k2 = k → ((ht = none ∧ ∀ j p, j < x + 1 → ls[j]? ≠ some (k, p)) ∨ ∃ j p, ht = some j ∧ j < x + 1 ∧ ls[j]? = some (k, p)) := by
            intro gne
            rcases gHx with ⟨h0, gno⟩ | ⟨j, p, h1, gjx, gj⟩
            · refine .inl ⟨h0, fun j p gjx gj => ?_⟩
              rcases Nat.lt_or_ge j x with h | h
              · exact gno j p h gj
              · have gjx2 : j = x := by omega
                subst gjx2
                rw [gkv] at gj
                injection gj with gj
                injection gj with gj
                exact gne gj
            · exact .inr ⟨j, p, h1, by omega, gj⟩
          rw [gex]
          dsimp only
          by_cases gh : (k2.hash w == k.hash w) = true
          · rw [if_pos gh]
            refine wpAny_bind (wpAny_dictEpoch go gd (wpAny_bind (isV_eq (x := k2) (y := k) hu gib gk (wpAny_bind (wpAny_dictEpoch go gd ?_)))))
            show wpAny _ _ (if (eq0 != eq0) = true then _ else _) _ E _
            rw [if_neg (by simp)]
            by_cases gkk : k2 = k
            · rw [decide_eq_true gkk]
              subst gkk
              rcases gHx with ⟨rfl, _⟩ | ⟨j, p, _, gjx, gj⟩
              · first | rw [if_pos rfl] | skip
                simp only [Option.isSome_none, Bool.false_eq_true, if_false]
                first | refine wpAny_bind (wpAny_pure ?_) | skip
                refine wpAny_bind (wpAny_rule ?_)
                split
                · exact wpAny_pure (wpAny_pure (gSome x _ gkv))
                · exact wpAny_pure ⟨rfl, x + 1, some x, rfl, grst, glt, .inr ⟨x, _, rfl, Nat.lt_succ_self x, gkv⟩⟩
              · exact absurd (idxV nd gj gkv) (by omega)
            · rw [decide_eq_false gkk]
              simp only [Bool.false_eq_true, if_false]
              refine wpAny_bind (wpAny_rule ?_)
              first | rw [if_neg (by simp)] | skip
              first
                | exact wpAny_pure ⟨rfl, x + 1, ht, rfl, grst, glt, gstay gkk⟩
                | exact wpAny_bind (wpAny_pure (wpAny_pure ⟨rfl, x + 1, ht, rfl, grst, glt, gstay gkk⟩))
          · rw [if_neg gh]
            refine wpAny_pure ⟨rfl, x + 1, ht, rfl, grst, glt, gstay ?_⟩
            intro gkk
            rw [gkk] at gh; simp at gh
        · rintro b s2 ⟨rfl, i, ht, rfl, gr, gi, gH⟩
          have gall : ∀ j, i ≤ j → j < ez.size → ((ez[j]?.map (·.hash)) == some (k.hash w)) = false := by
            intro j h1 h2
            have := List.filter_eq_nil_iff.mp gr.symm j (List.mem_range'_1.mpr ⟨h1, by omega⟩)
            simpa using this
          rcases gH with ⟨rfl, gno⟩ | ⟨j, p, rfl, _, gj⟩
          · refine wpAny_pure (gNone fun j p gj => ?_)
            rcases Nat.lt_or_ge j i with h | h
            · exact gno j p h gj
            · have gjl : j < ez.size := by
                rw [gsz]
                rcases Nat.lt_or_ge j ls.length with h' | h'
                · exact h'
                · rw [List.getElem?_eq_none h'] at gj; exact nomatch gj
              have := gall j h gjl
              rw [hask j p gj] at this
              exact absurd this (by decide)
          · exact wpAny_pure (gSome j p gj))
def DictV (w : World) (h : Heap) (d : Addr) (ls : List (W × Value × Value)) : Prop :=
  ∃ o ez eq0, h.get? d = some o ∧ o.ExactDict ∧ o.data = .dict ez eq0 ∧ ez.toList = ls.map (entV w) ∧ (∀ x ∈ ls, isV h x.1 x.2.1) ∧ (ls.map (·.1)).Nodup
theorem DictV.typeIs {d : Addr} {ls : List (W × Value × Value)} (gm : DictV w s.heap d ls) : s.TypeIs (.ref d) "dict" := let ⟨o, _, _, go, gc, _⟩ := gm; ⟨o, go, gc.1⟩
theorem DictV.new (h : Heap) : DictV w (h.push { cls := .type "dict", data := .dict #[] }) h.objs.size [] :=
  ⟨_, #[], 0, Heap.get?_push_size _ rfl, ⟨rfl, rfl, rfl⟩, rfl, rfl, fun _ gx => by simp at gx, List.nodup_nil⟩
theorem getV {d : Addr} {a : Value} {ls : List (W × Value × Value)} {k : W} {Q : Option Value → Shared → Prop} (hu : A.units + 8 < cLine) (gk : isV s.heap k a) (gm : DictV w s.heap d ls)
    (h : Q ((atV ls k).map (·.2)) { s with toks := s.toks + k.draws }) : wpAny (model prog w) A (dictGet d a) Q E s := by
  obtain ⟨o, ez, eq0, go, _, gd, ge, gis, nd⟩ := gm
  unfold dictGet
  try with_reducible refine wpAny_holding ?_
  refine wpAny_bind (isV_hash hu gk (wpAny_bind (findV (s := { s with toks := s.toks + k.draws }) hu gk go gd ge gis nd ?_ ?_)))
  · intro gno
    rw [atV_none_of_get gno] at h
    exact wpAny_pure h
  · intro j p gj
    rw [atV_of_get nd gj] at h
    refine wpAny_bind (wpAny_dictEntries (s := { s with toks := s.toks + k.draws }) go gd ?_)
    rw [entV_at ge j, gj]
    exact wpAny_pure h

theorem setV {d : Addr} {a : Value} {ls : List (W × Value × Value)} {k : W} {v : Value} {Q : Unit → Shared → Prop} (hu : A.units + 8 < cLine) (gk : isV s.heap k a) (gm : DictV w s.heap d ls)
    (gQ : ∀ h', DictV w h' d (stV ls k a v) → Heap.SameBut d s.heap h' → Q () { s with heap := h', toks := s.toks + k.draws })
    (gsz : ls.length ≤ sizeLine := by size_fits) :
    wpAny (model prog w) A (dictSet d a v) Q E s := by
  obtain ⟨o, ez, eq0, go, gc, gd, ge, gis, nd⟩ := gm
  unfold dictSet
  try with_reducible refine wpAny_holding ?_
  refine wpAny_bind (isV_hash hu gk ?_)
  unfold dictSetHashed
  try with_reducible refine wpAny_holding ?_
  refine wpAny_bind (findV (s := { s with toks := s.toks + k.draws }) hu gk go gd ge gis nd ?_ ?_)
  · intro gno
    have gnot : k ∉ ls.map (·.1) := notmV gno
    refine wpAny_bind (wpAny_rule (wpAny_updateDictKeys (hz := by have e := entV_size ge; omega) (s := { s with toks := s.toks + k.draws }) go gd (gQ _ ⟨_, _, eq0 + 1, Heap.get?_update_self _ go (Obj.isFreed_of_dict (Obj.data_mapDictKeys gd _)),
      gc.mapDictKeys _, Obj.data_mapDictKeys gd _, ?_, ?_, ?_⟩ (Heap.SameBut.update ..))))
    · rw [stV_new (atV_none_of_get gno)]
      simp [ge, entV]
    · rw [stV_new (atV_none_of_get gno)]
      intro x gx
      rcases List.mem_append.mp gx with gx | gx
      · exact isV_keeps (gis x gx) go gd (Heap.SameBut.update ..)
      · simp only [List.mem_singleton] at gx
        subst gx
        exact isV_keeps gk go gd (Heap.SameBut.update ..)
    · rw [stV_new (atV_none_of_get gno)]
      rw [List.map_append, List.nodup_append]
      refine ⟨nd, by simp, ?_⟩
      intro x gx y hy
      simp only [List.map_cons, List.map_nil, List.mem_singleton] at hy
      subst hy
      exact fun e => gnot (e ▸ gx)
  · intro j p gj
    refine wpAny_bind (wpAny_rule (wpAny_bind (wpAny_updateDict (s := { s with toks := s.toks + k.draws }) go gd (wpAny_point (gQ _ ⟨_, _, eq0, Heap.get?_update_self _ go (Obj.isFreed_of_dict (Obj.data_mapDict gd _)),
      gc.mapDict _, Obj.data_mapDict gd _, ?_, ?_, ?_⟩ (Heap.SameBut.update ..))))))
    · rw [stV_old (atV_of_get nd gj)]
      have := modputV (entV w) (fun e : DictEntry => { e with val := v }) k v (fun _ _ => rfl) nd gj
      rw [← ge] at this
      obtain ⟨l⟩ := ez
      simpa using this
    · rw [stV_old (atV_of_get nd gj)]
      intro x gx
      obtain ⟨y, hy, rfl⟩ := List.mem_map.mp gx
      unfold putV
      split <;> exact isV_keeps (gis y hy) go gd (Heap.SameBut.update ..)
    · rw [stV_old (atV_of_get nd gj)]
      rw [keysputV]; exact nd

end
end Ly

namespace Ly
open PySem PySem.Spec PyProof.Rows L2
abbrev XW := W × Value × Value
def DVO (w : World) (d : Addr) (xs : List XW) : HO := .ext fun h => xs.length ≤ sizeLine ∧ (d == sysModules) = false ∧
  ∃ o es ep, h.get? d = some o ∧ o.ExactDict ∧ o.data = .dict es ep ∧ es.toList = xs.map (entV w) ∧ (xs.map (·.1)).Nodup
/-- an entry as it stands, and as it is read -/
def mdRel (H : Hp) (e : W × V) (x : XW) : Prop := e.1 = x.1 ∧ RelV e.2 x.2.2 ∧ e.1.depth ≤ 8 ∧ ∃ kv : V, RelV kv x.2.1 ∧ Wk H e.1 kv
/-- a dict by its words and values -/
def MD (w : World) (H : Hp) (d : Addr) (es : List (W × V)) : Prop := ∃ xs, H d = some (DVO w d xs) ∧ Paired (mdRel H) es xs
section
variable {P : Program} {w : World} {H H2 : Hp} {h : Heap} {d : Addr} {xs : List XW} {es : List (W × V)}
theorem dvo_ok (z : xs.length ≤ sizeLine) (hd : (d == sysModules) = false) (dd : DictV w h d xs) : ObjOk P w H h d (DVO w d xs) := by
  obtain ⟨o, ez, eq0, h1, h2, h3, h4, h5, h6⟩ := dd
  refine ⟨⟨z, hd, o, ez, eq0, h1, h2, h3, h4, h6⟩, ⟨o, h1⟩, ?_⟩
  rintro g1 g2 ⟨a1, a2, o', es', ep', b1, b2⟩ k
  exact ⟨a1, a2, o', es', ep', k _ b1, b2⟩
theorem MD.up (hs : Same H H2) (m : MD w H d es) : MD w H2 d es := by
  obtain ⟨xs, a, p⟩ := m
  exact ⟨xs, hs _ _ a, Paired.mapP p fun e x r => ⟨r.1, r.2.1, r.2.2.1, by
    obtain ⟨kv, q1, q2⟩ := r.2.2.2
    exact ⟨kv, q1, q2.up hs⟩⟩⟩
theorem paired_mem {α β : Type} {R : α → β → Prop} : ∀ {l : List α} {m : List β}, Paired R l m → ∀ x ∈ m, ∃ e ∈ l, R e x
  | _, _, .nil, x, hx => by cases hx
  | _, _, .cons r t, x, hx => by
    rcases List.mem_cons.mp hx with z | z
    · rw [z]; exact ⟨_, by simp, r⟩
    · obtain ⟨e, he, q⟩ := paired_mem t x z
      exact ⟨e, by simp [he], q⟩
theorem isV_wk {k : W} {kv : V} {u : Value} (ok : HOk P w H h) (e : Wk H k kv) (r : RelV kv u) (dp : k.depth ≤ 8) : isV h k u := ⟨(wk_plain (Same.refl H) ok e r).nested, dp⟩
theorem dv_of (ok : HOk P w H h) (hd : H d = some (DVO w d xs)) (p : Paired (mdRel H) es xs) : xs.length ≤ sizeLine ∧ (d == sysModules) = false ∧ DictV w h d xs := by
  obtain ⟨⟨z, y, o, ez, eq0, h1, h2, h3, h4, h5⟩, _⟩ := (show ObjOk P w H h d (DVO w d xs) from ok d _ hd)
  refine ⟨z, y, o, ez, eq0, h1, h2, h3, h4, fun x hx => ?_, h5⟩
  obtain ⟨e, _, r⟩ := paired_mem p x hx
  obtain ⟨kv, q1, q2⟩ := r.2.2.2
  rw [← r.1]
  exact isV_wk ok q2 q1 r.2.2.1
def valW (es : List (W × V)) (k : W) : Option V := (es.find? fun e => decide (e.1 = k)).map (·.2)
def putW (es : List (W × V)) (k : W) (v : V) : List (W × V) := if (valW es k).isSome then es.map fun e => if e.1 = k then (e.1, v) else e else es ++ [(k, v)]
theorem md_at {k : W} : ∀ {es : List (W × V)} {xs : List XW}, Paired (mdRel H) es xs → RelO (valW es k) ((atV xs k).map (·.2))
  | _, _, .nil => True.intro
  | _, _, .cons (a := e) (b := x) r t => by
    have ih := md_at (k := k) t
    unfold valW atV at ih ⊢
    simp only [List.find?_cons]
    have e1 := r.1
    by_cases z : x.1 = k
    · have z2 : e.1 = k := e1.trans z
      simp only [z, z2, decide_true, Option.map_some]
      exact r.2.1
    · have z2 : ¬ e.1 = k := fun y => z (e1.symm.trans y)
      simp only [z, z2, decide_false]
      exact ih
theorem some_of_relO {o : Option V} {u : Option Value} (r : RelO o u) : o.isSome = u.isSome := RelO.isSome_eq r
theorem paired_app {α β : Type} {R : α → β → Prop} {a : α} {b : β} : ∀ {l : List α} {m : List β}, Paired R l m → R a b → Paired R (l ++ [a]) (m ++ [b])
  | _, _, .nil, r => .cons r .nil
  | _, _, .cons q t, r => .cons q (paired_app t r)
theorem md_put {k : W} {v kv : V} {u ku : Value} {es : List (W × V)} {xs : List XW} (p : Paired (mdRel H) es xs) (rv : RelV v u) (rk : RelV kv ku) (wk : Wk H k kv) (dp : k.depth ≤ 8) : Paired (mdRel H) (putW es k v) (stV xs k ku u) := by
  have e := some_of_relO (md_at (k := k) p)
  rw [Option.isSome_map] at e
  unfold putW stV
  rw [e]
  by_cases z : (atV xs k).isSome = true
  · rw [if_pos z, if_pos z]
    clear z e
    induction p with
    | nil => exact .nil
    | @cons a b l m r t ih =>
      refine .cons ?_ ih
      unfold putV
      show mdRel H (if a.1 = k then (a.1, v) else a) _
      by_cases y : b.1 = k
      · rw [if_pos (r.1.trans y), if_pos y]
        exact ⟨r.1, rv, r.2.2.1, r.2.2.2⟩
      · rw [if_neg (fun q => y (r.1.symm.trans q)), if_neg y]
        exact r
  · rw [if_neg z, if_neg z]
    exact paired_app p ⟨rfl, rv, dp, kv, rk, wk⟩
theorem stV_len (xs : List XW) (k : W) (a v : Value) : (stV xs k a v).length ≤ xs.length + 1 := by
  unfold stV
  split <;> simp
end
section
variable {X : Cx} {pn : List (Addr × Obj)} {τ : L2.St} {H : Hp} {s : Shared} {E : Value → Shared → Prop} {d : Addr} {es : List (W × V)} {k : W} {kv v : V} {ku u : Value}
/-- d[k] = v by a comprehension -/
theorem mdRel.up {H H2 : Hp} (hs : Same H H2) {es : List (W × V)} {xs : List XW} (p : Paired (mdRel H) es xs) : Paired (mdRel H2) es xs := Paired.mapP p fun e x r => ⟨r.1, r.2.1, r.2.2.1, by
  obtain ⟨kv, q1, q2⟩ := r.2.2.2
  exact ⟨kv, q1, q2.up hs⟩⟩
theorem md_set {G : Hp} {xs : List XW} {Q : Unit → Shared → Prop} (J : L2.Inv X pn τ H s) (hu : X.A.units + 64 < cLine) (hG : Same G H) (hd : H d = some (DVO X.w d xs)) (p : Paired (mdRel G) es xs) (hz : es.length < sizeLine) (wk : Wk G k kv) (dp : k.depth ≤ 8) (rk : RelV kv ku) (rv : RelV v u)
    (h : ∀ s2 xs2, L2.Inv X pn τ (upd H d (DVO X.w d xs2)) s2 → Paired (mdRel G) (putW es k v) xs2 → Q () s2) : wpAny (model X.prog X.w) X.A (dictSet d ku u) Q E s := by
  obtain ⟨z, hm, dd⟩ := dv_of J.hok hd (mdRel.up hG p)
  have ln : xs.length = es.length := (Paired.length p).symm
  have hl : (stV xs k ku u).length ≤ sizeLine := by have := stV_len xs k ku u; omega
  refine setV (A := X.A) (gsz := z) (by omega) (isV_wk J.hok (wk.up hG) rk dp) dd fun h2 dd2 hs => h _ _ ?_ (md_put p rv rk wk dp)
  have he : ∃ q, h2.get? d = some q := let ⟨q, _, _, hq, _⟩ := dd2; ⟨q, hq⟩
  exact d_write J (by rw [hd]; exact True.intro) hs he (dvo_ok hl hm dd2)
end
end Ly

namespace Ly
open PySem PySem.Spec PyProof.Rows L2
theorem dvo_empty {P : Program} {w : World} {H : Hp} (h : Heap) (hb : sysModules < h.objs.size) : ObjOk P w H (h.push { cls := .type "dict", data := .dict #[] }) h.objs.size (DVO w h.objs.size []) :=
  dvo_ok (Nat.zero_le _) (by
    cases z : (h.objs.size == sysModules) with
    | false => rfl
    | true =>
      have := eq_of_beq z
      rw [this] at hb
      exact absurd hb (Nat.lt_irrefl _)) (DictV.new h)
section
variable {X : Cx}
/-- {k: v for .. in .. if ..}, the keys words of any kind -/
def tDcM (w : World) (wi : TI) (g : TG) (tt : TT) (tk tv : TE) (vs : List Nat) : TE := fun σ H Q => wi σ H fun Jt H1 => ∀ D, H1 D = none → ∃ Wq : Nat → Nat → Hp → Prop, (∃ m, Wq 0 m (upd H1 D (DVO w D []))) ∧ ∀ i m H, Wq i m H →
  (Jt.stop i H ∧ Q (.ref D) H) ∨ (Jt.go i H ∧ ∃ Nx : Hp → Prop, (∀ H2, Nx H2 → ∃ m2, m2 < m ∧ Wq (i + 1) m2 H2) ∧ ∀ x H2, Jt.yld i H x H2 → g x (wipe σ vs) H2 fun σ2 H2 => wipe σ2 vs = wipe σ vs ∧ tt σ2 H2 fun b H3 =>
    if b = true then tk σ2 H3 fun y H4 => tv σ2 H4 fun z H5 => ∃ G es k ents, Same G H5 ∧ Wk G k y ∧ k.depth ≤ 8 ∧ H5 D = some (DVO w D ents) ∧ Paired (mdRel G) es ents ∧ es.length < sizeLine ∧ ∀ xs2, Paired (mdRel G) (putW es k z) xs2 → Nx (upd H5 D (DVO w D xs2)) else Nx H3)
theorem dcM_core {pn : List (Addr × Obj)} {s : Shared} {τ : L2.St} {H : Hp} {Q : VK} {kX vX tg iter : Expr} {ifs : List Expr} {sco : Scope} {ows : List (Str × Nat)} {po pos' : Pos} {wi : TI} {g : TG} {tq : TT} {tk tv : TE} {uze : Option (Value → Sem Unit)} {Qf : Value → Shared → Prop}
    (hu : X.A.units + 64 < cLine) (hc : X.calm = true) (hN : X.N.Nodup) (I : Inv X pn τ H s) (hi : PI X tg iter wi) (okk : BlkOk X.N X.env.scope sco ows)
    (hg : ∀ (s : Shared) (H : Hp) (C : Addr) (cl : List (Str × Addr)) (fq : List Addr), PG (X.blk s H sco (compEnvC sco cl C X.env) fq) tg g) (ht : ∀ (s : Shared) (H : Hp) (C : Addr) (cl : List (Str × Addr)) (fq : List Addr), PTs (X.blk s H sco (compEnvC sco cl C X.env) fq) ifs tq)
    (hk : ∀ (s : Shared) (H : Hp) (C : Addr) (cl : List (Str × Addr)) (fq : List Addr), PE (X.blk s H sco (compEnvC sco cl C X.env) fq) kX tk)
    (he : ∀ (s : Shared) (H : Hp) (C : Addr) (cl : List (Str × Addr)) (fq : List Addr), PE (X.blk s H sco (compEnvC sco cl C X.env) fq) vX tv) (hs : ∀ x, foldedSetIterable iter X.env x = pure x)
    (h : tDcM X.w wi g tq tk tv (ows.map (·.2)) τ H Q)
    (hRR : ∀ D C sz m Gz, Inv X pn τ Gz sz → Q (.ref D) Gz → sz.heap.Ns C m → FpOk X pn Gz C → compPost (model X.prog X.w) X.A X.xe uze Qf (.ref D) C (.ok .next) sz) :
    wpAny (model X.prog X.w) X.A (comprehension (.DictComp kX vX [⟨tg, iter, ifs, 0⟩] sco po) sco X.env pos' newDict false (eval iter X.env) uze) Qf X.xe s := by
  have hfr : ∀ y ∈ sco.names, y.2 = .free → ∃ c, X.env.cells.lookup y.1 = some c := fun y hy e => by
    rcases okk.free y hy e with k | k
    · exact I.ok.has _ (.inl k)
    · exact I.ok.has _ (.inr k)
  refine wpAny_comprehension_free (use := uze) rfl hs (closure_ok hfr) okk.kind (fun y hy e => by rw [okk.uniq y hy, e])
    (thn (hi.run pn s τ H _ I h) fun xv sA hx => thn hx fun itv sB h2 => ?_)
  obtain ⟨it, fq, tn, J, G2, e, J2, T, sv2, f2, q⟩ := h2
  subst e
  refine wpAny_newObj_type (newEnv_comp ?_)
  generalize hD : sB.heap.objs.size = D
  have hDn : G2 D = none := J2.hok.fresh (Nat.le_of_eq hD)
  obtain ⟨Wq, ⟨m0, w0⟩, turn⟩ := q D hDn
  -- the new list
  generalize hs3 : ({ sB with heap := sB.heap.push { cls := .type "dict", data := .dict #[] } } : Shared) = sC
  have J3 : Inv X pn τ (upd G2 D (DVO X.w D [])) sC := by
    rw [← hs3]
    refine J2.laid (t' := sB.toks) (fun b o e => Heap.get?_push_of_some _ e) (Nat.le_of_eq hD) ?_
    rw [← hD]
    exact dvo_empty sB.heap J2.big
  have h3 : sC.heap = sB.heap.push { cls := .type "dict", data := .dict #[] } := by rw [← hs3]
  have sz : ∀ b ∈ fq, b < sB.heap.objs.size := fun b hb => by
    obtain ⟨o, e, _⟩ := T.obj _ _ sv2 b hb
    exact Heap.lt_size e
  have f3 : ∀ b ∈ fq, FpOk X pn (upd G2 D (DVO X.w D [])) b ∧ b < sC.heap.objs.size := fun b hb => by
    have hlt := sz b hb
    refine ⟨⟨?_, (f2 b hb).2⟩, by rw [h3, Heap.size_push]; exact Nat.lt_succ_of_lt hlt⟩
    rw [upd_ne (by rw [← hD]; exact Nat.ne_of_lt hlt)]
    exact (f2 b hb).1
  have sv3 : tn 0 sC.heap := T.keep _ _ _ sv2 fun b _ o e => by rw [h3]; exact Heap.get?_push_of_some _ e
  have J4 := block_start J3 okk hN f3
  have pg := hg sC (upd G2 D (DVO X.w D [])) sC.heap.objs.size (cellsFrom (sC.heap.objs.size + 1) sco.names (cloFrom X.env.cells sco.names [])) fq
  have pt := ht sC (upd G2 D (DVO X.w D [])) sC.heap.objs.size (cellsFrom (sC.heap.objs.size + 1) sco.names (cloFrom X.env.cells sco.names [])) fq
  have pk := hk sC (upd G2 D (DVO X.w D [])) sC.heap.objs.size (cellsFrom (sC.heap.objs.size + 1) sco.names (cloFrom X.env.cells sco.names [])) fq
  have pe := he sC (upd G2 D (DVO X.w D [])) sC.heap.objs.size (cellsFrom (sC.heap.objs.size + 1) sco.names (cloFrom X.env.cells sco.names [])) fq
  show codeAny _ _ (.compStart (.DictComp kX vX [⟨tg, iter, ifs, 0⟩] sco po) 0 (.ref it) (.ref D) (compEnvC sco (cellsFrom (sC.heap.objs.size + 1) sco.names (cloFrom X.env.cells sco.names [])) sC.heap.objs.size X.env)) (compPost (model X.prog X.w) X.A X.xe uze Qf (.ref D) sC.heap.objs.size) { sC with heap := pushCells (sC.heap.push { cls := .type "dict", data := .dict #[] }) sco.names }
  have nfp : ∀ b ∈ fq, (upd G2 D (DVO X.w D [])) b = none := fun b hb => (f3 b hb).1.1
  generalize hce : compEnvC sco (cellsFrom (sC.heap.objs.size + 1) sco.names (cloFrom X.env.cells sco.names [])) sC.heap.objs.size X.env = cev at J4 pg pt pk pe ⊢
  have cL : cev.locals = sC.heap.objs.size := by subst hce; rfl
  generalize hH3 : upd G2 D (DVO X.w D []) = G3 at J3 J4 pg pt pk pe w0 nfp f3
  generalize hs4 : ({ sC with heap := pushCells (sC.heap.push { cls := .type "dict", data := .dict #[] }) sco.names } : Shared) = sD at J4 ⊢
  have sv4 : tn 0 sD.heap := T.keep _ _ _ sv3 fun b _ o e => by rw [← hs4]; exact pushCells_keeps _ _ _ _ (Heap.get?_push_of_some _ e)
  have stat : ∀ {τz : L2.St} {Gz : Hp} {sz : Shared}, Inv (X.blk sC G3 sco cev fq) [] τz Gz sz → (∀ b ∈ fq, Gz b = none) → ∀ b ∈ fq, FpOk (X.blk sC G3 sco cev fq) [] Gz b := fun {τz Gz sz} Jz hn b hb =>
    ⟨hn b hb, (Jz.ok.exf b hb).1, Jz.ok.exfs b hb, .inl hb, fun x c e => (Jz.ok.exf b hb).2 x c e, fun p hp => absurd (show p ∈ ([] : List (Addr × Obj)) ++ [] from hp) (by simp)⟩
  have loop : codeAny (model X.prog X.w) X.A (.compLoop (.DictComp kX vX [⟨tg, iter, ifs, 0⟩] sco po) 0 (.ref it) (.ref D) cev) (compPost (model X.prog X.w) X.A X.xe uze Qf (.ref D) sC.heap.objs.size) sD := by
    refine compLoop_anyD (fun n sz => ∃ i Gz, Inv (X.blk sC G3 sco cev fq) [] (wipe τ (ows.map (·.2))) Gz sz ∧ tn i sz.heap ∧ (∀ b ∈ fq, Gz b = none) ∧ Wq i n Gz) ?_ m0 ⟨0, G3, J4, sv4, nfp, w0⟩
    rintro n sE ⟨i, G5, J5, sv5, n5, w5⟩
    rcases turn i n G5 w5 with ⟨stop, qq⟩ | ⟨go, Nx, hNx, step⟩
    · have td := T.done (X.blk sC G3 sco cev fq) rfl rfl rfl hc i [] sE _ G5 (fun _ _ => False) J5 (stat J5 n5) sv5 stop
      refine thnF td fun r sF ⟨hr, J6⟩ => ?_
      subst hr
      -- back in the def's context
      have J7 : Inv X pn τ G5 sF := J3.call' (ch := fq) J6.os J6.base J6.hok J6.bare fun b hb => ⟨(f3 b hb).1.2.2.2.1, (f3 b hb).1.2.1, (f3 b hb).1.2.2.2.2.1, (f3 b hb).1.2.2.2.2.2⟩
      have nC : G5 sC.heap.objs.size = none := by
        have z : G5 cev.locals = none := J6.free
        rw [cL] at z
        exact z
      obtain ⟨m, hn, _⟩ := J6.loc
      have hn : sF.heap.Ns cev.locals m := hn
      rw [cL] at hn
      exact hRR D sC.heap.objs.size sF m G5 J7 qq hn (J3.fpOk (Nat.le_refl _) nC)
    · have ti := T.item (X.blk sC G3 sco cev fq) rfl rfl rfl hc i [] sE _ G5 (fun _ _ => False) J5 (stat J5 n5) sv5 go
      refine thnF ti fun r sF ⟨u, hr, h6⟩ => ?_
      subst hr
      refine thnF h6 fun _ sG ⟨x, G7, J7, r7, y7, sv7, n7⟩ => ?_
      have J7z := J7.pinned (stat J7 n7) (T.obj _ _ sv7)
      refine thnF (pg.run _ sG _ G7 x u _ J7z r7 (step x G7 y7)) fun _ sH ⟨τ8, G8, J8, hw8, q8⟩ => ?_
      refine thnF (pt.run _ sH τ8 G8 _ J8 q8) fun b sI ⟨G9, I9, q9⟩ => ?_
      -- the turn's end
      have fin : ∀ {sz : Shared} {Gz : Hp}, Inv (X.blk sC G3 sco cev fq) ([] ++ pinsAt fq sG.heap) τ8 Gz sz → Nx Gz → ∃ m, m < n ∧ ∃ i Gz, Inv (X.blk sC G3 sco cev fq) [] (wipe τ (ows.map (·.2))) Gz sz ∧ tn i sz.heap ∧ (∀ b ∈ fq, Gz b = none) ∧ Wq i m Gz := fun {sz Gz} Jz nx => by
        obtain ⟨m', hm, w'⟩ := hNx Gz nx
        have pin' : ∀ b ∈ fq, ∀ o, sG.heap.get? b = some o → sz.heap.get? b = some o ∧ Gz b = none := fun b hb o e =>
          let z := Jz.pin (b, o) (List.mem_append_right _ (List.mem_append_right _ (mem_pinsAt hb e)))
          ⟨z.1, z.2.1⟩
        have hl : (wipe τ (ows.map (·.2))).length = τ8.length := by rw [← hw8, wipe_length]
        refine ⟨m', hm, i + 1, Gz, (Jz.unpinned (pins := [])).weak hl (fun j v e => ?_), T.keep _ _ _ sv7 fun b hb o e => (pin' b hb o e).1, fun b hb => ?_, w'⟩
        · rw [← hw8] at e
          exact (wipe_some e).1
        · obtain ⟨o, e, _⟩ := T.obj _ _ sv7 b hb
          exact (pin' b hb o e).2
      cases b with
      | false =>
        simp only [Bool.false_eq_true, if_false] at q9 ⊢
        exact fin I9 q9
      | true =>
        simp only [if_true] at q9 ⊢
        refine thnF (pk.run _ sI τ8 G9 _ I9 q9) fun z sJ ⟨yk, G10, I10, r10, q10⟩ => ?_
        refine thnF (pe.run _ sJ τ8 G10 _ I10 q10) fun z2 sK ⟨yv, G11, I11, r11, G0, el, k, ents, hG0, wk, dep, hdD, md, small, nx⟩ => ?_
        exact md_set (X := X.blk sC G3 sco cev fq) I11 (by show X.A.units + 64 < cLine; exact hu) hG0 hdD md small wk dep r10 r11 fun sL xs2 I12 pp => fin I12 (nx xs2 pp)
  exact codeAny_compStart_dict loop (T.self X.A 0 _ _ _ sv4 loop)
theorem pe_dcM {kX vX tg iter : Expr} {ifs : List Expr} {sco : Scope} {ows : List (Str × Nat)} {po : Pos} {wi : TI} {g : TG} {tq : TT} {tk tv : TE} (hu : X.A.units + 64 < cLine) (hc : X.calm = true) (hN : X.N.Nodup) (hi : PI X tg iter wi) (okk : BlkOk X.N X.env.scope sco ows)
    (hg : ∀ (s : Shared) (H : Hp) (C : Addr) (cl : List (Str × Addr)) (fq : List Addr), PG (X.blk s H sco (compEnvC sco cl C X.env) fq) tg g) (ht : ∀ (s : Shared) (H : Hp) (C : Addr) (cl : List (Str × Addr)) (fq : List Addr), PTs (X.blk s H sco (compEnvC sco cl C X.env) fq) ifs tq)
    (hk : ∀ (s : Shared) (H : Hp) (C : Addr) (cl : List (Str × Addr)) (fq : List Addr), PE (X.blk s H sco (compEnvC sco cl C X.env) fq) kX tk)
    (he : ∀ (s : Shared) (H : Hp) (C : Addr) (cl : List (Str × Addr)) (fq : List Addr), PE (X.blk s H sco (compEnvC sco cl C X.env) fq) vX tv) (hs : ∀ x, foldedSetIterable iter X.env x = pure x := by intro _; rfl) :
    PE X (.DictComp kX vX [⟨tg, iter, ifs, 0⟩] sco po) (tDcM X.w wi g tq tk tv (ows.map (·.2))) := by
  refine ⟨fun pn s τ H Q I h => ?_⟩
  rw [arm_eval_DictComp]
  refine dcM_core hu hc hN I hi okk hg ht hk he hs h fun D C sz m Gz Jz q hn f => ⟨m, hn, fun h'' sb => ?_⟩
  obtain ⟨f0, f1, f2, f3, f4, f5⟩ := f
  exact ⟨.ref D, Gz, Jz.turned (t' := sz.toks) (fun b o hb e => (sb.2 b hb).trans e) f0 f1 f3 f4 f5, rfl, q⟩
end
end Ly

namespace Ly
open PySem PySem.Spec PyProof.Rows L2
section
variable {prog : Program} {w : World} {A : Around} {E : Value → Shared → Prop} {s : Shared} {d : Addr} {a : Value} {k : W} {xs : List XW}
/-- a in d -/
theorem holdsV {Q : Bool → Shared → Prop} (hu : A.units + 9 < cLine) (gk : isV s.heap k a) (gd : (d == sysModules) = false) (gm : DictV w s.heap d xs)
    (h : Q (atV xs k).isSome { s with toks := s.toks + k.draws }) : wpAny (model prog w) A (contains (.ref d) a) Q E s := by
  refine wpAny_contains_slot gm.typeIs F.slot_dict_contains ?_
  refine call_meetsIn F.slot_dict_contains gm.typeIs F.entry_dict_contains (F.args_dict_contains_2 _ _) (S := fun A2 R s2 => A2 = A ∧ s2 = s ∧ R (.ok (.ret (.bool (atV xs k).isSome))) { s with toks := s.toks + k.draws }) (fun A2 R s2 hS => ?_) ⟨rfl, rfl, wpAny_truthy_bool h⟩
  obtain ⟨rfl, rfl, hq⟩ := hS
  show wpAny _ _ (dictGet d a >>= _) _ _ _
  refine wpAny_bind (getV (by show A2.units + 1 + 8 < cLine; omega) gk gm ?_)
  cases hf : atV xs k with
  | some p =>
    rw [hf] at hq
    show wpAny _ _ (ret (.bool true)) _ _ _
    exact wpAny_pure hq
  | none =>
    rw [hf] at hq
    show wpAny _ _ (Builtin.Dict.pendingKey? d a >>= _) _ _ _
    exact wpAny_bind (wpAny_pendingKey_other gd (wpAny_pure hq))
theorem inV {Q : Value → Shared → Prop} (hu : A.units + 9 < cLine) (gk : isV s.heap k a) (gd : (d == sysModules) = false) (gm : DictV w s.heap d xs)
    (h : Q (.bool (atV xs k).isSome) { s with toks := s.toks + k.draws }) : wpAny (model prog w) A (compareOp .In a (.ref d)) Q E s := by
  show wpAny _ _ (do return .bool (← contains (.ref d) a)) Q E s
  exact wpAny_bind (holdsV hu gk gd gm (wpAny_pure h))
theorem notInV {Q : Value → Shared → Prop} (hu : A.units + 9 < cLine) (gk : isV s.heap k a) (gd : (d == sysModules) = false) (gm : DictV w s.heap d xs)
    (h : Q (.bool (!(atV xs k).isSome)) { s with toks := s.toks + k.draws }) : wpAny (model prog w) A (compareOp .NotIn a (.ref d)) Q E s := by
  show wpAny _ _ (do return .bool (!(← contains (.ref d) a))) Q E s
  exact wpAny_bind (holdsV hu gk gd gm (wpAny_pure h))
/-- d[a] -/
theorem itemV {p : Value × Value} {Q : Value → Shared → Prop} (hu : A.units + 9 < cLine) (gk : isV s.heap k a) (gm : DictV w s.heap d xs) (gp : atV xs k = some p)
    (h : Q p.2 { s with toks := s.toks + k.draws }) : wpAny (model prog w) A (getItem (.ref d) a) Q E s := by
  unfold getItem
  try with_reducible refine wpAny_holding ?_
  refine wpAny_bind (wpAny_sequenceKey gm.typeIs (by decide) ?_)
  refine wpAny_bind (wpAny_callSpecial?_slot (name := Str.ofString "__getitem__") gm.typeIs slot_dict_getitem
    (wpAny_call_entry slot_dict_getitem gm.typeIs entry_dict_getitem ?_ (args_dict_getitem _ _)))
  show wpAny _ _ (dictGet d a >>= _) _ _ s
  refine wpAny_bind (getV (by show A.units + 1 + 8 < cLine; omega) gk gm ?_)
  rw [gp]
  exact wpAny_pure ⟨p.2, rfl, wpAny_pure h⟩
end
def rInM (w : World) : R2 := fun y x H Q => ∃ a k es, x = .ref a ∧ MD w H a es ∧ Wk H k y ∧ k.depth ≤ 8 ∧ Q (.bl (valW es k).isSome) H
def rNotInM (w : World) : R2 := fun y x H Q => ∃ a k es, x = .ref a ∧ MD w H a es ∧ Wk H k y ∧ k.depth ≤ 8 ∧ Q (.bl (!(valW es k).isSome)) H
theorem op_inM {X : Cx} (hu : X.A.units + 64 < cLine) : OpR X (compareOp .In) (rInM X.w) := by
  rintro pn s τ H y x v u Q J ry rx ⟨a, k, es, rfl, ⟨xs, gd, pp⟩, wk, dp, q⟩
  cases (show _ = Value.ref a from rx)
  obtain ⟨z, hm, dd⟩ := dv_of J.hok gd pp
  refine inV (by show X.A.units + 9 < cLine; omega) (isV_wk J.hok wk ry dp) hm dd ⟨V.bl _, H, J.tok _, ?_, q⟩
  have e := some_of_relO (md_at (k := k) pp)
  rw [Option.isSome_map] at e
  show Value.bool _ = Value.bool _
  rw [e]
theorem op_notInM {X : Cx} (hu : X.A.units + 64 < cLine) : OpR X (compareOp .NotIn) (rNotInM X.w) := by
  rintro pn s τ H y x v u Q J ry rx ⟨a, k, es, rfl, ⟨xs, gd, pp⟩, wk, dp, q⟩
  cases (show _ = Value.ref a from rx)
  obtain ⟨z, hm, dd⟩ := dv_of J.hok gd pp
  refine notInV (by show X.A.units + 9 < cLine; omega) (isV_wk J.hok wk ry dp) hm dd ⟨V.bl _, H, J.tok _, ?_, q⟩
  have e := some_of_relO (md_at (k := k) pp)
  rw [Option.isSome_map] at e
  show Value.bool _ = Value.bool _
  rw [e]
/-- d[y], read -/
def tMGet (w : World) (td ty : TE) : TE := fun σ H Q => td σ H fun x H1 => ty σ H1 fun y H2 => ∃ a k es v, x = .ref a ∧ MD w H2 a es ∧ Wk H2 k y ∧ k.depth ≤ 8 ∧ valW es k = some v ∧ Q v H2
theorem pe_mget {X : Cx} {o i : Expr} {pos : Pos} {td ty : TE} (hu : X.A.units + 64 < cLine) (ho : PE X o td) (hi : PE X i ty) (hs : NoSl i := by exact fun _ _ => rfl) : PE X (.Subscript o i pos) (tMGet X.w td ty) := by
  refine ⟨fun pn s τ H Q J h => ?_⟩
  refine subD_of PySem.F.slot_dict_getitem.lookup hs (thn (ho.run pn s τ H _ J h) fun u s1 ⟨x, H1, J1, rx, q1⟩ => thn (hi.run pn s1 τ H1 _ J1 q1) fun iv s2 ⟨y, H2, J2, ry, a, k, es, v, ex, ⟨xs, gd, pp⟩, wk, dp, gv, q2⟩ => ?_)
  subst ex
  obtain rfl : u = Value.ref a := rx
  obtain ⟨z, hm, dd⟩ := dv_of J2.hok gd pp
  have r := md_at (k := k) pp
  rw [gv] at r
  obtain ⟨w2, hw2, rw2⟩ := RelO.some_of (v := v) r
  obtain ⟨p, hp, hp2⟩ := Option.map_eq_some_iff.mp hw2
  refine ⟨dd.typeIs, itemV (by show X.A.units + 9 < cLine; omega) (isV_wk J2.hok wk ry dp) dd hp ⟨v, H2, J2.tok _, ?_, q2⟩⟩
  rw [hp2]
  exact rw2
end Ly

namespace Ly
open PySem PySem.Spec PyProof.Rows L2
theorem md_keys {H : Hp} : ∀ {es : List (W × V)} {xs : List XW}, Paired (mdRel H) es xs → ∃ ys, Wks H (es.map (·.1)) ys ∧ Vals ys (xs.map (·.2.1))
  | _, _, .nil => ⟨[], Wks.nil, .nil⟩
  | _, _, .cons r t => by
    obtain ⟨ys, h1, h2⟩ := md_keys t
    obtain ⟨kv, q1, q2⟩ := r.2.2.2
    exact ⟨kv :: ys, Wks.cons q2 h1, .cons q1 h2⟩
/-- len(d) -/
def rLenM (w : World) : List V → Hp → VK → Prop := fun vs H Q => ∃ a es, vs = [.ref a] ∧ MD w H a es ∧ Q (.int es.length) H
theorem call_lenM {X : Cx} : CallR X (.builtin "len") (rLenM X.w) := by
  rintro pn s τ H vs us Q J r ⟨a, es, rfl, ⟨xs, gd, pp⟩, q⟩
  cases r with
  | cons r0 r1 =>
    cases r1
    cases (show _ = Value.ref a from r0)
    obtain ⟨z, hm, dd⟩ := dv_of J.hok gd pp
    have ln : xs.length = es.length := (Paired.length pp).symm
    obtain ⟨o, ez, eq0, go, gc, gdt, ge, _, _⟩ := dd
    have hr : s.heap.DictRaw a ez eq0 := ⟨o, go, gc, gdt⟩
    have lz : ez.size = es.length := by rw [entV_size ge, ln]
    rw [sizeLine_eq] at z
    refine Calls.call_function_entry kind_len plain_len entry_len (args_len1 _) ?_
    unfold Builtin.«len»
    refine wpAny_bind (m := oneArg "len" _) (wpAny_pure ?_)
    refine wpAny_bind (m := callSpecial? (.ref a) (Str.ofString "__len__")) (wpAny_callSpecial?_slot (name := Str.ofString "__len__") hr.typeIs F.slot_dict_len (call_len_raw hm hr ?_))
    show wpAny _ _ _ _ _ { s with toks := s.toks + 1 }
    rw [lz]
    refine wpAny_bind (wpAny_holding (wpAny_pure ?_))
    refine wpAny_bind (wpAny_letGo ?_)
    show wpAny _ _ (if ((es.length : Nat) : Int) < 0 then _ else _) _ _ _
    rw [if_neg (by omega)]
    show wpAny _ _ (if ((es.length : Nat) : Int) ≥ 2 ^ 63 then _ else _) _ _ _
    rw [if_neg (by omega)]
    exact wpAny_bind (wpAny_mkInt (wpAny_pure ⟨_, rfl, V.int es.length, H, J.tok _, ⟨_, rfl⟩, q⟩))
/-- list(d) -/
def rListM (w : World) : List V → Hp → VK → Prop := fun vs H Q => ∃ a es G, vs = [.ref a] ∧ Same G H ∧ MD w G a es ∧ ∀ q ys, H q = none → Wks G (es.map (·.1)) ys → Q (.ref q) (upd H q (.lst ys))
theorem call_listM {X : Cx} (hc : X.calm = true) : CallR X (.type "list") (rListM X.w) := by
  rintro pn s τ H vs us Q J r ⟨a, es, G, rfl, hG, ⟨xs, gd, pp⟩, q⟩
  cases r with
  | cons r0 r1 =>
    cases r1
    cases (show _ = Value.ref a from r0)
    obtain ⟨z, hm, dd⟩ := dv_of J.hok (hG _ _ gd) (mdRel.up hG pp)
    obtain ⟨o, ez, eq0, go, gc, gdt, ge, _, _⟩ := dd
    have hr : s.heap.DictRaw a ez eq0 := ⟨o, go, gc, gdt⟩
    obtain ⟨ys, w1, w2⟩ := md_keys pp
    have lz := entV_size ge
    have ly : ys.length = xs.length := by
      have := Paired.length w2
      simpa using this
    refine PySem.W.kdl_call (KdlSrc.rawDict hm) (J.ok.hd hc) hr (by rw [lz]; exact z) fun h2 tk acc c hkeep hS hacc => ?_
    refine ⟨.ref s.heap.objs.size, upd H s.heap.objs.size (.lst ys), J.laid hkeep (Nat.le_refl _) (show ObjOk X.prog X.w _ _ _ (.lst ys) from ⟨by rw [ly]; exact z, acc.toList, c, ?_, ?_⟩), rfl, q _ ys (J.hok.fresh (Nat.le_refl _)) w1⟩
    · have el : acc.toList.length = acc.size := by simp
      refine vals_of_at (by rw [el, hacc.1, lz, ly]) fun j x u h1 h3 => ?_
      obtain ⟨hi, hv⟩ := hacc.2 j u (by rw [← Array.getElem?_toList]; exact h3)
      have h4 := entV_at ge j
      rw [Array.getElem?_eq_getElem hi] at h4
      obtain ⟨xx, hx1, hx2⟩ := Option.map_eq_some_iff.mp h4.symm
      have h5 : (xs.map (·.2.1))[j]? = some xx.2.1 := by rw [List.getElem?_map, hx1]; rfl
      have h6 : ez[j].key = xx.2.1 := by rw [← hx2]; rfl
      rw [hv, h6]
      obtain ⟨u2, e2, r2⟩ := Vals.get w2 h1
      rw [h5] at e2
      rw [Option.some.inj e2]
      exact r2
    · rw [Array.toArray_toList]; exact hS
end Ly

namespace Ly
open PySem PySem.Spec PyProof.Rows L2
/-- what a row of puts leaves -/
def puts (ev : List (W × V)) : List (W × V) := ev.foldl (fun es e => putW es e.1 e.2) []
theorem puts_take {ev : List (W × V)} {i : Nat} {k : W} {v : V} (h : ev[i]? = some (k, v)) : puts (ev.take (i + 1)) = putW (puts (ev.take i)) k v := by
  rw [List.take_add_one, h]
  unfold puts
  rw [List.foldl_append]
  rfl
theorem valW_some {es : List (W × V)} {k : W} : (valW es k).isSome = decide (k ∈ es.map (·.1)) := by
  unfold valW
  rw [Option.isSome_map]
  induction es with
  | nil => simp
  | cons x es ih =>
    rw [List.find?_cons]
    by_cases h : x.1 = k
    · simp [h]
    · have h2 : ¬ k = x.1 := fun z => h z.symm
      simp only [h, decide_false]
      rw [ih]
      simp [h2]
theorem putW_keys {es : List (W × V)} {k : W} {v : V} : (putW es k v).map (·.1) = if k ∈ es.map (·.1) then es.map (·.1) else es.map (·.1) ++ [k] := by
  unfold putW
  rw [valW_some]
  by_cases h : k ∈ es.map (·.1)
  · rw [if_pos h, if_pos (by simpa using h), List.map_map]
    apply List.map_congr_left
    intro x _
    show (if x.1 = k then (x.1, v) else x).1 = x.1
    split <;> rfl
  · rw [if_neg h, if_neg (by simpa using h)]
    simp
theorem puts_keys : ∀ ev : List (W × V), (puts ev).map (·.1) = eOnce (ev.map (·.1)) := by
  refine rev_ind rfl fun l e ih => ?_
  have h1 : puts (l ++ [e]) = putW (puts l) e.1 e.2 := by
    unfold puts
    rw [List.foldl_append]
    rfl
  rw [h1, putW_keys, ih, List.map_append]
  exact (eOnce_snoc _ _).symm
theorem puts_len (ev : List (W × V)) : (puts ev).length ≤ ev.length := by
  have h := puts_keys ev
  have h2 := congrArg List.length h
  rw [List.length_map] at h2
  have := eOnce_le (ev.map (·.1))
  rw [List.length_map] at this
  omega
/-- keys that are put once each: the puts themselves -/
theorem puts_nodup {ev : List (W × V)} (h : (ev.map (·.1)).Nodup) : puts ev = ev := by
  have key : ∀ i, i ≤ ev.length → puts (ev.take i) = ev.take i := by
    intro i
    induction i with
    | zero => intro _; rfl
    | succ i ih =>
      intro hi
      have hi2 : i < ev.length := by omega
      have e : ev[i]? = some (ev[i].1, ev[i].2) := by simp [hi2]
      rw [puts_take e, ih (by omega), List.take_add_one, e]
      unfold putW
      rw [if_neg]
      · rfl
      · rw [valW_some]
        simp only [decide_eq_true_eq]
        intro z
        obtain ⟨x, hx, ex⟩ := List.mem_map.mp z
        obtain ⟨j, hj⟩ := List.getElem?_of_mem hx
        rw [List.getElem?_take] at hj
        split at hj
        · rename_i hji
          have a1 : (ev.map (·.1))[j]? = some ev[i].1 := by rw [List.getElem?_map, hj, ← ex]; rfl
          have a2 : (ev.map (·.1))[i]? = some ev[i].1 := by rw [List.getElem?_map, e]; rfl
          have := nodup_at h a1 a2
          omega
        · cases hj
  have := key ev.length (Nat.le_refl _)
  simpa using this
section
variable {w : World} {K : PySem.W.Frag}
/-- {k: v for .. in l} over a list that stands frozen -/
theorem dcm_list {tl : TE} {a : Addr} {xs : List V} {g : TG} {tk tv : TE} {vs : List Nat} {σ : L2.St} {F H : Hp} {Q : VK} (hl : ∀ R : VK, R (.ref a) H → tl σ H R) (hx : F a = some (.lst xs)) (hF : Same F H) (hn : xs.length < sizeLine)
    (ev : List (W × V)) (hk : ev.length = xs.length) (dep : ∀ e ∈ ev, e.1.depth ≤ 8)
    (hs : ∀ (i : Nat) (x : V) (k : W) (v : V) F1 H1 (Kk : V → V → Hp → Prop), xs[i]? = some x → ev[i]? = some (k, v) → Ex [] F H F1 H1 → (∀ y F4 H4, Ex [] F1 H1 F4 H4 → Wk F4 k y → Kk y v H4) →
      g x (wipe σ vs) H1 fun σ2 H2 => wipe σ2 vs = wipe σ vs ∧ tk σ2 H2 fun y H3 => tv σ2 H3 fun z H4 => Kk y z H4)
    (hd : ∀ D F1 H1, Ex [] F H F1 H1 → MD w F1 D (puts ev) → Q (.ref D) H1) : tDcM w (iList K tl) g tYes tk tv vs σ H Q := by
  refine hl _ ⟨a, rfl, ⟨xs, SqL.of (hF _ _ hx)⟩, ?_⟩
  intro D hD
  have fD : F D = none := Same.free hF hD
  refine ⟨fun i m H1 => m = xs.length - i ∧ i ≤ xs.length ∧ ∃ ents F1, Ex [] F H F1 H1 ∧ F1 D = none ∧ H1 D = some (DVO w D ents) ∧ Paired (mdRel F1) (puts (ev.take i)) ents, ⟨xs.length, by simp, Nat.zero_le _, [], F, Ex.new hF hD, fD, upd_same, .nil⟩, ?_⟩
  rintro i m H1 ⟨rfl, hi, ents, F1, e1, f1, d1, p1⟩
  have l1 := puts_len (ev.take i)
  have l2 : (ev.take i).length ≤ i := by simp; omega
  have sq : SqL K H1 a xs := SqL.of (e1.fh _ _ (e1.ff _ _ hx))
  by_cases hlt : i < xs.length
  · refine .inr ⟨⟨xs, xs[i], sq, by simp [hlt]⟩, fun H2 => ∃ ents F2, Ex [] F H F2 H2 ∧ F2 D = none ∧ H2 D = some (DVO w D ents) ∧ Paired (mdRel F2) (puts (ev.take (i + 1))) ents, fun H2 q => ⟨xs.length - (i + 1), by omega, rfl, hlt, q⟩, fun x H2 y => ?_⟩
    obtain ⟨rfl, hx2⟩ := y
    have hx3 := hx2 xs sq
    have hi2 : i < ev.length := by omega
    have hki : ev[i]? = some (ev[i].1, ev[i].2) := by simp [hi2]
    exact hs i x ev[i].1 ev[i].2 F1 H2 (fun y z H5 => ∃ G es k ents, Same G H5 ∧ Wk G k y ∧ k.depth ≤ 8 ∧ H5 D = some (DVO w D ents) ∧ Paired (mdRel G) es ents ∧ es.length < sizeLine ∧ ∀ xs2, Paired (mdRel G) (putW es k z) xs2 → ∃ ents F2, Ex [] F H F2 (upd H5 D (DVO w D xs2)) ∧ F2 D = none ∧ (upd H5 D (DVO w D xs2)) D = some (DVO w D ents) ∧ Paired (mdRel F2) (puts (ev.take (i + 1))) ents) hx3 hki e1 (fun y F4 H4 e4 wk => by
      have f4 : F4 D = none := e4.nf f1 (ne_none d1)
      refine ⟨F4, puts (ev.take i), ev[i].1, ents, e4.fh, wk, dep _ (List.getElem_mem hi2), e4.at d1, mdRel.up e4.ff p1, by omega, fun xs2 pp => ⟨xs2, F4, (e1.trans e4).wr hD f4, f4, upd_same, ?_⟩⟩
      rw [puts_take hki]
      exact pp)
  · have ei : i = xs.length := by omega
    subst ei
    rw [List.take_of_length_le (by omega)] at p1
    exact .inl ⟨⟨xs, sq, Nat.le_refl _⟩, hd D _ H1 (e1.frz hD d1 f1) ⟨ents, upd_same, Paired.mapP p1 fun e x r => ⟨r.1, r.2.1, r.2.2.1, by
      obtain ⟨kv, q1, q2⟩ := r.2.2.2
      exact ⟨kv, q1, q2.up (Same.upd f1)⟩⟩⟩⟩
end
end Ly

namespace Ly
open PySem PySem.Spec PyProof.Rows L2
section
variable {X : Cx}
/-- .. its keys words of any kind -/
theorem ps_setDcM {i : Nat} {y : Str} {py : Pos} {ka va tgt itr : Expr} {fs : List Expr} {sco : Scope} {ows : List (Str × Nat)} {po sp : Pos} {wi : TI} {g : TG} {tq : TT} {tk tv : TE} (hu : X.A.units + 64 < cLine) (hc : X.calm = true) (hN : X.N.Nodup) (hy : X.N[i]? = some y) (hyl : X.env.scope.names.lookup y = some .local)
    (hsw : swapsWith (.DictComp ka va [⟨tgt, itr, fs, 0⟩] sco po) (some (.Name y py)) sp.line X.env = pure true) (hi : PI X tgt itr wi) (okk : BlkOk X.N X.env.scope sco ows)
    (h1 : ∀ (s : Shared) (H : Hp) (C : Addr) (cl : List (Str × Addr)) (fq : List Addr), PG (X.blk s H sco (compEnvC sco cl C X.env) fq) tgt g) (h2 : ∀ (s : Shared) (H : Hp) (C : Addr) (cl : List (Str × Addr)) (fq : List Addr), PTs (X.blk s H sco (compEnvC sco cl C X.env) fq) fs tq)
    (h3 : ∀ (s : Shared) (H : Hp) (C : Addr) (cl : List (Str × Addr)) (fq : List Addr), PE (X.blk s H sco (compEnvC sco cl C X.env) fq) ka tk)
    (h4 : ∀ (s : Shared) (H : Hp) (C : Addr) (cl : List (Str × Addr)) (fq : List Addr), PE (X.blk s H sco (compEnvC sco cl C X.env) fq) va tv) (h5 : ∀ x, foldedSetIterable itr X.env x = pure x := by intro _; rfl) :
    PS X (.Assign [.Name y py] (.DictComp ka va [⟨tgt, itr, fs, 0⟩] sco po) sp) (tAsg (tDcM X.w wi g tq tk tv (ows.map (·.2))) (gName i)) := by
  refine ⟨fun pn s τ H D J h => ?_⟩
  rw [exec_Assign_Name_used _ _ _ _ hsw]
  refine wpAny_bind (wpAny_standAt (wpAny_bind ?_))
  rw [arm_evalThenUse_DictComp]
  have h' : tDcM X.w wi g tq tk tv (ows.map (·.2)) τ H (fun x H1 => gName i x τ H1 D.nx) := h
  refine wpAny_bind (thn (dcM_core (Qf := fun _ sz => SP X pn D .next sz) hu hc hN J hi okk h1 h2 h3 h4 h5 h' fun L C sz m Gz Jz q hn f => ?_) fun _ sz hq => wpAny_pure (wpAny_pure hq))
  show wpAny _ _ (assign (.Name y py) X.env (.ref L)) _ _ _
  refine wpAny_assign_Name (store_ok2 (v := V.ref L) Jz hN hy (.inl hyl) rfl (fun s2 J2 ⟨a, sb, ha⟩ => ?_) (.inr hyl))
  obtain ⟨f0, f1, f2, f3, f4, f5⟩ := f
  have neC : C ≠ a := by
    rcases ha with z | z
    · rw [z]; exact f1
    · exact fun e => f4 y a z e.symm
  refine ⟨m, hn.sameBut sb neC, fun g3 sb3 => ?_⟩
  exact ⟨_, Gz, J2.turned (t' := s2.toks) (fun b o hb e => (sb3.2 b hb).trans e) f0 f1 f3 f4 f5, q⟩
end
section
variable {w : World} {K : PySem.W.Frag}
theorem dcm_enumI {a : Addr} {xs : List V} {g : TG} {tk tv : TE} {vs : List Nat} {σ : L2.St} {F H : Hp} {Q : VK} (hx : F a = some (.lst xs)) (hF : Same F H) (hn : xs.length < sizeLine)
    (ev : List (W × V)) (hk : ev.length = xs.length) (dep : ∀ e ∈ ev, e.1.depth ≤ 8)
    (hs : ∀ (i : Nat) (x : V) (t : Addr) (k : W) (v : V) F1 H1 (Kk : V → V → Hp → Prop), xs[i]? = some x → ev[i]? = some (k, v) → Ex [] F H F1 (upd H1 t (.tup [.int (i : Nat), x])) → (∀ y F4 H4, Ex [] F1 (upd H1 t (.tup [.int (i : Nat), x])) F4 H4 → Wk F4 k y → Kk y v H4) →
      g (.ref t) (wipe σ vs) (upd H1 t (.tup [.int (i : Nat), x])) fun σ2 H2 => wipe σ2 vs = wipe σ vs ∧ tk σ2 H2 fun y H3 => tv σ2 H3 fun z H4 => Kk y z H4)
    (hd : ∀ D F1 H1, Ex [] F H F1 H1 → MD w F1 D (puts ev) → Q (.ref D) H1) : ∀ D, H D = none → ∃ Wq : Nat → Nat → Hp → Prop, (∃ m, Wq 0 m (upd H D (DVO w D []))) ∧ ∀ i m H, Wq i m H →
      ((Ite K a).stop i H ∧ Q (.ref D) H) ∨ ((Ite K a).go i H ∧ ∃ Nx : Hp → Prop, (∀ H2, Nx H2 → ∃ m2, m2 < m ∧ Wq (i + 1) m2 H2) ∧ ∀ x H2, (Ite K a).yld i H x H2 → g x (wipe σ vs) H2 fun σ2 H2 => wipe σ2 vs = wipe σ vs ∧ tYes σ2 H2 fun b H3 =>
        if b = true then tk σ2 H3 fun y H4 => tv σ2 H4 fun z H5 => ∃ G es k ents, Same G H5 ∧ Wk G k y ∧ k.depth ≤ 8 ∧ H5 D = some (DVO w D ents) ∧ Paired (mdRel G) es ents ∧ es.length < sizeLine ∧ ∀ xs2, Paired (mdRel G) (putW es k z) xs2 → Nx (upd H5 D (DVO w D xs2)) else Nx H3) := by
  intro D hD
  have fD : F D = none := Same.free hF hD
  have wk0 : Walk (Ite K a) xs.length (fun H => SqL K H a xs) (YPair (fun i => some (.int (i : Nat))) (fun i => xs[i]?)) := walk_enum
  refine ⟨fun i m H1 => m = xs.length - i ∧ i ≤ xs.length ∧ ∃ ents F1, Ex [] F H F1 H1 ∧ F1 D = none ∧ H1 D = some (DVO w D ents) ∧ Paired (mdRel F1) (puts (ev.take i)) ents, ⟨xs.length, by simp, Nat.zero_le _, [], F, Ex.new hF hD, fD, upd_same, .nil⟩, ?_⟩
  rintro i m H1 ⟨rfl, hi, ents, F1, e1, f1, d1, p1⟩
  have l1 := puts_len (ev.take i)
  have l2 : (ev.take i).length ≤ i := by simp; omega
  have sq : SqL K H1 a xs := SqL.of (e1.fh _ _ (e1.ff _ _ hx))
  by_cases hlt : i < xs.length
  · refine .inr ⟨wk0.goes i H1 hlt sq, fun H2 => ∃ ents F2, Ex [] F H F2 H2 ∧ F2 D = none ∧ H2 D = some (DVO w D ents) ∧ Paired (mdRel F2) (puts (ev.take (i + 1))) ents, fun H2 q => ⟨xs.length - (i + 1), by omega, rfl, hlt, q⟩, fun x H2 y => ?_⟩
    obtain ⟨t, u, z, rfl, ht, rfl, q1, q2⟩ := wk0.yields i H1 x H2 hlt sq y
    cases q1
    have et : Ex [] F1 H1 F1 (upd H1 t (.tup [.int (i : Nat), z])) := Ex.new e1.fh ht
    have d2 := et.at d1
    have hi2 : i < ev.length := by omega
    have hki : ev[i]? = some (ev[i].1, ev[i].2) := by simp [hi2]
    exact hs i z t ev[i].1 ev[i].2 F1 H1 (fun y z H5 => ∃ G es k ents, Same G H5 ∧ Wk G k y ∧ k.depth ≤ 8 ∧ H5 D = some (DVO w D ents) ∧ Paired (mdRel G) es ents ∧ es.length < sizeLine ∧ ∀ xs2, Paired (mdRel G) (putW es k z) xs2 → ∃ ents F2, Ex [] F H F2 (upd H5 D (DVO w D xs2)) ∧ F2 D = none ∧ (upd H5 D (DVO w D xs2)) D = some (DVO w D ents) ∧ Paired (mdRel F2) (puts (ev.take (i + 1))) ents) q2 hki (e1.trans et) (fun y F4 H4 e4 wk => by
      have f4 : F4 D = none := e4.nf f1 (ne_none d2)
      refine ⟨F4, puts (ev.take i), ev[i].1, ents, e4.fh, wk, dep _ (List.getElem_mem hi2), e4.at d2, mdRel.up e4.ff p1, by omega, fun xs2 pp => ⟨xs2, F4, ((e1.trans et).trans e4).wr hD f4, f4, upd_same, ?_⟩⟩
      rw [puts_take hki]
      exact pp)
  · have ei : i = xs.length := by omega
    subst ei
    rw [List.take_of_length_le (by omega)] at p1
    exact .inl ⟨wk0.stops H1 sq, hd D _ H1 (e1.frz hD d1 f1) ⟨ents, upd_same, Paired.mapP p1 fun e x r => ⟨r.1, r.2.1, r.2.2.1, by
      obtain ⟨kv, q1, q2⟩ := r.2.2.2
      exact ⟨kv, q1, q2.up (Same.upd f1)⟩⟩⟩⟩
/-- {k: v for i, x in enumerate(l)} -/
theorem dcm_enum {ta : TA} {a : Addr} {xs : List V} {g : TG} {tk tv : TE} {vs : List Nat} {σ : L2.St} {F H : Hp} {Q : VK} (hl : ∀ R : List V → Hp → Prop, R [.ref a] H → ta σ H R) (hx : F a = some (.lst xs)) (hF : Same F H) (hn : xs.length < sizeLine)
    (ev : List (W × V)) (hk : ev.length = xs.length) (dep : ∀ e ∈ ev, e.1.depth ≤ 8)
    (hs : ∀ (i : Nat) (x : V) (t : Addr) (k : W) (v : V) F1 H1 (Kk : V → V → Hp → Prop), xs[i]? = some x → ev[i]? = some (k, v) → Ex [] F H F1 (upd H1 t (.tup [.int (i : Nat), x])) → (∀ y F4 H4, Ex [] F1 (upd H1 t (.tup [.int (i : Nat), x])) F4 H4 → Wk F4 k y → Kk y v H4) →
      g (.ref t) (wipe σ vs) (upd H1 t (.tup [.int (i : Nat), x])) fun σ2 H2 => wipe σ2 vs = wipe σ vs ∧ tk σ2 H2 fun y H3 => tv σ2 H3 fun z H4 => Kk y z H4)
    (hd : ∀ D F1 H1, Ex [] F H F1 H1 → MD w F1 D (puts ev) → Q (.ref D) H1) : tDcM w (iEnum K ta) g tYes tk tv vs σ H Q :=
  hl _ ⟨a, xs, rfl, SqL.of (hF _ _ hx), dcm_enumI hx hF hn ev hk dep hs hd⟩
end
end Ly

namespace Ly
open PySem PySem.Spec PyProof.Rows L2
/-! ### words sorted: of the lot alone -/
theorem wle_trans (a b c : W) (h1 : wle a b = true) (h2 : wle b c = true) : wle a c = true := by
  unfold wle at *
  cases h : wlt c a with
  | false => rfl
  | true =>
    rcases wlt_neg c b a h with z | z
    · rw [z] at h2; cases h2
    · rw [z] at h1; cases h1
theorem wle_total (a b : W) : (wle a b || wle b a) = true := by
  unfold wle
  cases h1 : wlt b a with
  | false => rfl
  | true =>
    cases h2 : wlt a b with
    | false => rfl
    | true =>
      have := wlt_tr _ _ _ h1 h2
      rw [wlt_irrefl] at this
      cases this
theorem wle_anti (a b : W) (h1 : wle a b = true) (h2 : wle b a = true) : a = b := by
  unfold wle at *
  exact wlt_tot a b (by simpa using h2) (by simpa using h1)
theorem wsort_pw (l : List W) : (wsort l).Pairwise fun a b => wle a b = true := List.pairwise_mergeSort wle_trans wle_total l
theorem wsort_perm (l : List W) : (wsort l).Perm l := List.mergeSort_perm _ _
theorem pw_perm_eq {α : Type} {R : α → α → Prop} (anti : ∀ a b, R a b → R b a → a = b) : ∀ {l m : List α}, l.Perm m → l.Pairwise R → m.Pairwise R → l = m := by
  intro l
  induction l with
  | nil => intro m h _ _; exact (List.nil_perm.mp h).symm
  | cons a l ih =>
    intro m h h1 h2
    cases m with
    | nil => exact absurd h (by simp)
    | cons b m =>
      rw [List.pairwise_cons] at h1 h2
      have e : a = b := by
        rcases List.mem_cons.mp (h.mem_iff.mp (List.mem_cons_self)) with z | z
        · exact z
        · rcases List.mem_cons.mp (h.mem_iff.mpr (List.mem_cons_self (a := b))) with y | y
          · exact y.symm
          · exact anti _ _ (h1.1 b y) (h2.1 a z)
      subst e
      rw [ih (List.Perm.cons_inv h) h1.2 h2.2]
theorem wsort_of_perm {l m : List W} (h : l.Perm m) : wsort l = wsort m :=
  pw_perm_eq wle_anti ((wsort_perm l).trans (h.trans (wsort_perm m).symm)) (wsort_pw l) (wsort_pw m)
/-! ### numbers of words -/
def numb (ks : List W) : List W := wsort (eOnce ks)
theorem numb_perm (ks : List W) : (numb ks).Perm (eOnce ks) := List.mergeSort_perm _ _
theorem numb_nodup (ks : List W) : (numb ks).Nodup := (numb_perm ks).nodup_iff.mpr (eOnce_nodup ks)
theorem numb_mem {ks : List W} {k : W} : k ∈ numb ks ↔ k ∈ ks := by rw [(numb_perm ks).mem_iff, eOnce_mem]
theorem numb_len (ks : List W) : (numb ks).length ≤ ks.length := by
  rw [(numb_perm ks).length_eq]
  exact eOnce_le ks
def nth (ks : List W) (k : W) : Nat := (numb ks).idxOf k
theorem nth_at {ks : List W} {k : W} (h : k ∈ ks) : (numb ks)[nth ks k]? = some k := by
  have h1 := numb_mem.mpr h
  have h2 := List.idxOf_lt_length_of_mem h1
  unfold nth
  rw [List.getElem?_eq_getElem h2]
  simp
theorem nth_lt {ks : List W} {k : W} (h : k ∈ ks) : nth ks k < (numb ks).length := List.idxOf_lt_length_of_mem (numb_mem.mpr h)
theorem nth_inj {ks : List W} {k l : W} (hk : k ∈ ks) (hl : l ∈ ks) (e : nth ks k = nth ks l) : k = l := by
  have a := nth_at hk
  have b := nth_at hl
  rw [e, b] at a
  cases a
  rfl
theorem perm_of_set {α : Type} [DecidableEq α] {l m : List α} (h1 : l.Nodup) (h2 : m.Nodup) (h : ∀ x, x ∈ l ↔ x ∈ m) : l.Perm m := by
  induction l generalizing m with
  | nil =>
    cases m with
    | nil => exact List.Perm.refl _
    | cons b m => exact absurd ((h b).mpr List.mem_cons_self) (by simp)
  | cons a l ih =>
    have ha : a ∈ m := (h a).mp List.mem_cons_self
    have hn := List.nodup_cons.mp h1
    have := ih hn.2 (h2.erase a) fun x => by
      rw [h2.mem_erase_iff, ← h x, List.mem_cons]
      constructor
      · intro z
        exact ⟨fun e => hn.1 (e ▸ z), .inr z⟩
      · rintro ⟨z, e | e⟩
        · exact absurd e z
        · exact e
    exact (this.cons a).trans (List.perm_cons_erase ha).symm
theorem numb_set {ks ls : List W} (h : ∀ x, x ∈ ks ↔ x ∈ ls) : numb ks = numb ls :=
  wsort_of_perm (perm_of_set (eOnce_nodup _) (eOnce_nodup _) fun x => by rw [eOnce_mem, eOnce_mem]; exact h x)
theorem nth_set {ks ls : List W} (h : ∀ x, x ∈ ks ↔ x ∈ ls) (k : W) : nth ks k = nth ls k := by unfold nth; rw [numb_set h]
/-! ### the greatest of some -/
def mxL : List Nat → Nat
  | [] => 0
  | a :: l => max a (mxL l)
theorem mxL_le : ∀ {l : List Nat} {a : Nat}, a ∈ l → a ≤ mxL l
  | b :: l, a, h => by
    rcases List.mem_cons.mp h with z | z
    · rw [z]; exact Nat.le_max_left _ _
    · exact Nat.le_trans (mxL_le z) (Nat.le_max_right _ _)
theorem mxL_mem : ∀ {l : List Nat}, l ≠ [] → mxL l ∈ l
  | [a], _ => by simp [mxL]
  | a :: b :: l, _ => by
    have ih := mxL_mem (l := b :: l) (by simp)
    show max a (mxL (b :: l)) ∈ _
    rcases Nat.le_total a (mxL (b :: l)) with h | h
    · rw [Nat.max_eq_right h]; exact List.mem_cons_of_mem _ ih
    · rw [Nat.max_eq_left h]; exact List.mem_cons_self
theorem mxL_eq {l : List Nat} {m : Nat} (h : m ∈ l) (le : ∀ a ∈ l, a ≤ m) : mxL l = m := Nat.le_antisymm (le _ (mxL_mem (by intro z; rw [z] at h; simp at h))) (mxL_le h)
theorem mxL_set {l m : List Nat} (h : ∀ x, x ∈ l ↔ x ∈ m) : mxL l = mxL m := by
  by_cases z : l = []
  · subst z
    cases m with
    | nil => rfl
    | cons b m => exact absurd ((h b).mpr List.mem_cons_self) (by simp)
  · exact (mxL_eq ((h _).mp (mxL_mem z)) fun a ha => mxL_le ((h a).mpr ha)).symm
/-- the values of the first n places -/
def tab (n : Nat) (f : Nat → Nat) : List Nat := (List.range n).map f
theorem tab_len (n : Nat) (f : Nat → Nat) : (tab n f).length = n := by simp [tab]
theorem tab_get {n : Nat} {f : Nat → Nat} {i : Nat} (h : i < n) : (tab n f)[i]? = some (f i) := by simp [tab, h]
theorem tab_mem {n : Nat} {f : Nat → Nat} {x : Nat} : x ∈ tab n f ↔ ∃ p, p < n ∧ f p = x := by simp [tab]
theorem tab_congr {n : Nat} {f g : Nat → Nat} (h : ∀ p, p < n → f p = g p) : tab n f = tab n g := by
  unfold tab
  exact List.map_congr_left fun p hp => h p (List.mem_range.mp hp)
/-! ### the ranks of places -/
def heard (rs : List Rd) (f : Nat → Nat) (p : Nat) : List W := (rs.filter fun r => decide (r.b = p)).map fun r => .tup [r.i, r.o, .num (f r.a)]
def lotW (rs : List Rd) (f : Nat → Nat) (p : Nat) : W := .tup [.num (f p), .tup (wsort (heard rs f p))]
def lotsW (rs : List Rd) (n : Nat) (f : Nat → Nat) : List W := (List.range n).map (lotW rs f)
theorem lotsW_mem {rs : List Rd} {n : Nat} {f : Nat → Nat} {k : W} : k ∈ lotsW rs n f ↔ ∃ p, p < n ∧ lotW rs f p = k := by simp [lotsW]
def rkStep (rs : List Rd) (n : Nat) (f : Nat → Nat) : Nat → Nat := fun p => nth (lotsW rs n f) (lotW rs f p)
def rkRun (rs : List Rd) (n : Nat) : Nat → (Nat → Nat) → Nat → Nat
  | 0, f => f
  | k + 1, f => if mxL (tab n (rkStep rs n f)) = mxL (tab n f) then f else rkRun rs n k (rkStep rs n f)
def rk0 (sg : List W) : Nat → Nat := fun p => nth sg (sg.getD p .none)
def rkOf (sg : List W) (rs : List Rd) : Nat → Nat := rkRun rs sg.length sg.length (rk0 sg)
/-! ### the order of roads tells nothing -/
theorem heard_perm {rs ss : List Rd} (h : rs.Perm ss) (f : Nat → Nat) (p : Nat) : (heard rs f p).Perm (heard ss f p) := (h.filter _).map _
theorem lotW_perm {rs ss : List Rd} (h : rs.Perm ss) (f : Nat → Nat) (p : Nat) : lotW rs f p = lotW ss f p := by unfold lotW; rw [wsort_of_perm (heard_perm h f p)]
theorem rkStep_perm {rs ss : List Rd} (h : rs.Perm ss) (n : Nat) (f : Nat → Nat) : rkStep rs n f = rkStep ss n f := by
  have e : lotW rs f = lotW ss f := funext fun p => lotW_perm h f p
  unfold rkStep lotsW
  rw [e]
theorem rkRun_perm {rs ss : List Rd} (h : rs.Perm ss) (n : Nat) : ∀ (k : Nat) (f : Nat → Nat), rkRun rs n k f = rkRun ss n k f
  | 0, _ => rfl
  | k + 1, f => by
    unfold rkRun
    rw [rkStep_perm h, rkRun_perm h n k]
theorem rkOf_perm {rs ss : List Rd} (h : rs.Perm ss) (sg : List W) : rkOf sg rs = rkOf sg ss := rkRun_perm h _ _ _
/-! ### places with other numbers -/
structure Ren (n : Nat) (m : Nat → Nat) : Prop where
  lt : ∀ p, p < n → m p < n
  inj : ∀ p q, p < n → q < n → m p = m q → p = q
  sur : ∀ q, q < n → ∃ p, p < n ∧ m p = q
def _root_.Ly.Rd.mv (m : Nat → Nat) (r : Rd) : Rd := ⟨m r.a, m r.b, r.o, r.i⟩
section
variable {n : Nat} {m : Nat → Nat} {rs : List Rd} {f g : Nat → Nat}
theorem heard_ren (R : Ren n m) (hr : ∀ r ∈ rs, r.a < n ∧ r.b < n) (h : ∀ p, p < n → g (m p) = f p) {p : Nat} (hp : p < n) : heard (rs.map (Rd.mv m)) g (m p) = heard rs f p := by
  induction rs with
  | nil => rfl
  | cons r rs ih =>
    have ih := ih fun s hs => hr s (List.mem_cons_of_mem _ hs)
    obtain ⟨ha, hb⟩ := hr r List.mem_cons_self
    unfold heard at ih ⊢
    rw [List.map_cons, List.filter_cons, List.filter_cons]
    by_cases e : r.b = p
    · have e2 : (Rd.mv m r).b = m p := by show m r.b = m p; rw [e]
      rw [if_pos (by simpa using e2), if_pos (by simpa using e), List.map_cons, List.map_cons, ih]
      have : g (Rd.mv m r).a = f r.a := h _ ha
      rw [this]
      rfl
    · have e2 : ¬ (Rd.mv m r).b = m p := fun z => e (R.inj _ _ hb hp z)
      rw [if_neg (by simpa using e2), if_neg (by simpa using e), ih]
theorem lotW_ren (R : Ren n m) (hr : ∀ r ∈ rs, r.a < n ∧ r.b < n) (h : ∀ p, p < n → g (m p) = f p) {p : Nat} (hp : p < n) : lotW (rs.map (Rd.mv m)) g (m p) = lotW rs f p := by
  unfold lotW
  rw [heard_ren R hr h hp, h p hp]
theorem rkStep_ren (R : Ren n m) (hr : ∀ r ∈ rs, r.a < n ∧ r.b < n) (h : ∀ p, p < n → g (m p) = f p) {p : Nat} (hp : p < n) : rkStep (rs.map (Rd.mv m)) n g (m p) = rkStep rs n f p := by
  unfold rkStep
  rw [lotW_ren R hr h hp]
  refine nth_set (fun x => ?_) _
  rw [lotsW_mem, lotsW_mem]
  constructor
  · rintro ⟨q, hq, rfl⟩
    obtain ⟨p, hp, rfl⟩ := R.sur q hq
    exact ⟨p, hp, (lotW_ren R hr h hp).symm⟩
  · rintro ⟨p, hp, rfl⟩
    exact ⟨m p, R.lt p hp, lotW_ren R hr h hp⟩
theorem mx_ren (R : Ren n m) (h : ∀ p, p < n → g (m p) = f p) : mxL (tab n g) = mxL (tab n f) := mxL_set fun x => by
  rw [tab_mem, tab_mem]
  constructor
  · rintro ⟨q, hq, rfl⟩
    obtain ⟨p, hp, rfl⟩ := R.sur q hq
    exact ⟨p, hp, (h p hp).symm⟩
  · rintro ⟨p, hp, rfl⟩
    exact ⟨m p, R.lt p hp, h p hp⟩
end
theorem rkRun_ren {n : Nat} {m : Nat → Nat} {rs : List Rd} (R : Ren n m) (hr : ∀ r ∈ rs, r.a < n ∧ r.b < n) : ∀ (k : Nat) (f g : Nat → Nat), (∀ p, p < n → g (m p) = f p) → ∀ p, p < n → rkRun (rs.map (Rd.mv m)) n k g (m p) = rkRun rs n k f p
  | 0, f, g, h, p, hp => h p hp
  | k + 1, f, g, h, p, hp => by
    have h2 : ∀ p, p < n → rkStep (rs.map (Rd.mv m)) n g (m p) = rkStep rs n f p := fun p hp => rkStep_ren R hr h hp
    unfold rkRun
    rw [mx_ren R h, mx_ren R h2]
    split
    · exact h p hp
    · exact rkRun_ren R hr k _ _ h2 p hp
theorem rkRun_congr {n : Nat} {rs : List Rd} (hr : ∀ r ∈ rs, r.a < n ∧ r.b < n) (k : Nat) (f g : Nat → Nat) (h : ∀ p, p < n → g p = f p) (p : Nat) (hp : p < n) : rkRun rs n k g p = rkRun rs n k f p := by
  have R : Ren n id := ⟨fun _ h => h, fun _ _ _ _ h => h, fun q h => ⟨q, h, rfl⟩⟩
  have := rkRun_ren R hr k f g h p hp
  have e : rs.map (Rd.mv id) = rs := by
    have : (Rd.mv id) = id := rfl
    rw [this, List.map_id]
  rw [e] at this
  exact this
theorem rkOf_ren {sg sg2 : List W} {m : Nat → Nat} {rs : List Rd} (R : Ren sg.length m) (hr : ∀ r ∈ rs, r.a < sg.length ∧ r.b < sg.length) (hl : sg2.length = sg.length) (h : ∀ p, p < sg.length → sg2[m p]? = sg[p]?) {p : Nat} (hp : p < sg.length) : rkOf sg2 (rs.map (Rd.mv m)) (m p) = rkOf sg rs p := by
  unfold rkOf
  rw [hl]
  refine rkRun_ren R hr _ _ _ (fun p hp => ?_) p hp
  unfold rk0
  have e1 : sg2.getD (m p) .none = sg.getD p .none := by rw [List.getD_eq_getElem?_getD, h p hp, List.getD_eq_getElem?_getD]
  rw [e1]
  refine nth_set (fun x => ?_) _
  rw [List.mem_iff_getElem?, List.mem_iff_getElem?]
  constructor
  · rintro ⟨q, hq⟩
    have hq2 : q < sg.length := by rw [← hl]; exact (List.getElem?_eq_some_iff.mp hq).1
    obtain ⟨p, hp, rfl⟩ := R.sur q hq2
    exact ⟨p, by rw [← h p hp]; exact hq⟩
  · rintro ⟨p, hp⟩
    exact ⟨m p, by rw [h p (List.getElem?_eq_some_iff.mp hp).1]; exact hp⟩
end Ly

namespace Ly
open PySem PySem.Spec PyProof.Rows L2
/-! ### the ranks stand behind as many rounds as there are places -/
/-- the numbers of the first n places' keys -/
def rkBy (n : Nat) (key : Nat → W) : Nat → Nat := fun p => nth ((List.range n).map key) (key p)
theorem keys_mem {n : Nat} {key : Nat → W} {k : W} : k ∈ (List.range n).map key ↔ ∃ p, p < n ∧ key p = k := by simp
theorem rkBy_inj {n : Nat} {key : Nat → W} {p q : Nat} (hp : p < n) (hq : q < n) (e : rkBy n key p = rkBy n key q) : key p = key q := nth_inj (keys_mem.mpr ⟨p, hp, rfl⟩) (keys_mem.mpr ⟨q, hq, rfl⟩) e
theorem rkBy_mx {n : Nat} {key : Nat → W} (h0 : 0 < n) : mxL (tab n (rkBy n key)) + 1 = (numb ((List.range n).map key)).length := by
  have hne : 0 < (numb ((List.range n).map key)).length := Nat.lt_of_le_of_lt (Nat.zero_le _) (nth_lt (keys_mem.mpr ⟨0, h0, rfl⟩))
  generalize hL : (numb ((List.range n).map key)).length = L at hne
  have hi : L - 1 < (numb ((List.range n).map key)).length := by omega
  have hm : (numb ((List.range n).map key))[L - 1] ∈ (List.range n).map key := numb_mem.mp (List.getElem_mem hi)
  obtain ⟨p, hp, e⟩ := keys_mem.mp hm
  have e2 : rkBy n key p = L - 1 := by
    have a := nth_at (keys_mem.mpr ⟨p, hp, rfl⟩ : key p ∈ (List.range n).map key)
    have b : (numb ((List.range n).map key))[L - 1]? = some (key p) := by rw [List.getElem?_eq_getElem hi, e]
    exact nodup_at (numb_nodup _) a b
  have : mxL (tab n (rkBy n key)) = L - 1 := mxL_eq (tab_mem.mpr ⟨p, hp, e2⟩) fun a ha => by
    obtain ⟨q, hq, rfl⟩ := tab_mem.mp ha
    have := nth_lt (keys_mem.mpr ⟨q, hq, rfl⟩ : key q ∈ (List.range n).map key)
    unfold rkBy
    omega
  omega
theorem numb_le {n : Nat} {key : Nat → W} : (numb ((List.range n).map key)).length ≤ n := by
  have := numb_len ((List.range n).map key)
  simpa using this
/-- keys that part more are not fewer -/
theorem numb_finer {n : Nat} {key key2 : Nat → W} (h : ∀ p q, p < n → q < n → key p = key q → key2 p = key2 q) : (numb ((List.range n).map key2)).length ≤ (numb ((List.range n).map key)).length := by
  have e : ∀ k ∈ numb ((List.range n).map key2), ∃ p, p < n ∧ key2 p = k := fun k hk => keys_mem.mp (numb_mem.mp hk)
  let back : W → Nat := fun k => if h : ∃ p, p < n ∧ key2 p = k then h.choose else 0
  have hb : ∀ k ∈ numb ((List.range n).map key2), back k < n ∧ key2 (back k) = k := fun k hk => by
    have := e k hk
    show (if h : ∃ p, p < n ∧ key2 p = k then h.choose else 0) < n ∧ _
    simp only [back, dif_pos this]
    exact this.choose_spec
  have nd : ((numb ((List.range n).map key2)).map fun k => key (back k)).Nodup := by
    have := numb_nodup ((List.range n).map key2)
    rw [List.nodup_iff_pairwise_ne] at this ⊢
    rw [List.pairwise_map]
    refine List.Pairwise.imp_of_mem (fun {a b} ha hb' hne e => hne ?_) this
    have h1 := hb a ha
    have h2 := hb b hb'
    rw [← h1.2, ← h2.2]
    exact h _ _ h1.1 h2.1 e
  have := nodup_sub nd (m := numb ((List.range n).map key)) fun x hx => by
    obtain ⟨k, hk, rfl⟩ := List.mem_map.mp hx
    exact numb_mem.mpr (keys_mem.mpr ⟨_, (hb k hk).1, rfl⟩)
  simpa using this
theorem rkStep_by (rs : List Rd) (n : Nat) (f : Nat → Nat) : rkStep rs n f = rkBy n (lotW rs f) := rfl
theorem lotW_fst {rs : List Rd} {f : Nat → Nat} {p q : Nat} (e : lotW rs f p = lotW rs f q) : f p = f q := by
  unfold lotW at e
  simp at e
  omega
theorem mx_grows {rs : List Rd} {n : Nat} {key : Nat → W} (h0 : 0 < n) : mxL (tab n (rkBy n key)) ≤ mxL (tab n (rkStep rs n (rkBy n key))) := by
  rw [rkStep_by]
  have a := rkBy_mx (key := key) h0
  have b := rkBy_mx (key := lotW rs (rkBy n key)) h0
  have c := numb_finer (n := n) (key := lotW rs (rkBy n key)) (key2 := key) fun p q hp hq e => rkBy_inj hp hq (lotW_fst e)
  omega
theorem rkRun_stands {rs : List Rd} {n : Nat} (h0 : 0 < n) : ∀ (k j : Nat) (key : Nat → W), n ≤ k + mxL (tab n (rkBy n key)) + 1 → n ≤ j + mxL (tab n (rkBy n key)) + 1 → rkRun rs n k (rkBy n key) = rkRun rs n j (rkBy n key)
  | 0, 0, _, _, _ => rfl
  | 0, j + 1, key, h1, _ => by
    have g := mx_grows (rs := rs) (key := key) h0
    have b := rkBy_mx (key := lotW rs (rkBy n key)) h0
    have c := numb_le (n := n) (key := lotW rs (rkBy n key))
    rw [← rkStep_by] at b
    show rkBy n key = if _ then _ else _
    rw [if_pos (by omega)]
  | k + 1, 0, key, _, h2 => by
    have g := mx_grows (rs := rs) (key := key) h0
    have b := rkBy_mx (key := lotW rs (rkBy n key)) h0
    have c := numb_le (n := n) (key := lotW rs (rkBy n key))
    rw [← rkStep_by] at b
    show (if _ then _ else _) = rkBy n key
    rw [if_pos (by omega)]
  | k + 1, j + 1, key, h1, h2 => by
    have g := mx_grows (rs := rs) (key := key) h0
    unfold rkRun
    by_cases e : mxL (tab n (rkStep rs n (rkBy n key))) = mxL (tab n (rkBy n key))
    · rw [if_pos e, if_pos e]
    · rw [if_neg e, if_neg e]
      rw [rkStep_by] at e g ⊢
      exact rkRun_stands h0 k j _ (by omega) (by omega)
theorem rk0_by (sg : List W) : rk0 sg = rkBy sg.length fun p => sg.getD p .none := by
  unfold rk0 rkBy
  have e : (List.range sg.length).map (fun p => sg.getD p .none) = sg := by
    apply List.ext_getElem?
    intro i
    rw [List.getElem?_map]
    by_cases h : i < sg.length
    · simp [h]
    · simp [h]
  rw [e]
theorem rkOf_more {sg : List W} {rs : List Rd} (h0 : 0 < sg.length) {k : Nat} (hk : sg.length ≤ k) : rkRun rs sg.length k (rk0 sg) = rkOf sg rs := by
  unfold rkOf
  rw [rk0_by]
  exact rkRun_stands h0 _ _ _ (by omega) (by omega)
/-! ### a net beside the same one with other numbers -/
section
variable {n : Nat} {m : Nat → Nat} {rs : List Rd}
def two (n : Nat) (f g : Nat → Nat) : Nat → Nat := fun p => if p < n then f p else g (p - n)
theorem two_lo {f g : Nat → Nat} {p : Nat} (h : p < n) : two n f g p = f p := if_pos h
theorem two_hi {f g : Nat → Nat} {p : Nat} : two n f g (p + n) = g p := by
  unfold two
  rw [if_neg (by omega), Nat.add_sub_cancel]
theorem heard_app (rs ss : List Rd) (f : Nat → Nat) (p : Nat) : heard (rs ++ ss) f p = heard rs f p ++ heard ss f p := by simp [heard]
theorem heard_none {rs : List Rd} {f : Nat → Nat} {p : Nat} (h : ∀ r ∈ rs, r.b ≠ p) : heard rs f p = [] := by
  unfold heard
  rw [List.filter_eq_nil_iff.mpr fun r hr => by simpa using h r hr]
  rfl
theorem heard_lo {ss : List Rd} (hr : ∀ r ∈ rs, r.a < n ∧ r.b < n) {f g : Nat → Nat} {p : Nat} (hp : p < n) : heard (rs ++ ss.map (Rd.sh n)) (two n f g) p = heard rs f p := by
  rw [heard_app, heard_none (rs := ss.map (Rd.sh n)) (fun r hr => by
    obtain ⟨s, _, rfl⟩ := List.mem_map.mp hr
    show s.b + n ≠ p
    omega), List.append_nil]
  unfold heard
  refine List.map_congr_left fun r h => ?_
  rw [two_lo (hr r (List.mem_filter.mp h).1).1]
theorem heard_sh (f g : Nat → Nat) (p : Nat) : ∀ ss : List Rd, heard (ss.map (Rd.sh n)) (two n f g) (p + n) = heard ss g p
  | [] => rfl
  | r :: ss => by
    have ih := heard_sh f g p ss
    unfold heard at ih ⊢
    rw [List.map_cons, List.filter_cons, List.filter_cons]
    by_cases e : r.b = p
    · have e2 : (Rd.sh n r).b = p + n := by show r.b + n = p + n; rw [e]
      rw [if_pos (by simpa using e2), if_pos (by simpa using e), List.map_cons, List.map_cons, ih]
      have : two n f g (Rd.sh n r).a = g r.a := two_hi
      rw [this]
      rfl
    · have e2 : ¬ (Rd.sh n r).b = p + n := fun z => e (by have h : r.b + n = p + n := z; omega)
      rw [if_neg (by simpa using e2), if_neg (by simpa using e), ih]
theorem heard_hi {ss : List Rd} (hr : ∀ r ∈ rs, r.a < n ∧ r.b < n) {f g : Nat → Nat} {p : Nat} : heard (rs ++ ss.map (Rd.sh n)) (two n f g) (p + n) = heard ss g p := by
  rw [heard_app, heard_none (rs := rs) (fun r h => by
    have := (hr r h).2
    omega), List.nil_append, heard_sh]
theorem lotW_lo {ss : List Rd} (hr : ∀ r ∈ rs, r.a < n ∧ r.b < n) {f g : Nat → Nat} {p : Nat} (hp : p < n) : lotW (rs ++ ss.map (Rd.sh n)) (two n f g) p = lotW rs f p := by
  unfold lotW
  rw [heard_lo hr hp, two_lo hp]
theorem lotW_hi {ss : List Rd} (hr : ∀ r ∈ rs, r.a < n ∧ r.b < n) {f g : Nat → Nat} {p : Nat} : lotW (rs ++ ss.map (Rd.sh n)) (two n f g) (p + n) = lotW ss g p := by
  unfold lotW
  rw [heard_hi hr, two_hi]
theorem lotsW_two {f g : Nat → Nat} (R : Ren n m) (hr : ∀ r ∈ rs, r.a < n ∧ r.b < n) (h : ∀ p, p < n → g (m p) = f p) (x : W) : x ∈ lotsW (rs ++ (rs.map (Rd.mv m)).map (Rd.sh n)) (n + n) (two n f g) ↔ x ∈ lotsW rs n f := by
  rw [lotsW_mem, lotsW_mem]
  constructor
  · rintro ⟨p, hp, rfl⟩
    by_cases z : p < n
    · exact ⟨p, z, (lotW_lo hr z).symm⟩
    · obtain ⟨q, rfl⟩ : ∃ q, p = q + n := ⟨p - n, by omega⟩
      obtain ⟨u, hu, rfl⟩ := R.sur q (by omega)
      exact ⟨u, hu, by rw [lotW_hi hr, lotW_ren R hr h hu]⟩
  · rintro ⟨p, hp, rfl⟩
    exact ⟨p, by omega, lotW_lo hr hp⟩
theorem rkStep_two {f g : Nat → Nat} (R : Ren n m) (hr : ∀ r ∈ rs, r.a < n ∧ r.b < n) (h : ∀ p, p < n → g (m p) = f p) {p : Nat} (hp : p < n + n) :
    rkStep (rs ++ (rs.map (Rd.mv m)).map (Rd.sh n)) (n + n) (two n f g) p = two n (rkStep rs n f) (rkStep (rs.map (Rd.mv m)) n g) p := by
  by_cases z : p < n
  · rw [two_lo z]
    unfold rkStep
    rw [lotW_lo hr z]
    exact nth_set (lotsW_two R hr h) _
  · obtain ⟨q, rfl⟩ : ∃ q, p = q + n := ⟨p - n, by omega⟩
    have hq : q < n := by omega
    rw [two_hi]
    obtain ⟨u, hu, rfl⟩ := R.sur q hq
    rw [rkStep_ren R hr h hu]
    unfold rkStep
    rw [lotW_hi hr, lotW_ren R hr h hu]
    exact nth_set (lotsW_two R hr h) _
theorem mx_two {f g : Nat → Nat} (R : Ren n m) (h : ∀ p, p < n → g (m p) = f p) : mxL (tab (n + n) (two n f g)) = mxL (tab n f) := mxL_set fun x => by
  rw [tab_mem, tab_mem]
  constructor
  · rintro ⟨p, hp, rfl⟩
    by_cases z : p < n
    · exact ⟨p, z, (two_lo z).symm⟩
    · obtain ⟨q, rfl⟩ : ∃ q, p = q + n := ⟨p - n, by omega⟩
      obtain ⟨u, hu, rfl⟩ := R.sur q (by omega)
      exact ⟨u, hu, by rw [two_hi, h u hu]⟩
  · rintro ⟨p, hp, rfl⟩
    exact ⟨p, by omega, two_lo hp⟩
theorem tab_app (f g : Nat → Nat) : tab (n + n) (two n f g) = tab n f ++ tab n g := by
  apply List.ext_getElem?
  intro i
  by_cases h : i < n
  · rw [tab_get (by omega), List.getElem?_append_left (by rw [tab_len]; exact h), tab_get h, two_lo h]
  · by_cases h2 : i < n + n
    · rw [tab_get h2, List.getElem?_append_right (by rw [tab_len]; omega), tab_len, tab_get (by omega)]
      unfold two
      rw [if_neg h]
    · rw [List.getElem?_eq_none (by rw [tab_len]; omega), List.getElem?_eq_none (by rw [List.length_append, tab_len, tab_len]; omega)]
end
theorem shmv_lt {n : Nat} {m : Nat → Nat} {rs : List Rd} (R : Ren n m) (hr : ∀ r ∈ rs, r.a < n ∧ r.b < n) : ∀ r ∈ rs ++ (rs.map (Rd.mv m)).map (Rd.sh n), r.a < n + n ∧ r.b < n + n := fun r h => by
  rcases List.mem_append.mp h with z | z
  · have := hr r z
    omega
  · obtain ⟨s, hs, rfl⟩ := List.mem_map.mp z
    obtain ⟨t, ht, rfl⟩ := List.mem_map.mp hs
    have := hr t ht
    have h1 := R.lt _ this.1
    have h2 := R.lt _ this.2
    show m t.a + n < n + n ∧ m t.b + n < n + n
    omega
theorem rkRun_two {n : Nat} {m : Nat → Nat} {rs : List Rd} (R : Ren n m) (hr : ∀ r ∈ rs, r.a < n ∧ r.b < n) : ∀ (k : Nat) (f g : Nat → Nat), (∀ p, p < n → g (m p) = f p) → ∀ p, p < n + n →
    rkRun (rs ++ (rs.map (Rd.mv m)).map (Rd.sh n)) (n + n) k (two n f g) p = two n (rkRun rs n k f) (rkRun (rs.map (Rd.mv m)) n k g) p
  | 0, f, g, h, p, hp => rfl
  | k + 1, f, g, h, p, hp => by
    have h2 : ∀ p, p < n → rkStep (rs.map (Rd.mv m)) n g (m p) = rkStep rs n f p := fun p hp => rkStep_ren R hr h hp
    have e : ∀ p, p < n + n → rkStep (rs ++ (rs.map (Rd.mv m)).map (Rd.sh n)) (n + n) (two n f g) p = two n (rkStep rs n f) (rkStep (rs.map (Rd.mv m)) n g) p := fun p hp => rkStep_two R hr h hp
    have e1 : mxL (tab (n + n) (rkStep (rs ++ (rs.map (Rd.mv m)).map (Rd.sh n)) (n + n) (two n f g))) = mxL (tab n (rkStep rs n f)) := by
      rw [tab_congr e]
      exact mx_two R h2
    have e2 := mx_two R h
    have e3 := mx_ren R h
    have e4 := mx_ren R h2
    unfold rkRun
    rw [e1, e2, e3, e4]
    by_cases c : mxL (tab n (rkStep rs n f)) = mxL (tab n f)
    · simp only [if_pos c]
    · simp only [if_neg c]
      rw [rkRun_congr (shmv_lt R hr) k _ _ e p hp]
      exact rkRun_two R hr k _ _ h2 p hp
/-- the ranks of a net beside the same one with other numbers -/
theorem rkOf_two {sg sg2 : List W} {m : Nat → Nat} {rs : List Rd} (h0 : 0 < sg.length) (R : Ren sg.length m) (hr : ∀ r ∈ rs, r.a < sg.length ∧ r.b < sg.length) (hl : sg2.length = sg.length) (h : ∀ p, p < sg.length → sg2[m p]? = sg[p]?) :
    tab (sg.length + sg.length) (rkOf (sg ++ sg2) (rs ++ (rs.map (Rd.mv m)).map (Rd.sh sg.length))) = tab sg.length (rkOf sg rs) ++ tab sg.length (rkOf sg2 (rs.map (Rd.mv m))) := by
  rw [← tab_app]
  refine tab_congr fun p hp => ?_
  have mem2 : ∀ x, x ∈ sg2 ↔ x ∈ sg := fun x => by
    rw [List.mem_iff_getElem?, List.mem_iff_getElem?]
    constructor
    · rintro ⟨q, hq⟩
      obtain ⟨p, hp, rfl⟩ := R.sur q (by rw [← hl]; exact (List.getElem?_eq_some_iff.mp hq).1)
      exact ⟨p, by rw [← h p hp]; exact hq⟩
    · rintro ⟨p, hp⟩
      exact ⟨m p, by rw [h p (List.getElem?_eq_some_iff.mp hp).1]; exact hp⟩
  have hn : ∀ k, nth (sg ++ sg2) k = nth sg k := fun k => nth_set (fun x => by rw [List.mem_append, mem2, or_self]) k
  have hn2 : ∀ k, nth sg2 k = nth sg k := fun k => nth_set mem2 k
  have f0 : ∀ p, p < sg.length + sg.length → rk0 (sg ++ sg2) p = two sg.length (rk0 sg) (rk0 sg2) p := fun p hp => by
    unfold rk0
    rw [hn]
    unfold two
    by_cases z : p < sg.length
    · rw [if_pos z, List.getD_eq_getElem?_getD, List.getElem?_append_left z, ← List.getD_eq_getElem?_getD]
    · rw [if_neg z, List.getD_eq_getElem?_getD, List.getElem?_append_right (by omega), ← List.getD_eq_getElem?_getD]
      exact (hn2 _).symm
  have hg : ∀ p, p < sg.length → rk0 sg2 (m p) = rk0 sg p := fun p hp => by
    unfold rk0
    rw [hn2, List.getD_eq_getElem?_getD, h p hp, ← List.getD_eq_getElem?_getD]
  have e : rkOf (sg ++ sg2) (rs ++ (rs.map (Rd.mv m)).map (Rd.sh sg.length)) = rkRun (rs ++ (rs.map (Rd.mv m)).map (Rd.sh sg.length)) (sg.length + sg.length) (sg.length + sg.length) (rk0 (sg ++ sg2)) := by
    unfold rkOf
    rw [List.length_append, hl]
  rw [e, rkRun_congr (shmv_lt R hr) _ _ _ f0 p hp, rkRun_two R hr _ _ _ hg p hp]
  unfold two
  split
  · rw [rkOf_more h0 (by omega)]
  · have := rkOf_more (sg := sg2) (rs := rs.map (Rd.mv m)) (by omega) (k := sg.length + sg.length) (by omega)
    rw [hl] at this
    rw [this]
end Ly

namespace Ly
open PySem PySem.Spec PyProof.Rows L2
/-! ### list(zip(..)) as a builtin takes it: each pair a new tuple -/
theorem nolen_zip : typeLookup (.type "zip") "__len__" = pure none := by rw [typeLookup_type, builtinLookup_eq_fast]; kernel_rfl
theorem nohint_zip : typeLookup (.type "zip") "__length_hint__" = pure none := by rw [typeLookup_type, builtinLookup_eq_fast]; kernel_rfl
theorem neA {T z n : Nat} (h1 : n ≤ T) (h2 : z < n) : T ≠ z := by omega
structure ZI (z TI TO i1 i2 l1 l2 : Addr) (xs ys : Array Value) (h0 : Heap) (S : Addr) (i : Nat) (h : Heap) (acc : Array Value) : Prop where
  zip : (IsZip h z TI TO .none ∧ ∃ a b, IsPair h TO a b) ∨ ∃ T f oT, h0.objs.size ≤ T ∧ IsZipHeld h z TI TO T f ∧ h.get? T = some oT
  hTI : IsPair h TI (.ref i1) (.ref i2)
  h1 : h.IsListIter i1 l1 i
  h2 : h.IsListIter i2 l2 i
  hl1 : h.IsList l1 xs
  hl2 : h.IsList l2 ys
  accS : acc.size = i
  tups : ∀ (j : Nat) (v : Value), acc[j]? = some v → ∃ T x y, v = .ref T ∧ h0.objs.size ≤ T ∧ T < h.objs.size ∧ xs[j]? = some x ∧ ys[j]? = some y ∧ IsPair h T x y
  dis : ∀ (j k : Nat) (v : Value), acc[j]? = some v → acc[k]? = some v → j = k
  kept : ∀ c o, c ≠ z → c ≠ TO → c ≠ i1 → c ≠ i2 → c ≠ S → h0.get? c = some o → h.get? c = some o
  size : h0.objs.size ≤ h.objs.size
structure ZA (z TI TO i1 i2 l1 l2 S n : Nat) : Prop where
  D : ZipApart z TI TO i1 i2 l1 l2
  hz : z < n
  hTI : TI < n
  hTO : TO < n
  h1 : i1 < n
  h2 : i2 < n
  ll1 : l1 < n
  ll2 : l2 < n
  hS : S < n
  Sz : S ≠ z
  STI : S ≠ TI
  STO : S ≠ TO
  S1 : S ≠ i1
  S2 : S ≠ i2
  Sl1 : S ≠ l1
  Sl2 : S ≠ l2
section
variable {z TI TO i1 i2 l1 l2 S : Addr} {xs ys : Array Value} {h0 : Heap}
theorem ZI.but {i : Nat} {h h' : Heap} {acc : Array Value} (A : ZA z TI TO i1 i2 l1 l2 S h0.objs.size) (x : ZI z TI TO i1 i2 l1 l2 xs ys h0 S i h acc) (k : ∀ c o, c ≠ S → h.get? c = some o → h'.get? c = some o) (sz : h.objs.size ≤ h'.objs.size) : ZI z TI TO i1 i2 l1 l2 xs ys h0 S i h' acc where
  zip := by
    rcases x.zip with ⟨a, b, c, d⟩ | ⟨T, f, oT, lt, a, b⟩
    · exact .inl ⟨k _ _ A.Sz.symm a, b, c, k _ _ A.STO.symm d⟩
    · exact .inr ⟨T, f, oT, lt, k _ _ A.Sz.symm a, k _ _ (fun e => by have := A.hS; rw [e] at lt; omega) b⟩
  hTI := k _ _ A.STI.symm x.hTI
  h1 := x.h1.at fun o e => k _ o A.S1.symm e
  h2 := x.h2.at fun o e => k _ o A.S2.symm e
  hl1 := x.hl1.at fun o e => k _ o A.Sl1.symm e
  hl2 := x.hl2.at fun o e => k _ o A.Sl2.symm e
  accS := x.accS
  tups := fun j v e => by
    obtain ⟨T, a, b, e1, lt, lt2, e2, e3, p⟩ := x.tups j v e
    exact ⟨T, a, b, e1, lt, Nat.lt_of_lt_of_le lt2 sz, e2, e3, k _ _ (fun e => by have := A.hS; rw [e] at lt; omega) p⟩
  dis := x.dis
  kept := fun c o c1 c2 c3 c4 c5 e => k c o c5 (x.kept c o c1 c2 c3 c4 c5 e)
  size := Nat.le_trans x.size sz
end
section
variable {prog : Program} {w : World} {A : Around} {R : Result → Shared → Prop} {z TI TO i1 i2 l1 l2 : Addr} {xs ys : Array Value} {h0 : Heap} {n : Nat}
theorem extend_zip (hh : A.in1.handled = none) {S : Addr} (Z : ZA z TI TO i1 i2 l1 l2 S h0.objs.size) (hx : xs.size = n) (hy : ys.size = n) (hn : n ≤ sizeLine) (res : Value) :
    ∀ (k i : Nat) (s : Shared) (acc : Array Value) (c : Nat), n - i = k → i ≤ n → ZI z TI TO i1 i2 l1 l2 xs ys h0 S i s.heap acc → s.heap.get? S = some { cls := .type "list", dict := none, data := .seq acc c, slots := #[] } →
    (∀ h' acc' c', h'.get? S = some { cls := .type "list", dict := none, data := .seq acc' c', slots := #[] } → acc'.size = n →
      (∀ (j : Nat) (v : Value), acc'[j]? = some v → ∃ T x y, v = .ref T ∧ h0.objs.size ≤ T ∧ T < h'.objs.size ∧ xs[j]? = some x ∧ ys[j]? = some y ∧ IsPair h' T x y) → (∀ (j k : Nat) (v : Value), acc'[j]? = some v → acc'[k]? = some v → j = k) →
      (∀ c o, c ≠ z → c ≠ TO → c ≠ i1 → c ≠ i2 → c ≠ S → h0.get? c = some o → h'.get? c = some o) → R (.ok (.ret res)) { s with heap := h' }) →
    codeAny (model prog w) A (.builtin "list.extend.loop" ⟨[.ref S, .ref z, res], []⟩) R s := by
  intro k
  induction k with
  | zero =>
    intro i s acc c hk hi hst hS hR
    have hin : i = n := by omega
    subst hin
    refine codeAny_builtin F.entry_extend_loop ?_
    rw [Around.under_plainId F.plain_extend_loop _]
    show wpAny _ A.in1 (pyNext (.ref z) >>= _) _ _ s
    have hend : xs[i]? = none ∨ ys[i]? = none := .inl (by rw [Array.getElem?_eq_none_iff]; omega)
    have fin : ∀ h', (∀ c o, c ≠ z → c ≠ TO → c ≠ i1 → c ≠ i2 → s.heap.get? c = some o → h'.get? c = some o) → R (.ok (.ret res)) { s with heap := h' } := fun h' kp => by
      have up : ∀ T, h0.objs.size ≤ T → T ≠ z ∧ T ≠ TO ∧ T ≠ i1 ∧ T ≠ i2 := fun T hT => by
        have a := Z.hz
        have b := Z.hTO
        have c := Z.h1
        have d := Z.h2
        refine ⟨?_, ?_, ?_, ?_⟩ <;> intro e <;> rw [e] at hT <;> omega
      refine hR h' acc c (kp _ _ Z.Sz Z.STO Z.S1 Z.S2 hS) hst.accS (fun j v e => ?_) hst.dis (fun c o c1 c2 c3 c4 c5 e => kp c o c1 c2 c3 c4 (hst.kept c o c1 c2 c3 c4 c5 e))
      obtain ⟨T, a, b, e1, lt, lt2, e2, e3, p⟩ := hst.tups j v e
      obtain ⟨n1, n2, n3, n4⟩ := up T lt
      have p2 : IsPair h' T a b := kp T _ n1 n2 n3 n4 p
      exact ⟨T, a, b, e1, lt, Heap.lt_size p2, e2, e3, p2⟩
    rcases hst.zip with ⟨hz, a, b, hTO⟩ | ⟨T, f, oT, lt, hz, hT⟩
    · refine wpAny_bind (wpAny_pyNext_zip_end hh Z.D hz hst.hTI hTO hst.h1 hst.h2 hst.hl1 hst.hl2 hend fun h' kp => ?_)
      exact wpAny_pure (fin h' kp)
    · refine wpAny_bind (wpAny_pyNext_zip_end_held hh Z.D hz hT hst.hTI hst.h1 hst.h2 hst.hl1 hst.hl2 hend fun h' kp => ?_)
      exact wpAny_pure (fin h' fun c o c1 _ c3 c4 e => kp c o c1 c3 c4 e)
  | succ k ih =>
    intro i s acc c hk hi hst hS hR
    have hlt : i < n := by omega
    refine codeAny_builtin F.entry_extend_loop ?_
    rw [Around.under_plainId F.plain_extend_loop _]
    show wpAny _ A.in1 (pyNext (.ref z) >>= _) _ _ s
    have hx1 : xs[i]? = some xs[i] := Array.getElem?_eq_getElem (by omega)
    have hy1 : ys[i]? = some ys[i] := Array.getElem?_eq_getElem (by omega)
    have sS : S < h0.objs.size := Z.hS
    have s0 := hst.size
    have Slt : S < s.heap.objs.size := Heap.lt_size hS
    have step : ∀ h' : Heap, (IsZip h' z TI TO (rawInt s.heap.objs.size) ∧ True ∨ ∃ T f oT, h0.objs.size ≤ T ∧ IsZipHeld h' z TI TO T f ∧ h'.get? T = some oT) → h'.IsListIter i1 l1 (i + 1) → h'.IsListIter i2 l2 (i + 1) → IsPair h' s.heap.objs.size xs[i] ys[i] → h'.objs.size = s.heap.objs.size + 1 →
        (∀ c o, c ≠ z → c ≠ TO → c ≠ i1 → c ≠ i2 → s.heap.get? c = some o → h'.get? c = some o) →
        ∀ (K : Unit → Shared → Prop), (∀ g, ZI z TI TO i1 i2 l1 l2 xs ys h0 S (i + 1) g (acc.push (.ref s.heap.objs.size)) → (∃ c', g.get? S = some { cls := .type "list", dict := none, data := .seq (acc.push (.ref s.heap.objs.size)) c', slots := #[] }) → K () { s with heap := g }) →
        wpAny (model prog w) A.in1 (updateSeq S (·.push (.ref s.heap.objs.size))) K (fun e s' => R (.error e) s') { s with heap := h' } := by
      intro h' hzz hi1 hi2 hp hsz kp K hK
      have hS' : h'.get? S = some { cls := .type "list", dict := none, data := .seq acc c, slots := #[] } := kp _ _ Z.Sz Z.STO Z.S1 Z.S2 hS
      have sb := Heap.SameBut.update h' S (Obj.mapSeq (·.push (Value.ref s.heap.objs.size)))
      have x1 : ZI z TI TO i1 i2 l1 l2 xs ys h0 S (i + 1) h' (acc.push (.ref s.heap.objs.size)) := {
        zip := by
          rcases hzz with ⟨a, _⟩ | a
          · exact .inr ⟨s.heap.objs.size, false, _, s0, a, hp⟩
          · exact .inr a
        hTI := kp _ _ Z.D.TIz Z.D.TITO Z.D.TIi1 Z.D.TIi2 hst.hTI
        h1 := hi1
        h2 := hi2
        hl1 := hst.hl1.at fun o e => kp _ o Z.D.l1z Z.D.l1TO Z.D.l1i1 Z.D.l1i2 e
        hl2 := hst.hl2.at fun o e => kp _ o Z.D.l2z Z.D.l2TO Z.D.l2i1 Z.D.l2i2 e
        accS := by rw [Array.size_push, hst.accS]
        tups := fun j v e => by
          rw [Array.getElem?_push] at e
          split at e
          · rename_i ej
            cases e
            rw [hst.accS] at ej
            subst ej
            exact ⟨_, _, _, rfl, s0, by rw [hsz]; exact Nat.lt_succ_self _, hx1, hy1, hp⟩
          · obtain ⟨T, a, b, e1, lt, lt2, e2, e3, p⟩ := hst.tups j v e
            have a1 := Z.hz
            have a2 := Z.hTO
            have a3 := Z.h1
            have a4 := Z.h2
            exact ⟨T, a, b, e1, lt, by rw [hsz]; exact Nat.lt_succ_of_lt lt2, e2, e3, kp T _ (neA lt a1) (neA lt a2) (neA lt a3) (neA lt a4) p⟩
        dis := fun j k v e1 e2 => by
          rw [Array.getElem?_push] at e1 e2
          split at e1 <;> split at e2
          · omega
          · rename_i _ _
            cases e1
            obtain ⟨T, a, b, q1, lt, lt2, _⟩ := hst.tups k _ e2
            cases q1
            exact absurd lt2 (Nat.lt_irrefl _)
          · cases e2
            obtain ⟨T, a, b, q1, lt, lt2, _⟩ := hst.tups j _ e1
            cases q1
            exact absurd lt2 (Nat.lt_irrefl _)
          · exact hst.dis j k v e1 e2
        kept := fun c o c1 c2 c3 c4 c5 e => kp c o c1 c2 c3 c4 (hst.kept c o c1 c2 c3 c4 c5 e)
        size := by omega }
      refine wpAny_updateSeq hS' rfl (hK _ (x1.but Z (fun c o hc e => (Heap.get?_update_other _ _ (fun h : S = c => hc h.symm)).trans e) (by rw [Heap.size_update]; exact Nat.le_refl _)) ⟨_, Heap.get?_update_self _ hS' rfl⟩) (by rw [hst.accS]; omega) (by show (acc.push _).size ≤ sizeLine + 1; rw [Array.size_push, hst.accS]; omega)
    have rest : ∀ g : Heap, ZI z TI TO i1 i2 l1 l2 xs ys h0 S (i + 1) g (acc.push (.ref s.heap.objs.size)) → (∃ c', g.get? S = some { cls := .type "list", dict := none, data := .seq (acc.push (.ref s.heap.objs.size)) c', slots := #[] }) →
        codeAny (model prog w) A (.builtin "list.extend.loop" ⟨[.ref S, .ref z, res], []⟩) R { s with heap := g } := fun g hg ⟨c', hc'⟩ =>
      ih (i + 1) { s with heap := g } (acc.push (.ref s.heap.objs.size)) c' (by omega) hlt hg hc' fun h' acc' c'' a1 a2 a3 a4 a5 => hR h' acc' c'' a1 a2 a3 a4 a5
    rcases hst.zip with ⟨hz, a, b, hTO⟩ | ⟨T, f, oT, lt, hz, hT⟩
    · refine wpAny_bind (wpAny_pyNext_zip_item Z.D hz hst.hTI hTO hst.h1 hst.h2 hst.hl1 hst.hl2 hx1 hy1 fun h' a1 a2 a3 a4 a5 a6 kp => ?_)
      show wpAny _ A.in1 (updateSeq S (·.push (.ref s.heap.objs.size)) >>= _) _ _ _
      exact wpAny_bind (step h' (.inl ⟨a1, trivial⟩) a3 a4 a5 a6 kp _ fun g hg hc => wpAny_pure ⟨plainId_quiet F.plain_extend_loop _, rest g hg hc⟩)
    · refine wpAny_bind (wpAny_pyNext_zip_item_held Z.D hz hT hst.hTI hst.h1 hst.h2 hst.hl1 hst.hl2 hx1 hy1 fun h' a1 a3 a4 a5 a6 kp => ?_)
      show wpAny _ A.in1 (updateSeq S (·.push (.ref s.heap.objs.size)) >>= _) _ _ _
      have a7 := Z.hz
      have a8 := Z.h1
      have a9 := Z.h2
      exact wpAny_bind (step h' (.inr ⟨T, true, oT, lt, a1, kp T _ (neA lt a7) (neA lt a8) (neA lt a9) hT⟩) a3 a4 a5 a6 (fun c o c1 _ c3 c4 e => kp c o c1 c3 c4 e) _ fun g hg hc => wpAny_pure ⟨plainId_quiet F.plain_extend_loop _, rest g hg hc⟩)
end
section
variable {prog : Program} {w : World} {A : Around} {E : Value → Shared → Prop} {s : Shared} {z TI TO i1 i2 l1 l2 : Addr} {xs ys : Array Value} {n : Nat}
theorem collect_zip {Q : List Value → Shared → Prop} (hh : A.handled = none) (D : ZipApart z TI TO i1 i2 l1 l2) (hz : IsZip s.heap z TI TO .none) (hTI : IsPair s.heap TI (.ref i1) (.ref i2)) (hTO : ∃ a b, IsPair s.heap TO a b)
    (h1 : s.heap.IsListIter i1 l1 0) (h2 : s.heap.IsListIter i2 l2 0) (hl1 : s.heap.IsList l1 xs) (hl2 : s.heap.IsList l2 ys) (hx : xs.size = n) (hy : ys.size = n) (hn : n ≤ sizeLine)
    (hQ : ∀ h' (acc : Array Value), acc.size = n → (∀ (j : Nat) (v : Value), acc[j]? = some v → ∃ T x y, v = .ref T ∧ s.heap.objs.size ≤ T ∧ T < h'.objs.size ∧ xs[j]? = some x ∧ ys[j]? = some y ∧ IsPair h' T x y) →
      (∀ (j k : Nat) (v : Value), acc[j]? = some v → acc[k]? = some v → j = k) → s.heap.objs.size < h'.objs.size →
      (∀ c o, c ≠ z → c ≠ TO → c ≠ i1 → c ≠ i2 → s.heap.get? c = some o → h'.get? c = some o) → Q acc.toList { s with heap := h' }) : wpAny (model prog w) A (collect (.ref z)) Q E s := by
  have hTy : ∀ h : Heap, IsZip h z TI TO .none → (Shared.TypeIs { s with heap := h } (.ref z) "zip") := fun h hz => ⟨_, hz, rfl⟩
  have lz : z < s.heap.objs.size := Heap.lt_size hz
  have hSz : s.heap.objs.size ≠ z := Nat.ne_of_gt lz
  unfold collect
  refine wpAny_bind (wpAny_runValue (codeAny_builtin F.entry_proto_collect ?_))
  rw [Around.under_plainId F.plain_proto_collect _]
  show wpAny _ A.in1 (newList [] >>= fun l => again (.builtin "list.__iadd__" ⟨[l, .ref z], []⟩)) _ _ s
  refine wpAny_bind (wpAny_newObj_type ?_)
  refine wpAny_pure ⟨plainId_quiet F.plain_list_iadd _, codeAny_builtin F.entry_list_iadd ?_⟩
  rw [Around.under_plainId F.plain_list_iadd _]
  have old : ∀ b o, s.heap.get? b = some o → (s.heap.push { cls := .type "list", data := .seq ([] : List Value).toArray }).get? b = some o := fun b o e => Heap.get?_push_of_some _ e
  show wpAny _ A.in1 (Builtin.List.listExtendWith (.ref s.heap.objs.size) (.ref z) (.ref s.heap.objs.size)) _ _ _
  unfold Builtin.List.listExtendWith
  refine wpAny_bind (wpAny_typeOf (hTy _ (old _ _ hz)) ?_)
  have e1 : Builtin.List.listSameRef (.ref s.heap.objs.size) (.ref z) = false := by simp [Builtin.List.listSameRef, hSz]
  have e2 : (Value.type "zip" == Value.type "list") = false := by decide
  have e3 : (Value.type "zip" == Value.type "tuple") = false := by decide
  simp only [e1, e2, e3, Bool.or_false, Bool.false_eq_true, if_false]
  refine wpAny_bind (wpAny_pyIter_zip (old _ _ hz) ?_)
  refine wpAny_bind (wpAny_holding ?_)
  unfold Builtin.List.listLengthHint
  refine wpAny_bind (wpAny_specialOf (hTy _ (old _ _ hz)) nolen_zip ?_)
  show wpAny _ A.in1 (specialOf (Value.ref z) (Str.ofString "__length_hint__") >>= _) _ _ _
  refine wpAny_bind (wpAny_specialOf (hTy _ (old _ _ hz)) nohint_zip ?_)
  refine wpAny_pure ?_
  show wpAny _ A.in1 (rule "list.extend.makes-room" >>= fun _ => Builtin.List.listTouch (.ref s.heap.objs.size) >>= fun _ =>
    again (.builtin "list.extend.loop" ⟨[.ref s.heap.objs.size, .ref z, .ref s.heap.objs.size], []⟩)) _ _ _
  refine wpAny_bind (wpAny_rule ?_)
  have hS₁ : (s.heap.push { cls := .type "list", data := .seq ([] : List Value).toArray }).get? s.heap.objs.size = some { cls := .type "list", data := .seq ([] : List Value).toArray } := Heap.get?_push_size _ rfl
  refine wpAny_bind ?_
  show wpAny _ A.in1 (updateSeq s.heap.objs.size (·.push .none) >>= fun _ => updateSeq s.heap.objs.size (·.pop)) _ _ _
  refine wpAny_bind (wpAny_updateSeq hS₁ rfl ?_)
  have hS₂ := Heap.get?_update_self (Obj.mapSeq (·.push Value.none)) hS₁ rfl
  refine wpAny_updateSeq hS₂ rfl ?_
  have hS₃ := Heap.get?_update_self (Obj.mapSeq (·.pop)) hS₂ rfl
  have sz3 : (((s.heap.push { cls := .type "list", data := .seq ([] : List Value).toArray }).update s.heap.objs.size (Obj.mapSeq (·.push Value.none))).update s.heap.objs.size (Obj.mapSeq (·.pop))).objs.size = s.heap.objs.size + 1 := by
    rw [Heap.size_update, Heap.size_update, Heap.size_push]
  have oth : ∀ b o, s.heap.get? b = some o → (((s.heap.push { cls := .type "list", data := .seq ([] : List Value).toArray }).update s.heap.objs.size (Obj.mapSeq (·.push Value.none))).update s.heap.objs.size (Obj.mapSeq (·.pop))).get? b = some o := fun b o e => by
    have hb : s.heap.objs.size ≠ b := Nat.ne_of_gt (Heap.lt_size e)
    exact (Heap.get?_update_other _ _ hb).trans ((Heap.get?_update_other _ _ hb).trans (old b o e))
  generalize ((s.heap.push { cls := .type "list", data := .seq ([] : List Value).toArray }).update s.heap.objs.size (Obj.mapSeq (·.push Value.none))).update s.heap.objs.size (Obj.mapSeq (·.pop)) = g3 at hS₃ sz3 oth
  obtain ⟨a, b, hTO⟩ := hTO
  have lTI : TI < s.heap.objs.size := Heap.lt_size hTI
  have lTO : TO < s.heap.objs.size := Heap.lt_size hTO
  have li1 : i1 < s.heap.objs.size := by obtain ⟨_, e, _⟩ := h1; exact Heap.lt_size e
  have li2 : i2 < s.heap.objs.size := by obtain ⟨_, e, _⟩ := h2; exact Heap.lt_size e
  have ll1 : l1 < s.heap.objs.size := by obtain ⟨_, e, _⟩ := hl1; exact Heap.lt_size e
  have ll2 : l2 < s.heap.objs.size := by obtain ⟨_, e, _⟩ := hl2; exact Heap.lt_size e
  have Z : ZA z TI TO i1 i2 l1 l2 s.heap.objs.size g3.objs.size := by
    rw [sz3]
    exact ⟨D, Nat.lt_succ_of_lt lz, Nat.lt_succ_of_lt lTI, Nat.lt_succ_of_lt lTO, Nat.lt_succ_of_lt li1, Nat.lt_succ_of_lt li2, Nat.lt_succ_of_lt ll1, Nat.lt_succ_of_lt ll2, Nat.lt_succ_self _, Nat.ne_of_gt lz, Nat.ne_of_gt lTI, Nat.ne_of_gt lTO, Nat.ne_of_gt li1, Nat.ne_of_gt li2, Nat.ne_of_gt ll1, Nat.ne_of_gt ll2⟩
  have x0 : ZI z TI TO i1 i2 l1 l2 xs ys g3 s.heap.objs.size 0 g3 #[] := ⟨.inl ⟨oth _ _ hz, a, b, oth _ _ hTO⟩, oth _ _ hTI, h1.at fun o e => oth _ o e, h2.at fun o e => oth _ o e, hl1.at fun o e => oth _ o e, hl2.at fun o e => oth _ o e, rfl,
    fun j v e => by simp at e, fun j k v e => by simp at e, fun c o _ _ _ _ _ e => e, Nat.le_refl _⟩
  refine wpAny_pure ⟨plainId_quiet F.plain_extend_loop _, extend_zip (h0 := g3) (s := { s with heap := g3 }) hh Z hx hy hn _ n 0 #[] _ rfl (Nat.zero_le _) x0 hS₃ fun h' acc' c' b1 b2 b3 b4 b5 => ?_⟩
  show wpAny _ A (load s.heap.objs.size >>= _) _ _ _
  refine wpAny_bind (wpAny_load b1 ?_)
  refine wpAny_pure (hQ h' acc' b2 (fun j v e => ?_) b4 (Heap.lt_size b1) fun c o c1 c2 c3 c4 e => b5 c o c1 c2 c3 c4 (Nat.ne_of_lt (Heap.lt_size e)) (oth c o e))
  obtain ⟨T, x, y, q1, q2, q3, q4, q5, q6⟩ := b3 j v e
  exact ⟨T, x, y, q1, Nat.le_trans (by rw [sz3]; exact Nat.le_succ _) q2, q3, q4, q5, q6⟩
end
end Ly

namespace Ly
open PySem PySem.Spec PyProof.Rows L2 PySem.W LamX
section
variable {X : Cx} {pins : List (Addr × Obj)} {σ : L2.St} {H : Hp} {s : Shared}
/-! ### many new tuples at once -/
def addT (H : Hp) (N : Addr → Option (List V)) : Hp := fun b => match N b with
  | some vs => some (.tup vs)
  | none => H b
theorem addT_some {H : Hp} {N : Addr → Option (List V)} {b : Addr} {vs : List V} (h : N b = some vs) : addT H N b = some (.tup vs) := by unfold addT; rw [h]
theorem addT_none {H : Hp} {N : Addr → Option (List V)} {b : Addr} (h : N b = none) : addT H N b = H b := by unfold addT; rw [h]
theorem Inv.tups {h' : Heap} {t' : Nat} {ch : List Addr} {N : Addr → Option (List V)} (I : L2.Inv X pins σ H s) (k : ∀ b o, b ∉ ch → s.heap.get? b = some o → h'.get? b = some o) (hf : ∀ b ∈ ch, L2.FpOk X pins H b)
    (hN : ∀ b vs, N b = some vs → s.heap.objs.size ≤ b ∧ ObjOk X.prog X.w (addT H N) h' b (.tup vs)) : L2.Inv X pins σ (addT H N) { s with heap := h', toks := t' } := by
  have nit : ∀ b u, H b = some u → b ∉ ch := fun b u e z => by
    have q := (hf b z).1
    rw [q] at e; cases e
  have nN : ∀ b, b < s.heap.objs.size → N b = none := fun b hb => by
    cases z : N b with
    | none => rfl
    | some vs => exact absurd (hN b vs z).1 (by omega)
  have ltH : ∀ b u, H b = some u → b < s.heap.objs.size := fun b u e => (I.hok b u e).lt
  have at_ : ∀ b u, H b = some u → addT H N b = some u := fun b u e => by rw [addT_none (nN b (ltH b u e))]; exact e
  refine I.step (g' := s.gens) (d' := s.drawn) (ch := ch) (fun b hb => ⟨(hf b hb).2.2.2.1, (hf b hb).2.1, (hf b hb).2.2.2.2.1, (hf b hb).2.2.2.2.2⟩) (fun b o _ _ hc e _ => k b o hc e) (fun b o _ _ hc e _ => ⟨o.slots, k b o hc e⟩)
    (fun b o _ e n => ?_) (fun b o hc e => ⟨o, k b o hc e⟩) (fun b xs e => at_ b _ e) (fun b o u e => at_ b _ e) (fun b ps e => ⟨#[], ?_⟩) (fun m hm => ?_) (fun b u e => ?_) I.bare
  · rw [addT_none (nN b (Heap.lt_size e))]; exact n
  · rw [at_ b _ e]; simp
  · obtain ⟨o, es, ep, ho, r⟩ := hm
    exact ⟨o, es, ep, k _ o (fun z => (hf _ z).2.1 rfl) ho, r⟩
  · cases z : N b with
    | some vs =>
      rw [addT_some z] at e
      cases e
      exact (hN b vs z).2
    | none =>
      rw [addT_none z] at e
      refine (I.hok b u e).stay (fun c v hc q => k c v ?_ q) (fun c q => at_ c _ q) fun c xs q => at_ c _ q
      rcases hc with z | z
      · rw [z]; exact nit b u e
      · exact nit c _ z
/-! ### a lambda of one parameter, called by list.sort -/
theorem lam_call {tb : TE} {a q : Str} {params : Arguments} {body : Expr} {scope : Scope} {pm ctv : Value} {f c' : Addr} {k : Nat} {u : Value} {v : V} {Q : VK} (I : L2.Inv X pins σ H s)
    (hf : s.heap.get? f = some (kla_obj "<lambda>" q params body scope [] pm c' ctv)) (hc : H c' = some (CodeO c' q)) (S1 : FnScope [a] [a] scope)
    (hbind : ∀ (q : Str) (pm cv ctv u : Value), bindArgs (kla_fn "<lambda>" q params body scope [] pm cv ctv) ⟨[u], []⟩ = pure [(a, u)])
    (hr : Room (k + 1) X.A.in1.in1) (r : RelV v u)
    (hbody : ∀ (A : Around) (outer : List Env) (s : Shared) (H : Hp) (E : XK), PE (cxOf L2.CX0 X.prog X.w X.K X.mg X.base [a] q scope f (.ref c') A outer s H E) body tb) (hq : tb (L2.start [a] [v]) H Q) :
    wpAny (model X.prog X.w) X.A.in1.in1 (call (.ref f) [u]) (L2.EP X pins σ Q) (fun _ _ => False) s := by
  have e0 : Env0 X.prog X.w X.K X.mg X.base X.A.in1.in1 X.stack s H := I.env0.in1.in1
  have lim : s.heap.NoLimit := I.nolimit
  obtain ⟨⟨oc, vs, t, hoc, hdc, hvc⟩, _, _⟩ := I.hok c' _ hc
  have hkind : ∀ y ∈ [(a, u)], scope.names.lookup y.1 = some .local ∨ (scope.names.lookup y.1 = some .cell ∧ ((cellsFrom (s.heap.objs.size + 1) scope.names []).lookup y.1).isSome = true) := fun ⟨n, v⟩ hy => by
    have hn : n = a := by simpa using congrArg Prod.fst (List.mem_singleton.mp hy)
    rcases S1.par n (by simp [hn]) with z | z
    · exact .inl z
    · exact .inr ⟨z, PySem.W.cellsFrom_some _ _ _ (.inl z)⟩
  have rc : codeAny (model X.prog X.w) X.A.in1.in1 (.call (.ref f) ⟨[u], []⟩) (CR L2.CX0 X.stack X.prog X.w H s Q (fun _ _ _ => False)) s := by
    refine PySem.W.kla_callFunE hr.depth hf rfl S1.co S1.gen rfl ⟨c', oc, vs, t, rfl, hoc, hdc, hvc⟩ ?_
    rw [hbind]
    refine wpAny_pure (wpAny_newFunctionEnv_cells S1.kind hkind fun env he s1 x => ?_)
    subst he
    refine ⟨lim.keeps x.toInCall.keep, ?_⟩
    have ht := hbody X.A.in1.in1 X.stack s H (fun _ _ _ => False)
    have J := inv_start (CX := L2.CX0) (E := fun _ _ _ => False) (vs := [v]) (us := [u]) (ps := [a]) (N := [a]) (f := f) (cd := .ref c') (qual := q) S1 hr.hd e0 rfl (.cons r .nil) x
    refine PySem.W.kla_codeExpr (wpAny_mono (ht.run [] s1 _ _ _ J hq) (fun v s' hq => ?_) fun e s' hq => hq)
    obtain ⟨w', H', J', rv, q⟩ := hq
    exact ⟨w', H', J'.os, J'.bare, J'.base, J'.hok, rv, q⟩
  refine wpAny_call (codeAny_mono rc fun r s' hq => ?_)
  cases r with
  | error e => exact hq.elim
  | ok fl =>
    cases fl with
    | ret u => exact I.after hq
    | next => exact hq.elim
    | brk => exact hq.elim
    | cont => exact hq.elim
end
end Ly

namespace Ly
open PySem PySem.Spec PyProof.Rows L2 PySem.W LamX
/-! ### list.sort with keys that are whole numbers -/
theorem dataLe_int {β : Type} {g : β → Int} {a b : β} : dataLe false (fun b => PyData.int (g b)) a b = decide (g a ≤ g b) := by
  unfold dataLe sortLe
  show (!(lexLt itemOrd [Sum.inl (g b)] [Sum.inl (g a)])) = _
  rw [lex_cons]
  show (!(decide (g b < g a) || (!decide (g a < g b) && false))) = _
  by_cases h : g b < g a
  · have : ¬ g a ≤ g b := by omega
    simp [h, this]
  · have : g a ≤ g b := by omega
    simp [h, this]
theorem ints_read {h : Heap} : ∀ {vs : List Value} {ns : List Int}, IntsAre vs ns → EachIs (fun v d => ∃ as, Reads h v d as) vs (ns.map PyData.int)
  | _, _, .nil => .nil
  | _, _, .cons n t r => .cons ⟨[], .int n t⟩ (ints_read r)
theorem vals_each {xs : List V} : ∀ {us : List Value} {ns : List Int}, Vals xs us → ns.length = xs.length → EachIs (fun u (b : Int × V) => RelV b.2 u) us (ns.zip xs) := by
  induction xs with
  | nil =>
    intro us ns h hl
    cases h
    have : ns = [] := List.length_eq_zero_iff.mp hl
    subst this
    exact .nil
  | cons x xs ih =>
    intro us ns h hl
    cases h with
    | cons r rr =>
      cases ns with
      | nil => simp at hl
      | cons n ns => exact .cons r (ih rr (by simpa using hl))
theorem each_vals : ∀ {us : List Value} {bs : List (Int × V)}, EachIs (fun u (b : Int × V) => RelV b.2 u) us bs → Vals (bs.map (·.2)) us
  | _, _, .nil => .nil
  | _, _, .cons r rr => .cons r (each_vals rr)
theorem zip_fst {α β : Type} : ∀ {l : List α} {m : List β}, l.length = m.length → (l.zip m).map (·.1) = l
  | [], [], _ => rfl
  | a :: l, b :: m, h => by simp only [List.zip_cons_cons, List.map_cons]; rw [zip_fst (by simpa using h)]
section
variable {X : Cx} {pins : List (Addr × Obj)} {σ : L2.St} {H : Hp} {s : Shared}
theorem keyI_rest {f D kS : Addr} {e1 : Nat} {its : List Value} {xs : List V} {ns : List Int} {P : PySem.Fin → Shared → Prop} {E : Value → Shared → Prop}
    (I : L2.Inv X (pins ++ [(D, seqObj "list" #[] e1), (kS, seqObj "list" #[] 0)]) σ H s) (fD : L2.FpOk X pins H D) (fK : L2.FpOk X pins H kS) (hDK : kS ≠ D)
    (rv : Vals xs its) (hlen : ns.length = its.length) (hz : its.length ≤ sizeLine) (un : X.A.in1.in1.units + 10 < cLine)
    (hcall : ∀ (j : Nat) (u : Value) (i : Int) (pl : List (Addr × Obj)) (s' : Shared), its[j]? = some u → ns[j]? = some i → L2.Inv X (pins ++ pl) σ H s' → wpAny (model X.prog X.w) X.A.in1.in1 (call (.ref f) [u]) (L2.EP X (pins ++ pl) σ (fun v H' => v = .int i ∧ H' = H)) (fun _ _ => False) s')
    (done : ∀ s' (bs : List (Int × V)), L2.Inv X pins σ (upd H D (.lst (bs.map (·.2)))) s' → bs.Perm (ns.zip xs) → bs.Pairwise (fun p q => p.1 ≤ q.1) → P (.done (.ret .none)) s') :
    wpAny (model X.prog X.w) X.A.in1.in1 (ksk_rest D (.ref f) false its.toArray e1 (.ref kS)) P E s := by
  unfold ksk_rest
  refine wpAny_bind (wpAny_rule ?_)
  first
    | rw [List.forIn_toArray]
    | (rw [← Array.forIn_toList]; simp only [List.toList_toArray])
  refine wpAny_bind (ksk_fold (fun i s' => ∃ keys e, L2.Inv X (pins ++ [(D, seqObj "list" #[] e1), (kS, seqObj "list" keys e)]) σ H s' ∧ IntsAre keys.toList (ns.take i)) its 0 s ⟨#[], 0, I, by rw [List.take_zero]; exact .nil⟩ ?turns ?behind)
  case turns =>
    rintro j u s' hu ⟨keys, e, I', hk⟩
    simp only [Nat.zero_add] at hk ⊢
    have hj : j < its.length := (List.getElem?_eq_some_iff.mp hu).1
    have hi : ns[j]? = some ns[j] := List.getElem?_eq_getElem (by omega)
    have kl := hk.length
    refine wpAny_bind (wpAny_attempt (wpAny_mono (hcall j u _ _ s' hu hi I') (fun u' s2 hh => ?_) fun _ _ hE => hE.elim))
    obtain ⟨v', H2, I2, r2, rfl, rfl⟩ := hh
    obtain ⟨t, rfl⟩ : ∃ t, u' = .int ns[j] t := r2
    try dsimp only
    have pD := I2.pin (D, seqObj "list" #[] e1) (List.mem_append_right _ (List.mem_append_right _ (by simp)))
    have pK := I2.pin (kS, seqObj "list" keys e) (List.mem_append_right _ (List.mem_append_right _ (by simp)))
    have nk : s2.heap.get? kS = some (seqObj "list" keys e) := pK.1
    have nd : s2.heap.get? D = some (seqObj "list" #[] e1) := pD.1
    have ksz : keys.size ≤ sizeLine := by
      rw [Array.length_toList, List.length_take] at kl
      omega
    refine wpAny_bind (listUpdate_at nk rfl ?_ ksz (Nat.le_trans (Nat.le_of_eq (Array.size_push ..)) (Nat.succ_le_succ ksz)))
    have sb := Heap.SameBut.update s2.heap kS (Obj.mapSeq (·.push (Value.int ns[j] t)))
    obtain ⟨c2, hc2⟩ : ∃ c2, (s2.heap.update kS (Obj.mapSeq (·.push (Value.int ns[j] t)))).get? kS = some (seqObj "list" (keys.push (Value.int ns[j] t)) c2) := ⟨_, get?_update_seq nk (·.push (Value.int ns[j] t))⟩
    have I3 : L2.Inv X pins σ H2 s2 := I2.unpinned
    have I4 := Inv.turn I3 (fp_later fK pK.2.1) (fun b o hb e => (sb.2 b hb).trans e)
    refine wpAny_pure ⟨rfl, keys.push (Value.int ns[j] t), c2, I4.pins_of (fun p hp => ?_), ?_⟩
    · rcases List.mem_append.mp hp with z | z
      · have q := I4.pin p (List.mem_append_right _ z)
        exact q
      · simp only [List.mem_cons, List.not_mem_nil, or_false] at z
        rcases z with z | z
        · subst z
          exact ⟨(sb.2 D (Ne.symm hDK)).trans nd, pD.2.1, fD.2.1, fD.2.2.1, fun v h => by cases h⟩
        · subst z
          exact ⟨hc2, pK.2.1, fK.2.1, fK.2.2.1, fun v h => by cases h⟩
    · have ek : ns.take (j + 1) = ns.take j ++ [ns[j]] := by rw [List.take_add_one, hi]; simp
      have ea : (keys.push (Value.int ns[j] t)).toList = keys.toList ++ [Value.int ns[j] t] := by simp
      rw [ek, ea]
      exact ksk_snoc hk
  case behind =>
    rintro s' ⟨keys, e, I', hk⟩
    have e3 : ns.take (0 + its.length) = ns := List.take_of_length_le (by omega)
    rw [e3] at hk
    have pD := I'.pin (D, seqObj "list" #[] e1) (List.mem_append_right _ (List.mem_append_right _ (by simp)))
    have pK := I'.pin (kS, seqObj "list" keys e) (List.mem_append_right _ (List.mem_append_right _ (by simp)))
    have nk : s'.heap.get? kS = some (seqObj "list" keys e) := pK.1
    have nd : s'.heap.get? D = some (seqObj "list" #[] e1) := pD.1
    have hk2 : EachIs (fun v d => ∃ as, Reads s'.heap v d as) keys.toList (ns.map PyData.int) := ints_read hk
    have hsz : keys.size = its.length := by
      have h1 := hk.length
      rw [Array.length_toList] at h1
      omega
    have hal : AllAlike (ns.map PyData.int) := fun d hd d' hd' => by
      obtain ⟨i, _, rfl⟩ := List.mem_map.mp hd
      obtain ⟨j, _, rfl⟩ := List.mem_map.mp hd'
      rfl
    have hsk : Sortable (ns.map PyData.int) := .inr fun d hd => by
      obtain ⟨i, _, rfl⟩ := List.mem_map.mp hd
      exact ⟨fun z => (by cases z), fun xs z => by cases z⟩
    have hu : ∀ d, d ∈ ns.map PyData.int → X.A.in1.in1.units + d.depth < cLine := fun d hd => by
      obtain ⟨i, _, rfl⟩ := List.mem_map.mp hd
      show X.A.in1.in1.units + 0 < cLine
      omega
    have hlx : ns.length = xs.length := by rw [rv.length]; exact hlen
    try dsimp only
    refine wpAny_bind (listItems_at nk rfl ?_)
    obtain ⟨G', gk, ge⟩ := L2.restrict s'.heap fun b => decide (b ≠ kS)
    have gkk : ∀ b, b ≠ kS → G'.get? b = s'.heap.get? b := fun b hb => gk b (decide_eq_true hb)
    have gke : G'.get? kS = none := ge kS (by simp)
    refine keyH_end (κ := dataKind s'.heap (ns.map PyData.int)) (h₁ := G') (s := s') (fun b o hb q => ?_) gke nk nd hDK (SortsAt.data (s := s') hk2 hal hsk hu) hsz hz fun h3 tk3 c k3 n3 => ?_
    · by_cases hbk : b = kS
      · rw [hbk, gke] at q; cases q
      · rw [← gkk b hbk]; exact q
    · have ek : (ns.zip xs).map (fun b : Int × V => PyData.int b.1) = ns.map PyData.int := by
        have := congrArg (List.map PyData.int) (zip_fst hlx)
        rw [List.map_map] at this
        exact this
      have ko : KeyedOut false ((ns.zip xs).map fun b : Int × V => PyData.int b.1) its (sortVals (dataKind s'.heap (ns.map PyData.int)) false keys.toList its) := by
        rw [ek]
        exact ⟨s'.heap, keys.toList, hal, rfl, hk2⟩
      have each := keyedOut_each (fun b : Int × V => PyData.int b.1) ko (vals_each rv hlx)
      have y1 := each_vals each
      have hperm : ((ns.zip xs).mergeSort (dataLe false fun b : Int × V => PyData.int b.1)).Perm (ns.zip xs) := List.mergeSort_perm _ _
      have hpw : ((ns.zip xs).mergeSort (dataLe false fun b : Int × V => PyData.int b.1)).Pairwise fun p q => p.1 ≤ q.1 := by
        have := List.pairwise_mergeSort (le := dataLe false fun b : Int × V => PyData.int b.1) (fun a b c h1 h2 => by
          rw [dataLe_int] at *
          simp only [decide_eq_true_eq] at *
          omega) (fun a b => by
          rw [dataLe_int, dataLe_int]
          simp only [Bool.or_eq_true, decide_eq_true_eq]
          omega) (ns.zip xs)
        refine this.imp fun {a b} h => ?_
        rw [dataLe_int] at h
        simpa using h
      generalize (ns.zip xs).mergeSort (dataLe false fun b : Int × V => PyData.int b.1) = bs at y1 hperm hpw
      refine done _ bs ?_ hperm hpw
      have I0 : L2.Inv X pins σ H s' := I'.unpinned
      have keep : ∀ b o, b ≠ D → b ≠ kS → s'.heap.get? b = some o → h3.get? b = some o := fun b o h1 h2 q => k3 b o h1 (by rw [gkk b h2]; exact q)
      have hDn : H D = none := pD.2.1
      have hKn : H kS = none := pK.2.1
      have yl : (bs.map (·.2)).length ≤ sizeLine := by
        rw [List.length_map, hperm.length_eq, List.length_zip]
        omega
      refine I0.step (g' := s'.gens) (d' := s'.drawn) (t' := tk3) (ch := [D, kS]) (fun b hb => ?_) (fun b o _ _ hb q _ => ?_) (fun b o _ _ hb q _ => ?_) (fun b o hb q n => ?_) (fun b o hb q => ?_) (fun b xs q => ?_) (fun b o u q => ?_) (fun b ps q => ?_) (fun m hm => ?_) ?_ I0.bare
      · simp only [List.mem_cons, List.not_mem_nil, or_false] at hb
        rcases hb with z | z
        · subst z
          exact ⟨fD.2.2.2.1, fD.2.1, fD.2.2.2.2.1, fD.2.2.2.2.2⟩
        · subst z
          exact ⟨fK.2.2.2.1, fK.2.1, fK.2.2.2.2.1, fK.2.2.2.2.2⟩
      · simp only [List.mem_cons, List.not_mem_nil, or_false, not_or] at hb
        exact keep b o hb.1 hb.2 q
      · simp only [List.mem_cons, List.not_mem_nil, or_false, not_or] at hb
        exact ⟨o.slots, keep b o hb.1 hb.2 q⟩
      · simp only [List.mem_cons, List.not_mem_nil, or_false, not_or] at hb
        rw [upd_ne hb.1]; exact n
      · simp only [List.mem_cons, List.not_mem_nil, or_false, not_or] at hb
        exact ⟨o, keep b o hb.1 hb.2 q⟩
      · rw [upd_ne (ne_of_none q hDn)]; exact q
      · rw [upd_ne (ne_of_none q hDn)]; exact q
      · exact ⟨#[], by rw [upd_ne (ne_of_none q hDn), q]; simp⟩
      · obtain ⟨om, es', ep', hom, rm⟩ := hm
        exact ⟨om, es', ep', keep _ _ (Ne.symm fD.2.1) (Ne.symm fK.2.1) hom, rm⟩
      · intro b o q
        by_cases hb : b = D
        · subst hb
          rw [upd_same] at q
          cases q
          exact ⟨yl, _, c, y1, n3⟩
        · rw [upd_ne hb] at q
          have nb : b ≠ kS := ne_of_none q hKn
          refine (I0.hok b o q).stay (fun b2 u2 hb2 q2 => ?_) (fun b2 q2 => ?_) fun b2 xs q2 => ?_
          · rcases hb2 with z | z
            · rw [z] at q2 ⊢; exact keep b u2 hb nb q2
            · exact keep b2 u2 (ne_of_none z hDn) (ne_of_none z hKn) q2
          · rw [upd_ne (ne_of_none q2 hDn)]; exact q2
          · rw [upd_ne (ne_of_none q2 hDn)]; exact q2
theorem sortI {f D : Addr} {its : List Value} {xs : List V} {ns : List Int} {P : PySem.Fin → Shared → Prop} {E : Value → Shared → Prop}
    (I : L2.Inv X pins σ H s) (ho : s.heap.get? D = some (seqObj "list" its.toArray 0)) (fD : L2.FpOk X pins H D)
    (rv : Vals xs its) (hlen : ns.length = its.length) (hz : its.length ≤ sizeLine) (un : X.A.in1.in1.units + 10 < cLine)
    (hcall : ∀ (j : Nat) (u : Value) (i : Int) (pl : List (Addr × Obj)) (s' : Shared), its[j]? = some u → ns[j]? = some i → L2.Inv X (pins ++ pl) σ H s' → wpAny (model X.prog X.w) X.A.in1.in1 (call (.ref f) [u]) (L2.EP X (pins ++ pl) σ (fun v H' => v = .int i ∧ H' = H)) (fun _ _ => False) s')
    (done : ∀ s' (bs : List (Int × V)), L2.Inv X pins σ (upd H D (.lst (bs.map (·.2)))) s' → bs.Perm (ns.zip xs) → bs.Pairwise (fun p q => p.1 ≤ q.1) → P (.done (.ret .none)) s') :
    wpAny (model X.prog X.w) X.A.in1.in1 (Builtin.«list.sort» ⟨[.ref D], [(Str.ofString "key", .ref f)]⟩) P E s := by
  rw [ksk_t1]
  have hDn := fD.1
  obtain ⟨c1, ho1⟩ : ∃ c1, (s.heap.update D (Obj.mapSeq fun _ => (#[] : Array Value))).get? D = some (seqObj "list" #[] c1) := ⟨_, get?_update_seq ho fun _ => #[]⟩
  have sb := Heap.SameBut.update s.heap D (Obj.mapSeq fun _ => (#[] : Array Value))
  have I2 := Inv.turn I fD (fun b o hb e => (sb.2 b hb).trans e)
  unfold ksk_tree
  refine wpAny_bind (listItems_at ho rfl ?_)
  refine wpAny_bind (listUpdate_at ho rfl ?_ (by rw [List.size_toArray]; exact hz) (Nat.zero_le _))
  refine wpAny_bind (seqEpoch_at ho1 rfl ?_)
  refine wpAny_bind (wpAny_newTuple ?_ (by show its.length ≤ _; exact hz))
  refine wpAny_bind (wpAny_newList ?_ (Nat.zero_le _))
  refine wpAny_holding ?_
  have szD : D < s.heap.objs.size := Heap.lt_size ho
  have sz2 : (s.heap.update D (Obj.mapSeq fun _ => (#[] : Array Value))).objs.size = s.heap.objs.size := by rw [Heap.size_update]
  generalize (s.heap.update D (Obj.mapSeq fun _ => (#[] : Array Value))) = h2 at I2 ho1 sz2
  have I3 : L2.Inv X pins σ H { s with heap := h2.push (seqObj "tuple" its.toArray 0) } := I2.kept (t' := s.toks) fun b o e => Heap.get?_push_of_some _ e
  have I4 : L2.Inv X pins σ H { s with heap := (h2.push (seqObj "tuple" its.toArray 0)).push (seqObj "list" #[] 0) } := I3.kept (t' := s.toks) fun b o e => Heap.get?_push_of_some _ e
  have kS : (h2.push (seqObj "tuple" its.toArray 0)).objs.size = h2.objs.size + 1 := size_push' ..
  have nK : H (h2.objs.size + 1) = none := I3.hok.fresh (by show (h2.push (seqObj "tuple" its.toArray 0)).objs.size ≤ _; rw [kS]; exact Nat.le_refl _)
  have fK : L2.FpOk X pins H (h2.objs.size + 1) := I3.fpOk (by show (h2.push (seqObj "tuple" its.toArray 0)).objs.size ≤ _; rw [kS]; exact Nat.le_refl _) nK
  have gK : ((h2.push (seqObj "tuple" its.toArray 0)).push (seqObj "list" #[] 0)).get? (h2.objs.size + 1) = some (seqObj "list" #[] 0) := by
    rw [← kS]
    exact Heap.get?_push_size _ rfl
  have gD : ((h2.push (seqObj "tuple" its.toArray 0)).push (seqObj "list" #[] 0)).get? D = some (seqObj "list" #[] c1) := Heap.get?_push_of_some _ (Heap.get?_push_of_some _ ho1)
  have hne : h2.objs.size + 1 ≠ D := Nat.ne_of_gt (by rw [sz2]; exact Nat.lt_succ_of_lt szD)
  show wpAny _ _ (ksk_rest D (.ref f) false its.toArray c1 (.ref (h2.push (seqObj "tuple" its.toArray 0)).objs.size)) _ _ _
  rw [kS]
  refine keyI_rest (pins := pins) (σ := σ) (H := H) (I4.pins_of (fun p hp => ?_)) fD fK hne rv hlen hz un hcall done
  rcases List.mem_append.mp hp with z | z
  · exact I4.pin p (List.mem_append_right _ z)
  · simp only [List.mem_cons, List.not_mem_nil, or_false] at z
    rcases z with z | z
    · subst z
      exact ⟨gD, hDn, fD.2.1, fD.2.2.1, fun v h => by cases h⟩
    · subst z
      exact ⟨gK, nK, fK.2.1, fK.2.2.1, fun v h => by cases h⟩
end
end Ly

namespace Ly
open PySem PySem.Spec PyProof.Rows L2 PySem.W LamX
/-! ### sorted(zip(a, b), key=lambda pair: pair[0]) -/
theorem ext_sql {K : PySem.W.Frag} {H H1 : Hp} {a : Addr} {xs : List V} (e : ExtN H H1) (h : SqL K H a xs) : SqL K H1 a xs := by
  rcases h with (h | ⟨o, h⟩) | h
  · exact .inl (.inl (e _ _ h (fun ps z => by cases z)))
  · exact .inl (.inr ⟨o, e _ _ h (fun ps z => by cases z)⟩)
  · exact .inr h
def tSZ (K : PySem.W.Frag) (Pt : Addr) (q : Str) (ta : TA) : TE := fun σ H Q => ta σ H fun vs H1 => ∃ (a b : Addr) (ns : List Int) (ys : List V), vs = [.ref a, .ref b] ∧ SqL K H1 a (ns.map V.int) ∧ SqL K H1 b ys ∧ ns.length = ys.length ∧ TabS H1 Pt q ∧
  ∀ (H2 : Hp) (bs : List (Int × V)) (p : Addr) (Ts : List V), (∀ c, c ≠ Pt → H1 c ≠ none → H2 c = H1 c) → TabS H2 Pt q → H2 p = none → Ts.length = ns.length → bs.Perm (ns.zip Ts) →
    (∀ (j : Nat) (i : Int) (y : V), ns[j]? = some i → ys[j]? = some y → ∃ T, Ts[j]? = some (.ref T) ∧ H1 T = none ∧ H2 T = some (.tup [.int i, y])) →
    bs.Pairwise (fun e g => e.1 ≤ g.1) → Q (.ref p) (upd H2 p (.lst (bs.map (·.2))))
theorem clo_nil {cells : List (Str × Addr)} : ∀ {names : List (Str × NameKind)}, (∀ y ∈ names, y.2 ≠ .free) → cloFrom cells names [] = []
  | [], _ => rfl
  | (n, k) :: r, h => by
    have hk : k ≠ .free := h _ List.mem_cons_self
    have e : (k == NameKind.free) = false := by cases k <;> first | rfl | exact absurd rfl hk
    show (if k == NameKind.free then _ else cloFrom cells r []) = []
    rw [e]
    exact clo_nil fun y hy => h y (List.mem_cons_of_mem _ hy)
section
variable {X : Cx} {pins : List (Addr × Obj)} {σ : L2.St} {H : Hp} {s : Shared}
/-- a lambda is made: but for its own table all stands as it did -/
theorem lam_new {c Pt : Addr} {params : Arguments} {body : Expr} {scope : Scope} {lp : Pos} {E : Value → Shared → Prop} {Q : Value → Shared → Prop} (I : L2.Inv X pins σ H s) (TB : TabB X.base X.mg c Pt) (hcode : X.env.code = .ref c)
    (hT : TabS H Pt (X.env.qual ++ "<lambda>")) (hdef : defaultsOf params X.env = ([], [])) (nf : ∀ y ∈ scope.names, y.2 ≠ .free)
    (k : ∀ (f c' : Addr) (pm ctv : Value) (H1 : Hp) (s' : Shared), L2.Inv X pins σ H1 s' → (∀ b, b ≠ Pt → H b ≠ none → H1 b = H b) → TabS H1 Pt (X.env.qual ++ "<lambda>") → s.heap.objs.size ≤ f → s.heap.objs.size ≤ s'.heap.objs.size →
      s'.heap.get? f = some (kla_obj "<lambda>" (X.env.qual ++ "<lambda>") params body scope [] pm c' ctv) → H1 f = none → H1 c' = some (CodeO c' (X.env.qual ++ "<lambda>")) → Q (.ref f) s') :
    wpAny (model X.prog X.w) X.A (eval (.Lambda params body scope lp) X.env) Q E s := by
  obtain ⟨ps, hP, tr, found⟩ := hT
  have bt : s.heap.BuiltinsAt X.mg Pt := TB.bm.keeps I.bk
  have at0 : s.heap.get? Pt = some { cls := .none, data := .fields ps } := I.hok Pt _ hP
  have cl : closureFor scope X.env = pure [] := by
    rw [closure_ok fun y hy z => absurd z (nf y hy), clo_nil nf]
  have grow : ∀ (h2 : Heap) (o : Obj), (h2.push o).objs.size = h2.objs.size + 1 := fun h2 o => Heap.size_push ..
  refine PySem.W.kla_eval hdef ?_
  cases hc : codeAmong lp ps.toList with
  | some cv =>
    obtain ⟨c', rfl, hco⟩ := found lp cv hc
    refine PySem.W.kla_makeFunctionHit (mg := X.mg) (c := c) (P := Pt) (ps := ps) cl I.ok.glob (I.mod.glob.keeps I.bk) hcode (TB.code.keeps I.bk) at0 tr hc bt fun ctv h2 tk kp hsz => ?_
    refine k h2.objs.size c' _ ctv H _ (I.kept (t' := tk) fun b o e => Heap.get?_push_of_some _ (kp b o e)) (fun _ _ _ => rfl) ⟨ps, hP, tr, found⟩ hsz ?_ (Heap.get?_push_size _ rfl) (I.hok.fresh hsz) hco
    show s.heap.objs.size ≤ (h2.push _).objs.size
    rw [grow]
    exact Nat.le_succ_of_le hsz
  | none =>
    refine PySem.W.kla_makeFunction (mg := X.mg) (c := c) (P := Pt) (ps := ps) cl I.ok.glob (I.mod.glob.keeps I.bk) hcode (TB.code.keeps I.bk) at0 tr hc TB.gP bt fun c' ctv h2 tk kp lo lt rec tab => ?_
    obtain ⟨c2, oc, us, t, ec, goc, doc, uoc⟩ := rec
    cases ec
    have hsz : s.heap.objs.size ≤ h2.objs.size := Nat.le_trans lo (Nat.le_of_lt lt)
    have nC : H c' = none := I.hok.fresh lo
    have nP : Pt ≠ c' := ne_of_none hP nC
    have J := inv_table (q := X.env.qual ++ "<lambda>") (t' := tk) (more := #[rawInt lp.line, rawInt lp.col, .ref c']) (h' := h2.push (PySem.W.kla_obj "<lambda>" (X.env.qual ++ "<lambda>") params body scope [] ((X.mg "__name__").getD .none) c' ctv)) I hP
      (fun b o hb e => Heap.get?_push_of_some _ (kp b o hb e)) (Heap.get?_push_of_some _ tab) lo ⟨oc, us, t, Heap.get?_push_of_some _ goc, doc, uoc⟩
    have same : ∀ b, b ≠ Pt → H b ≠ none → upd (upd H Pt (.tbl (ps ++ #[rawInt lp.line, rawInt lp.col, .ref c']))) c' (CodeO c' (X.env.qual ++ "<lambda>")) b = H b := fun b hb hn => by
      have : b ≠ c' := fun z => hn (by rw [z]; exact nC)
      rw [upd_ne this, upd_ne hb]
    refine k h2.objs.size c' _ ctv _ _ J same ⟨_, by rw [upd_ne nP, upd_same], ?_, ?_⟩ hsz ?_ (Heap.get?_push_size _ rfl) ?_ upd_same
    · have e : (ps ++ #[rawInt lp.line, rawInt lp.col, .ref c']).toList = ps.toList ++ [rawInt lp.line, rawInt lp.col, .ref c'] := by simp
      rw [e]
      exact PySem.TriplesOk_snoc _ _ _ _ tr
    · intro p' cv hcv
      have e : (ps ++ #[rawInt lp.line, rawInt lp.col, .ref c']).toList = ps.toList ++ [rawInt lp.line, rawInt lp.col, .ref c'] := by simp
      rw [e] at hcv
      rcases among_app _ tr hcv with z | z
      · obtain ⟨c0, e1, e2⟩ := found p' cv z
        refine ⟨c0, e1, ?_⟩
        have hn : c0 ≠ Pt := fun y => by
          rw [y, hP] at e2
          exact codeO_ne ps (Option.some.inj e2).symm
        rw [same c0 hn (by rw [e2]; intro y; cases y)]
        exact e2
      · exact ⟨c', z, upd_same⟩
    · show s.heap.objs.size ≤ (h2.push _).objs.size
      rw [grow]
      exact Nat.le_succ_of_le hsz
    · have n1 : h2.objs.size ≠ c' := Nat.ne_of_gt lt
      have n2 : h2.objs.size ≠ Pt := Nat.ne_of_gt (Nat.lt_of_lt_of_le (Heap.lt_size at0) hsz)
      rw [upd_ne n1, upd_ne n2]
      exact I.hok.fresh hsz
end
def refV : Value → V
  | .ref T => .ref T
  | _ => .non
theorem vals_refs : ∀ {l : List Value}, (∀ v ∈ l, ∃ T, v = .ref T) → Vals (l.map refV) l
  | [], _ => .nil
  | v :: l, h => by
    obtain ⟨T, rfl⟩ := h v List.mem_cons_self
    exact .cons rfl (vals_refs fun u hu => h u (List.mem_cons_of_mem _ hu))
section
variable {X : Cx}
theorem pe_sortedZL {a : Str} {params : Arguments} {body : Expr} {scope : Scope} {c Pt : Addr} {e1 e2 : Expr} {ta : TA} {p p2 p3 pos lpos kp : Pos} (hr : Room 3 X.A) (hms : X.mg "sorted" = none) (hmz : X.mg "zip" = none) (TB : TabB X.base X.mg c Pt) (hcode : X.env.code = .ref c) (ha : PA X [e1, e2] ta)
    (S1 : FnScope [a] [a] scope) (hbind : ∀ (q : Str) (pm cv ctv u : Value), bindArgs (kla_fn "<lambda>" q params body scope [] pm cv ctv) ⟨[u], []⟩ = pure [(a, u)])
    (hbody : ∀ (q : Str) (f : Addr) (cd : Value) (A : Around) (outer : List Env) (s : Shared) (H : Hp) (E : XK), PE (cxOf L2.CX0 X.prog X.w X.K X.mg X.base [a] q scope f cd A outer s H E) body (tOp (rIxT X.K) (tVar 0) (tC (.int 0))))
    (hdef : defaultsOf params X.env = ([], []) := by rfl) (hgs : Gl X "sorted" := by rfl) (hgz : Gl X "zip" := by rfl)
    (he : backTo pos (starEach [.Call (.Name "zip" p2) [e1, e2] [] p3] X.env) = (false, eval (.Call (.Name "zip" p2) [e1, e2] [] p3) X.env) :: backTo pos (starEach [] X.env) := by rfl) (hpl : (backTo pos (starEach [.Call (.Name "zip" p2) [e1, e2] [] p3] X.env)).any (·.1) = false := by rfl)
    (hall : (backToKw pos (keywordEach [⟨some "key", .Lambda params body scope lpos, kp⟩] X.env)).all (·.1.isSome) = true := by rfl) (hnone : (backToKw pos (keywordEach [⟨some "key", .Lambda params body scope lpos, kp⟩] X.env)).any (·.1.isNone) = false := by rfl)
    (hks : (backToKw pos (keywordEach [⟨some "key", .Lambda params body scope lpos, kp⟩] X.env)).filterMap (·.1) = [Str.ofString "key"] := by rfl)
    (hs2 : starEach [e1, e2] X.env = (false, eval e1 X.env) :: starEach [e2] X.env := by rfl) (hpl2 : (backTo p3 (starEach [e2] X.env)).any (·.1) = false := by rfl) :
    PE X (.Call (.Name "sorted" p) [.Call (.Name "zip" p2) [e1, e2] [] p3] [⟨some "key", .Lambda params body scope lpos, kp⟩] pos) (tSZ X.K Pt (X.env.qual ++ "<lambda>") ta) := by
  refine ⟨fun pins s σ H Q I h => ?_⟩
  refine wpAny_Call_Name_kw (ld_blt I hgs hms (show bootBuiltins ("sorted" : Str) = some (.builtin "sorted") by decide +kernel) ?_ (by decide) (by decide))
  refine PyProof.Rows.callWith_kw ?_ he hpl hall hnone
  rw [hks, he]
  refine Calls.spliced_cons ?_
  refine Call_ (ld_blt I hgz hmz PyProof.Rows.boot_zip (PyProof.Rows.callWith_type1 (thn (ha.run p3 pins s σ H _ I h) fun us s1 ⟨vs, H1, I1, r1, q1⟩ => ?_) hs2 hpl2))
  obtain ⟨la, lb, ns, ys, rfl, hqx, hqy, hlen, hTab, kk⟩ := q1
  obtain ⟨u1, r1', e1', rr⟩ : ∃ u1 r1', us = u1 :: r1' ∧ RelV (.ref la) u1 ∧ Vals [.ref lb] r1' := by cases r1 with | cons r rr => exact ⟨_, _, rfl, r, rr⟩
  obtain ⟨rr1, rr2⟩ := rr
  obtain ⟨u2, e2', rr3⟩ : ∃ u2, r1' = [u2] ∧ RelV (.ref lb) u2 := by cases rr2 with | cons r rr => cases rr; exact ⟨_, rfl, r⟩
  subst e1' e2'
  obtain rfl : u1 = Value.ref la := rr1
  obtain rfl : u2 = Value.ref lb := rr3
  obtain ⟨its, rv, p1, _⟩ := I1.list hqx
  obtain ⟨its2, rv2, p2', _⟩ := I1.list hqy
  refine call_zip_2 p1.isList p2'.isList fun h' hz hTI hTO h1 h2 hsz hk => ?_
  have D : ZipApart (s1.heap.objs.size + 4) (s1.heap.objs.size + 2) (s1.heap.objs.size + 3) s1.heap.objs.size (s1.heap.objs.size + 1) la lb := PySem.W.ktu_apart s1.heap.objs.size la lb p1.lt p2'.lt
  have hle : ∀ k, s1.heap.objs.size ≤ s1.heap.objs.size + k := fun k => Nat.le_add_right _ _
  have f4 := I1.fpOk (hle 4) (I1.hok.fresh (hle 4))
  have f2 := I1.fpOk (hle 2) (I1.hok.fresh (hle 2))
  have f3 := I1.fpOk (hle 3) (I1.hok.fresh (hle 3))
  have f0 := I1.fpOk (hle 0) (I1.hok.fresh (hle 0))
  have f1 := I1.fpOk (hle 1) (I1.hok.fresh (hle 1))
  simp only [Nat.add_zero] at f0
  have I2 : L2.Inv X pins σ H1 { s1 with heap := h' } := I1.kept (t' := s1.toks) hk
  obtain ⟨o1, g1, c1, d1⟩ := id h1
  obtain ⟨o2, g2, c2, d2⟩ := id h2
  generalize hzz : s1.heap.objs.size + 4 = z at hz D f4
  generalize hzTI : s1.heap.objs.size + 2 = TI at hz hTI D f2
  generalize hzTO : s1.heap.objs.size + 3 = TO at hz hTO D f3
  generalize hz1 : s1.heap.objs.size = i1 at hTI h1 D f0 g1
  rw [hz1] at f1 g2
  generalize hz2 : i1 + 1 = i2 at hTI h2 D f1 g2
  have f1' : L2.FpOk X pins H1 i2 := f1
  have I2p : L2.Inv X (pins ++ [(z, _), (TI, _), (TO, _), (i1, o1), (i2, o2)]) σ H1 { s1 with heap := h' } := I2.pins_of fun p hp => by
    rcases List.mem_append.mp hp with y | y
    · exact I2.pin p (List.mem_append_right _ y)
    · simp only [List.mem_cons, List.not_mem_nil, or_false] at y
      rcases y with y | y | y | y | y
      · subst y; exact ⟨hz, f4.1, f4.2.1, f4.2.2.1, fun v q => by cases q⟩
      · subst y; exact ⟨hTI, f2.1, f2.2.1, f2.2.2.1, fun v q => by cases q⟩
      · subst y; exact ⟨hTO, f3.1, f3.2.1, f3.2.2.1, fun v q => by cases q⟩
      · subst y; exact ⟨g1, f0.1, f0.2.1, f0.2.2.1, fun v q => by rw [d1] at q; cases q⟩
      · subst y; exact ⟨g2, f1'.1, f1'.2.1, f1'.2.2.1, fun v q => by rw [d2] at q; cases q⟩
  show wpAny _ _ (spliced (backTo pos (starEach [] X.env))) _ _ _
  refine Calls.spliced_nil ?_
  show wpAny _ _ (evalAll [do let v ← eval (.Lambda params body scope lpos) X.env; standAt pos; pure v]) _ _ _
  refine wpAny_evalAll_cons (wpAny_bind (lam_new I2p TB hcode hTab hdef S1.nofree fun f c' pm ctv H3 s3 I3 sm tab3 flo slo hf hfn hco => wpAny_bind (wpAny_standAt (wpAny_pure ?_))))
  refine wpAny_evalAll_nil ?_
  show wpAny _ _ (call (.builtin "sorted") [.ref z] [(Str.ofString "key", .ref f)]) _ _ s3
  have eN : ExtN H1 H3 := fun b o e n => by
    rw [sm b (fun z => by
      obtain ⟨ps, hP, _⟩ := hTab
      rw [z, hP] at e
      exact n ps (Option.some.inj e).symm) (by rw [e]; intro z; cases z)]
    exact e
  have slo1 : s1.heap.objs.size ≤ s3.heap.objs.size := Nat.le_trans (by show s1.heap.objs.size ≤ h'.objs.size; omega) slo
  have pz := I3.pin (z, _) (List.mem_append_right _ (List.mem_append_right _ List.mem_cons_self))
  have pTI := I3.pin (TI, _) (List.mem_append_right _ (List.mem_append_right _ (.tail _ List.mem_cons_self)))
  have pTO := I3.pin (TO, _) (List.mem_append_right _ (List.mem_append_right _ (.tail _ (.tail _ List.mem_cons_self))))
  have pi1 := I3.pin (i1, o1) (List.mem_append_right _ (List.mem_append_right _ (.tail _ (.tail _ (.tail _ List.mem_cons_self)))))
  have pi2 := I3.pin (i2, o2) (List.mem_append_right _ (List.mem_append_right _ (.tail _ (.tail _ (.tail _ (.tail _ List.mem_cons_self))))))
  have fne : ∀ (b : Addr) (o : Obj) (T : String), s3.heap.get? b = some o → o.cls = .type T → T ≠ "function" → f ≠ b := fun b o T e1 e2 hT e => by
    rw [← e, show s3.heap.get? f = _ from hf] at e1
    have q := congrArg Obj.cls (Option.some.inj e1)
    rw [e2] at q
    exact hT (Value.type.inj q).symm
  have fz : f ≠ z := fne z _ "zip" pz.1 rfl (by decide)
  have fTO : f ≠ TO := fne TO _ "tuple" pTO.1 rfl (by decide)
  have fi1 : f ≠ i1 := fne i1 _ "list_iterator" pi1.1 c1 (by decide)
  have fi2 : f ≠ i2 := fne i2 _ "list_iterator" pi2.1 c2 (by decide)
  have I3' : L2.Inv X pins σ H3 s3 := I3.unpinned
  have ff := I2.fpOk flo hfn
  obtain ⟨fo, hfo⟩ : ∃ fo : Obj, fo = kla_obj "<lambda>" (X.env.qual ++ "<lambda>") params body scope [] pm c' ctv := ⟨_, rfl⟩
  have hf2 : s3.heap.get? f = some fo := by rw [hfo]; exact hf
  have I4 : L2.Inv X (pins ++ [(f, fo)]) σ H3 s3 := I3'.pins_of fun p hp => by
    rcases List.mem_append.mp hp with y | y
    · exact I3'.pin p (List.mem_append_right _ y)
    · rw [List.mem_singleton.mp y]
      exact ⟨hf2, hfn, ff.2.1, ff.2.2.1, fun v q => by rw [hfo] at q; cases q⟩
  have mkFp : ∀ b, L2.FpOk X pins H1 b → H3 b = none → f ≠ b → L2.FpOk X (pins ++ [(f, fo)]) H3 b := fun b q hb hfb => ⟨hb, q.2.1, q.2.2.1, q.2.2.2.1, q.2.2.2.2.1, fun p hp => by
    rcases List.mem_append.mp hp with y | y
    · exact q.2.2.2.2.2 p (List.mem_append_left _ y)
    · rcases List.mem_append.mp y with y | y
      · exact q.2.2.2.2.2 p (List.mem_append_right _ y)
      · rw [List.mem_singleton.mp y]; exact hfb⟩
  have F4 := mkFp z f4 pz.2.1 fz
  have F3 := mkFp TO f3 pTO.2.1 fTO
  have F0 := mkFp i1 f0 pi1.2.1 fi1
  have F1 := mkFp i2 f1' pi2.2.1 fi2
  obtain ⟨its3, rv3, q1, sz1⟩ := I4.list (ext_sql eN hqx)
  obtain ⟨its4, rv4, q2, sz2⟩ := I4.list (ext_sql eN hqy)
  have l3 : its3.length = ns.length := by have := rv3.length; simpa using this.symm
  have l4 : its4.length = ns.length := by have := rv4.length; omega
  have hh : X.A.handled = none := hr.hd
  have hnz : ns.length ≤ sizeLine := by simpa using sz1
  refine call_function_entry_kw kind_sorted plain_sorted entry_sorted (ksk_s1 _ _) ?_
  unfold Builtin.«sorted»
  refine wpAny_bind (m := checkCount "sorted" 1 1 _) (wpAny_pure ?_)
  refine wpAny_bind (collect_zip (n := ns.length) (xs := its3.toArray) (ys := its4.toArray) hh D pz.1 pTI.1 ⟨_, _, pTO.1⟩ ⟨o1, pi1.1, c1, d1⟩ ⟨o2, pi2.1, c2, d2⟩ q1.isList q2.isList (by simpa using l3) (by simpa using l4) hnz fun h5 acc sa ta da lt5 ka => ?_)
  have accl : acc.toList.length = ns.length := by simpa using sa
  refine wpAny_bind (wpAny_newList ?_ (by rw [accl]; exact hnz))
  have gD : (h5.push (seqObj "list" acc.toList.toArray 0)).get? h5.objs.size = some (seqObj "list" acc.toList.toArray 0) := Heap.get?_push_size _ rfl
  have old5 : ∀ b o, b ∉ [z, TO, i1, i2] → s3.heap.get? b = some o → (h5.push (seqObj "list" acc.toList.toArray 0)).get? b = some o := fun b o hb e => by
    simp only [List.mem_cons, List.not_mem_nil, or_false, not_or] at hb
    exact Heap.get?_push_of_some _ (ka b o hb.1 hb.2.1 hb.2.2.1 hb.2.2.2 e)
  obtain ⟨N, hN1, hN2⟩ : ∃ N : Addr → Option (List V), (∀ (j : Nat) (T : Addr), acc[j]? = some (.ref T) → N T = some [.int (ns.getD j 0), ys.getD j .non]) ∧ ∀ b vs, N b = some vs → ∃ j, acc[j]? = some (.ref b) ∧ vs = [.int (ns.getD j 0), ys.getD j .non] := by
    classical
    refine ⟨fun b => if h : ∃ j : Nat, acc[j]? = some (Value.ref b) then some [.int (ns.getD h.choose 0), ys.getD h.choose .non] else none, fun j T e => ?_, fun b vs e => ?_⟩
    · have h : ∃ j : Nat, acc[j]? = some (Value.ref T) := ⟨j, e⟩
      have ej : h.choose = j := da _ _ _ h.choose_spec e
      show (if h : ∃ j : Nat, acc[j]? = some (Value.ref T) then _ else _) = _
      rw [dif_pos h, ej]
    · by_cases h : ∃ j : Nat, acc[j]? = some (Value.ref b)
      · have e2 : (if h : ∃ j : Nat, acc[j]? = some (Value.ref b) then some [V.int (ns.getD h.choose 0), ys.getD h.choose .non] else none) = some vs := e
        rw [dif_pos h] at e2
        exact ⟨h.choose, h.choose_spec, (Option.some.inj e2).symm⟩
      · have e2 : (if h : ∃ j : Nat, acc[j]? = some (Value.ref b) then some [V.int (ns.getD h.choose 0), ys.getD h.choose .non] else none) = some vs := e
        rw [dif_neg h] at e2
        cases e2
  have jlt : ∀ (j : Nat) (v : Value), acc[j]? = some v → j < ns.length := fun j v e => by
    have := (Array.getElem?_eq_some_iff.mp e).1
    omega
  have I5 : L2.Inv X (pins ++ [(f, fo)]) σ (addT H3 N) { s3 with heap := h5.push (seqObj "list" acc.toList.toArray 0) } := by
    refine Inv.tups (t' := s3.toks) (ch := [z, TO, i1, i2]) I4 old5 (fun b hb => ?_) fun b vs e => ?_
    · simp only [List.mem_cons, List.not_mem_nil, or_false] at hb
      rcases hb with y | y | y | y
      · rw [y]; exact F4
      · rw [y]; exact F3
      · rw [y]; exact F0
      · rw [y]; exact F1
    · obtain ⟨j, ej, rfl⟩ := hN2 b vs e
      obtain ⟨T, x, y, e1, lo, hi, ex, ey, hp⟩ := ta j _ ej
      cases e1
      have hj := jlt j _ ej
      refine ⟨lo, by show 2 ≤ sizeLine; decide, [x, y], ?_, ⟨_, Heap.get?_push_of_some _ hp, rfl, _, rfl⟩⟩
      have hnj : ns[j]? = some ns[j] := List.getElem?_eq_getElem hj
      have hyj : ys[j]? = some ys[j] := List.getElem?_eq_getElem (by omega)
      obtain ⟨x', qx, rx⟩ := rv3.get (i := j) (x := .int ns[j]) (by rw [List.getElem?_map, hnj]; rfl)
      obtain ⟨y', qy, ry⟩ := rv4.get hyj
      have ex2 : x' = x := by
        have : its3[j]? = some x := by simpa using ex
        rw [qx] at this
        exact Option.some.inj this
      have ey2 : y' = y := by
        have : its4[j]? = some y := by simpa using ey
        rw [qy] at this
        exact Option.some.inj this
      have en : ns.getD j 0 = ns[j] := by rw [List.getD_eq_getElem?_getD, hnj]; rfl
      have eyv : ys.getD j .non = ys[j] := by rw [List.getD_eq_getElem?_getD, hyj]; rfl
      rw [en, eyv, ← ex2, ← ey2]
      exact .cons rx (.cons ry .nil)
  have refs : ∀ v ∈ acc.toList, ∃ T, v = .ref T := fun v hv => by
    obtain ⟨j, ej⟩ := List.getElem?_of_mem hv
    obtain ⟨T, _, _, e1, _⟩ := ta j v (by simpa using ej)
    exact ⟨T, e1⟩
  have nD : addT H3 N h5.objs.size = none := by
    cases q : N h5.objs.size with
    | some vs =>
      obtain ⟨j, ej, _⟩ := hN2 _ _ q
      obtain ⟨T, x, y, e1, lo, hi, _⟩ := ta j _ ej
      cases e1
      exact absurd hi (Nat.lt_irrefl _)
    | none =>
      rw [addT_none q]
      exact I4.hok.fresh (Nat.le_of_lt lt5)
  have fD : L2.FpOk X (pins ++ [(f, fo)]) (addT H3 N) h5.objs.size := I4.fpOk (Nat.le_of_lt lt5) nD
  have up3 : ∀ b u, H3 b = some u → addT H3 N b = some u := fun b u e => by
    have hb : b < s3.heap.objs.size := (I4.hok b u e).lt
    cases q : N b with
    | none => rw [addT_none q]; exact e
    | some vs =>
      obtain ⟨j, ej, _⟩ := hN2 _ _ q
      obtain ⟨T, x, y, e1, lo, hi, _⟩ := ta j _ ej
      cases e1
      exact absurd hb (Nat.not_lt_of_le lo)
  refine wpAny_bind (wpAny_holding (wpAny_call_entry_kw slot_list_sort ⟨_, gD, rfl⟩ entry_list_sort ?body (ksk_l1 _ _)))
  show wpAny (model X.prog X.w) X.A.in1.in1 (Builtin.«list.sort» ⟨[.ref h5.objs.size], [(Str.ofString "key", .ref f)]⟩) _ _ _
  have hun : X.A.in1.in1.units + 10 < cLine := by
    have := hr.un
    show X.A.units + 1 + 1 + 10 < cLine
    omega
  refine sortI (ns := ns) I5 gD fD (vals_refs refs) (by rw [accl]) (by rw [accl]; exact hnz) hun (fun j u i pl s' hu hi I' => ?_) fun s' bs I' hp hpw => ?_
  · have eu : acc[j]? = some u := by simpa using hu
    obtain ⟨T, x, y, e1, _⟩ := ta j u eu
    subst e1
    have pf := I'.pin (f, fo) (List.mem_append_right _ (List.mem_append_left _ (List.mem_append_right _ List.mem_cons_self)))
    have pf1 : s'.heap.get? f = some (kla_obj "<lambda>" (X.env.qual ++ "<lambda>") params body scope [] pm c' ctv) := by rw [← hfo]; exact pf.1
    have en : ns.getD j 0 = i := by rw [List.getD_eq_getElem?_getD, hi]; rfl
    refine lam_call (k := 0) (v := .ref T) I' pf1 (up3 _ _ hco) S1 hbind (Room.in1 (Room.in1 (hr.mono (by omega)))) rfl (fun A outer s H E => hbody _ _ _ A outer s H E) ?_
    refine ⟨.ref T, rfl, T, _, 0, .int i, rfl, rfl, SqT.of (addT_some (hN1 j T eu)), ?_, rfl, rfl⟩
    rw [en]
    rfl
  · refine ⟨_, rfl, wpAny_pure ⟨_, rfl, .ref h5.objs.size, _, I'.unpinned, rfl, ?_⟩⟩
    refine kk (addT H3 N) bs h5.objs.size (acc.toList.map refV) (fun b hb hn => ?_) ?_ nD (by rw [List.length_map, accl]) hp (fun j i y hi hy => ?_) hpw
    · cases q : H1 b with
      | none => exact absurd q hn
      | some o => exact up3 b o (by rw [sm b hb hn]; exact q)
    · obtain ⟨ps, a1, a2, a3⟩ := tab3
      exact ⟨ps, up3 _ _ a1, a2, fun p cv hcv => by
        obtain ⟨c0, b1, b2⟩ := a3 p cv hcv
        exact ⟨c0, b1, up3 _ _ b2⟩⟩
    · have hj : j < acc.size := by rw [sa]; exact (List.getElem?_eq_some_iff.mp hi).1
      have eu : acc[j]? = some acc[j] := Array.getElem?_eq_getElem hj
      obtain ⟨T, x, y', e1, lo, hi2, _⟩ := ta j _ eu
      have en : ns.getD j 0 = i := by rw [List.getD_eq_getElem?_getD, hi]; rfl
      have ey : ys.getD j .non = y := by rw [List.getD_eq_getElem?_getD, hy]; rfl
      rw [e1] at eu
      refine ⟨T, ?_, ?_, ?_⟩
      · rw [List.getElem?_map]
        have : acc.toList[j]? = some (.ref T) := by simpa using eu
        rw [this]
        rfl
      · cases q : H1 T with
        | none => rfl
        | some o =>
          exact absurd (Nat.lt_of_lt_of_le (I1.hok T o q).lt slo1) (Nat.not_lt_of_le lo)
      · rw [addT_some (hN1 j T eu), en, ey]
end
end Ly

namespace Ly
open PySem PySem.Spec PyProof.Rows L2 PySem.W
/-! ### walks over pairs -/
section
variable {K : PySem.W.Frag}
theorem forg_zip {ta : TA} {a b : Addr} {xs ys : List V} {n : Nat} {g : TG} {tb : TS} {D : Ends} {σ : L2.St} {F H : Hp} (M : List Addr) (hl : ∀ R : List V → Hp → Prop, R [.ref a, .ref b] H → ta σ H R) (hx : F a = some (.lst xs)) (hy : F b = some (.lst ys)) (hnn : n = min xs.length ys.length) (hF : Same F H) (I : Nat → L2.St → Hp → Hp → Prop) (h0 : I 0 σ F H)
    (hs : ∀ i x y T σ1 F1 H1 (Nk : L2.St → Hp → Prop), i < n → xs[i]? = some x → ys[i]? = some y → Ex M F H F1 H1 → I i σ1 F1 H1 → H1 T = none → (∀ σ2 F2 H2, Ex M F1 (upd H1 T (.tup [x, y])) F2 H2 → I (i + 1) σ2 F2 H2 → Nk σ2 H2) → g (.ref T) σ1 (upd H1 T (.tup [x, y])) fun σ2 H2 => tb { D with nx := Nk, ct := Nk, bk := D.nx } σ2 H2)
    (hd : ∀ σ1 F1 H1, Ex M F H F1 H1 → I n σ1 F1 H1 → D.nx σ1 H1) : tFor (iZip K ta) g tb D σ H := by
  refine r_for (hl _ ⟨a, b, xs, ys, rfl, SqL.of (hF _ _ hx), SqL.of (hF _ _ hy), ?_⟩)
  refine for_it (walk_zip hnn) (fun i σ1 H1 => ∃ F1, Ex M F H F1 H1 ∧ I i σ1 F1 H1) ⟨F, Ex.refl hF, h0⟩ (fun i σ1 H1 _ ⟨F1, e, _⟩ => ⟨SqL.of (e.fh _ _ (e.ff _ _ hx)), SqL.of (e.fh _ _ (e.ff _ _ hy))⟩)
    (fun i y σ1 H1 H2 hi ⟨F1, e, p⟩ yy => ?_) fun σ1 H1 ⟨F1, e, p⟩ => hd σ1 F1 H1 e p
  obtain ⟨T, x, z, rfl, hT, rfl, e1, e2⟩ := yy
  exact hs i x z T σ1 F1 H1 _ hi e1 e2 e p hT fun σ2 F2 H3 e3 p2 => ⟨F2, e.trans ((Ex.new e.fh hT).trans e3), p2⟩
theorem lcg_enum {ts : TA} {a : Addr} {xs : List V} {g : TG} {tt : TT} {te : TE} {vs : List Nat} {σ : L2.St} {F H : Hp} {Q : VK} (hl : ∀ R : List V → Hp → Prop, R [.ref a] H → ts σ H R) (hx : F a = some (.lst xs)) (hF : Same F H) (hn : xs.length < sizeLine)
    (P : Nat → List V → Hp → Prop) (hP : ∀ k acc F F', Same F F' → P k acc F → P k acc F') (h0 : P 0 [] F)
    (hs : ∀ k x t acc F1 H1 (Kk : VK) (Nk : Hp → Prop), k < xs.length → xs[k]? = some x → Ex [] F H F1 (upd H1 t (.tup [.int (k : Nat), x])) → P k acc F1 → acc.length ≤ k →
      (∀ z F4 H4, Ex [] F1 (upd H1 t (.tup [.int (k : Nat), x])) F4 H4 → P (k + 1) (acc ++ [z]) F4 → Kk z H4) → (∀ F4 H4, Ex [] F1 (upd H1 t (.tup [.int (k : Nat), x])) F4 H4 → P (k + 1) acc F4 → Nk H4) →
      g (.ref t) (wipe σ vs) (upd H1 t (.tup [.int (k : Nat), x])) fun σ2 H2 => wipe σ2 vs = wipe σ vs ∧ tt σ2 H2 fun b H3 => if b = true then te σ2 H3 Kk else Nk H3)
    (hd : ∀ D acc F1 H1, Ex [] F H F1 H1 → H D = none → F1 D = none → H1 D = some (.lst acc) → P xs.length acc F1 → acc.length ≤ xs.length → Q (.ref D) H1) : tLc (iEnum K ts) g tt te vs σ H Q :=
  hl _ ⟨a, xs, rfl, SqL.of (hF _ _ hx), lc_pair walk_enum hF hn P hP h0 (fun F' H' g1 g2 => SqL.of (g2 _ _ (g1 _ _ hx))) (fun k x y t acc F1 H1 Kk Nk hk e1 e2 => by
    cases e1
    exact hs k y t acc F1 H1 Kk Nk hk e2) hd⟩
end
theorem valV_mem {kk : Key} {v : V} : ∀ {kvs : List (Key × V)}, (kvs.map (·.1)).Nodup → (kk, v) ∈ kvs → valV kvs kk = some v
  | p :: r, nd, h => by
    rw [List.map_cons, List.nodup_cons] at nd
    by_cases e : p.1 = kk
    · rw [valV_pos e]
      rcases List.mem_cons.mp h with z | z
      · rw [← z]
      · exact absurd (List.mem_map.mpr ⟨_, z, rfl⟩) (by rw [e] at nd; exact nd.1)
    · have h2 : (kk, v) ∈ r := by
        rcases List.mem_cons.mp h with z | z
        · exact absurd (by rw [← z]) e
        · exact z
      have := valV_mem nd.2 h2
      unfold valV at this ⊢
      rw [List.find?_cons_of_neg (by simpa using e)]
      exact this
/-! ### [d[k] for k in d], d locked while it runs -/
theorem keys_of_dict {i j : Nat} {d : Addr} {kvs : List (Key × V)} {σ : L2.St} {H : Hp} {Q : VK} (hi : (σ : L2.St)[i]? = some (some (.ref d))) (hij : i ≠ j) (hj : j < σ.length) (hx : H d = some (.dK kvs)) (nd : (kvs.map (·.1)).Nodup) (hn : kvs.length < sizeLine)
    (k : ∀ D, H D = none → Q (.ref D) (upd H D (.lst (kvs.map (·.2))))) : tLockE (tLc (iKeys (tVar i)) (gName j) tYes (tDGet (tVar i) (tVar j)) [j]) σ H Q := by
  have wi : (wipe σ [j])[i]? = some (some (.ref d)) := by
    show (σ.set j none)[i]? = _
    rw [List.getElem?_set_ne (Ne.symm hij)]
    exact hi
  refine ⟨d, .dK kvs, hx, trivial, fun od => ?_⟩
  refine ⟨.ref d, hi, d, od, rfl, .inl ⟨kvs, upd_same, fun D hD => ?_⟩⟩
  have hDd : d ≠ D := fun z => by rw [← z, upd_same] at hD; cases hD
  have hD0 : H D = none := by rw [upd_ne (Ne.symm hDd)] at hD; exact hD
  refine lc_it (walk_keys (d := d) (o := od) (kvs := kvs)) (fun m H' => H' = upd (upd H d (.frz od (.dK kvs))) D (.lst ((kvs.take m).map (·.2)))) (by simp) (fun m H' _ e => by rw [e, upd_ne hDd, upd_same]) ?_ ?_
  · rintro m x H1 H2 hm rfl ⟨rfl, kk, v, hk, rfl⟩
    have at_d : upd (upd H d (.frz od (.dK kvs))) D (.lst ((kvs.take m).map (·.2))) d = some (.frz od (.dK kvs)) := by rw [upd_ne hDd, upd_same]
    have hv : valV kvs kk = some v := valV_mem nd (List.mem_of_getElem? hk)
    have hj' : j < (wipe σ [j]).length := by
      show j < (σ.set j none).length
      simpa using hj
    refine ⟨?_, .ref d, ?_, _, ?_, d, v, rfl, .inl ⟨kvs, kk, .inr ⟨od, at_d⟩, rfl, hv.symm⟩, _, upd_same, by simp; omega, ?_⟩
    · show ((σ.set j none).set j (some (kV kk))).set j none = σ.set j none
      simp
    · show ((σ.set j none).set j (some (kV kk)))[i]? = _
      rw [List.getElem?_set_ne (Ne.symm hij)]
      exact wi
    · show ((σ.set j none).set j (some (kV kk)))[j]? = some (some (kV kk))
      rw [List.getElem?_set_self (by simpa using hj)]
    · rw [upd_upd, List.take_add_one, hk]
      simp
  · rintro H1 rfl
    refine ⟨by rw [upd_ne hDd, upd_same], ?_⟩
    rw [List.take_of_length_le (Nat.le_refl _)]
    have e : upd (upd (upd H d (.frz od (.dK kvs))) D (.lst (kvs.map (·.2)))) d (.dK kvs) = upd H D (.lst (kvs.map (·.2))) := by
      funext b
      by_cases h1 : b = d
      · rw [h1, upd_same, upd_ne hDd, hx]
      · rw [upd_ne h1]
        by_cases h2 : b = D
        · rw [h2, upd_same, upd_same]
        · rw [upd_ne h2, upd_ne h2, upd_ne h1]
    rw [e]
    exact k D hD0
/-! ### sorted(a list of lists of whole numbers whose first ones rise) -/
def rSortLL (K : PySem.W.Frag) : List V → Hp → VK → Prop := fun vs H Q => ∃ (a : Addr) (xs : List V) (ls : List (List Int)), vs = [.ref a] ∧ SqL K H a xs ∧ xs.length = ls.length ∧ (∀ (i : Nat) (l : List Int) (x : V), ls[i]? = some l → xs[i]? = some x → ∃ q, x = .ref q ∧ SqL K H q (l.map V.int)) ∧
  ls.Pairwise (fun l m => ∃ (i j : Int) (r t : List Int), l = i :: r ∧ m = j :: t ∧ i < j) ∧ ∀ p, H p = none → Q (.ref p) (upd H p (.lst xs))
theorem each_get {α β : Type} {R : α → β → Prop} : ∀ {as : List α} {bs : List β}, as.length = bs.length → (∀ (i : Nat) a b, as[i]? = some a → bs[i]? = some b → R a b) → EachIs R as bs
  | [], [], _, _ => .nil
  | a :: as, b :: bs, hl, h => .cons (h 0 a b rfl rfl) (each_get (by simpa using hl) fun i x y h1 h2 => h (i + 1) x y (by simpa using h1) (by simpa using h2))
theorem zip_snd {α β : Type} : ∀ {l : List α} {m : List β}, l.length = m.length → (l.zip m).map (·.2) = m
  | [], [], _ => rfl
  | a :: l, b :: m, h => by simp only [List.zip_cons_cons, List.map_cons]; rw [zip_snd (by simpa using h)]
theorem each_vals' {α : Type} : ∀ {us : List Value} {bs : List (α × V)}, EachIs (fun u (b : α × V) => RelV b.2 u) us bs → Vals (bs.map (·.2)) us
  | _, _, .nil => .nil
  | _, _, .cons r rr => .cons r (each_vals' rr)
theorem dpAll_ints {K : PySem.W.Frag} {H : Hp} : ∀ l : List Int, DpAll K H (l.map V.int) (l.map PyData.int)
  | [] => .nil
  | i :: l => .cons (.int i) (dpAll_ints l)
theorem cr_sortedLL {X : Cx} (hu : X.A.units + 64 < cLine) : CallR X (.builtin "sorted") (rSortLL X.K) := by
  intro pins s σ H vs us Q I r h
  obtain ⟨a, xs, ls, rfl, hs, hl, hq, hpw, k⟩ := h
  obtain rfl := Vals.ref1 r
  obtain ⟨its, rv, hL, hz⟩ := I.list hs
  have hlen : its.length = xs.length := rv.length.symm
  have zl : (ls.zip xs).length = its.length := by rw [List.length_zip]; omega
  have depth1 : ∀ l : List Int, (PyData.list (l.map PyData.int)).depth ≤ 1 := fun l => by
    have : ∀ l : List Int, PyData.depthAll (l.map PyData.int) = 0 := fun l => by
      induction l with
      | nil => rfl
      | cons i l ih => simp [PyData.depthAll, PyData.depth, ih]
    simp [PyData.depth, this]
  have alikeI : ∀ l m : List Int, alikeAll (l.map PyData.int) (m.map PyData.int) = true := fun l => by
    induction l with
    | nil => intro m; cases m <;> rfl
    | cons i l ih =>
      intro m
      cases m with
      | nil => rfl
      | cons j m => show (true && _) = true; rw [ih]; rfl
  have at_ : ∀ (i : Nat) (u : Value) (b : List Int × V), its[i]? = some u → (ls.zip xs)[i]? = some b → RelV b.2 u ∧ ∃ q, b.2 = .ref q ∧ SqL X.K H q (b.1.map V.int) := fun i u b h1 h2 => by
    rw [List.getElem?_zip_eq_some] at h2
    obtain ⟨u', e, rr⟩ := rv.get h2.2
    rw [h1] at e
    cases e
    exact ⟨rr, hq i b.1 b.2 h2.1 h2.2⟩
  refine sorted_data (vs := its) (bs := ls.zip xs) (enc := fun b : List Int × V => PyData.list (b.1.map PyData.int)) (R := fun u (b : List Int × V) => RelV b.2 u) hL.isList (each_get zl.symm fun i u b h1 h2 => (at_ i u b h1 h2).1) (each_get zl.symm fun i u b h1 h2 => ?_) (fun d hd d' hd' => ?_) (.inr fun d hd => ?_) (by rw [zl, hlen]; exact hz) (fun b hb => ?_) fun out ho eo => ?_
  · obtain ⟨rr, q, e, sq⟩ := at_ i u b h1 h2
    exact Dp.reads I (.list (b.1.map PyData.int)) b.2 u (by rw [e]; exact .lst sq (dpAll_ints b.1)) rr
  · obtain ⟨b, _, rfl⟩ := List.mem_map.mp hd
    obtain ⟨b', _, rfl⟩ := List.mem_map.mp hd'
    show alikeAll _ _ = true
    exact alikeI _ _
  · obtain ⟨b, _, rfl⟩ := List.mem_map.mp hd
    exact ⟨fun z => (by cases z), fun xs z => by cases z⟩
  · have := depth1 b.1
    omega
  · have srt : (ls.zip xs).Pairwise fun a b => dataLe false (fun b : List Int × V => PyData.list (b.1.map PyData.int)) a b = true := by
      have h1 : (ls.zip xs).map (·.1) = ls := zip_fst hl.symm
      have h2 : ((ls.zip xs).map (·.1)).Pairwise (fun l m => ∃ (i j : Int) (r t : List Int), l = i :: r ∧ m = j :: t ∧ i < j) := by rw [h1]; exact hpw
      rw [List.pairwise_map] at h2
      refine h2.imp fun {x y} h => ?_
      obtain ⟨i, j, r, t, e1, e2, lt⟩ := h
      show (!(lexLt itemOrd (keyToks (PyData.list (y.1.map PyData.int))) (keyToks (PyData.list (x.1.map PyData.int))))) = true
      rw [e1, e2]
      show (!(lexLt itemOrd (Sum.inl 1 :: (Sum.inl j :: _)) (Sum.inl 1 :: (Sum.inl i :: _)))) = true
      rw [lex_cons, lex_cons]
      show (!(decide ((1 : Int) < 1) || (!decide ((1 : Int) < 1) && (decide (j < i) || (!decide (i < j) && _))))) = true
      have : ¬ j < i := by omega
      simp [this, lt]
    rw [List.mergeSort_of_pairwise srt] at eo
    obtain ⟨e, he⟩ := sortedAll_at s.heap its out.toArray
    have I2 : L2.Inv X pins σ H { s with heap := sortedAll s.heap its (List.toArray out) } := I.kept (t' := s.toks) fun b o q => sortedAll_old q
    have fr : s.heap.objs.size ≤ s.heap.objs.size + 1 := Nat.le_succ _
    have vx : Vals xs out := by
      have := each_vals' eo
      have h2 : (ls.zip xs).map (·.2) = xs := zip_snd hl.symm
      rw [h2] at this
      exact this
    refine ⟨.ref (s.heap.objs.size + 1), _, I.laid (t' := s.toks) (a := s.heap.objs.size + 1) (o := .lst xs) (fun b o q => sortedAll_old q) fr ⟨hz, out, e, vx, he⟩, rfl, k _ (I.hok.fresh fr)⟩
end Ly

namespace Ly
open PySem PySem.Spec PyProof.Rows L2
/-! ### the places with one number -/
def intsV (l : List Nat) : List V := l.map fun n : Nat => V.int (n : Nat)
theorem intsV_len (l : List Nat) : (intsV l).length = l.length := by simp [intsV]
theorem intsV_get {l : List Nat} {i : Nat} : (intsV l)[i]? = l[i]?.map fun n : Nat => V.int (n : Nat) := by simp [intsV]
theorem intsV_int (l : List Nat) : intsV l = (l.map fun n : Nat => (n : Int)).map V.int := by simp [intsV]
def places (l : List Nat) (v : Nat) : List Nat := (List.range l.length).filter fun p => decide (l[p]? = some v)
theorem places_mem {l : List Nat} {v p : Nat} : p ∈ places l v ↔ l[p]? = some v := by
  unfold places
  rw [List.mem_filter, List.mem_range, decide_eq_true_eq]
  constructor
  · exact fun h => h.2
  · exact fun h => ⟨(List.getElem?_eq_some_iff.mp h).1, h⟩
theorem places_pw (l : List Nat) (v : Nat) : (places l v).Pairwise (· < ·) := List.Pairwise.filter _ List.pairwise_lt_range
theorem places_le (l : List Nat) (v : Nat) : (places l v).length ≤ l.length := by
  have := List.length_filter_le (fun p => decide (l[p]? = some v)) (List.range l.length)
  simpa [places] using this
theorem places_snoc (l : List Nat) (a v : Nat) : places (l ++ [a]) v = if a = v then places l v ++ [l.length] else places l v := by
  unfold places
  rw [List.length_append, List.length_singleton, List.range_succ, List.filter_append]
  have e1 : (List.range l.length).filter (fun p => decide ((l ++ [a])[p]? = some v)) = (List.range l.length).filter fun p => decide (l[p]? = some v) := by
    refine List.filter_congr fun p hp => ?_
    rw [List.getElem?_append_left (List.mem_range.mp hp)]
  rw [e1]
  by_cases h : a = v
  · rw [if_pos h]
    congr 1
    rw [List.filter_cons, if_pos (by simp [h])]
    rfl
  · rw [if_neg h, List.filter_cons, if_neg (by simp [h])]
    simp
theorem places_take {l : List Nat} {i a : Nat} (h : l[i]? = some a) (v : Nat) : places (l.take (i + 1)) v = if a = v then places (l.take i) v ++ [i] else places (l.take i) v := by
  rw [List.take_add_one, h]
  have hi := (List.getElem?_eq_some_iff.mp h).1
  have := places_snoc (l.take i) a v
  rw [List.length_take, Nat.min_eq_left (by omega)] at this
  exact this
theorem places_none {l : List Nat} {v : Nat} (h : v ∉ l) : places l v = [] := by
  cases z : places l v with
  | nil => rfl
  | cons p r =>
    have : p ∈ places l v := by rw [z]; exact List.mem_cons_self
    exact absurd (List.mem_of_getElem? (places_mem.mp this)) h
theorem places_head {l : List Nat} {v : Nat} (h : v ∈ l) : ∃ r, places l v = l.idxOf v :: r := by
  have h1 : l.idxOf v ∈ places l v := places_mem.mpr (by
    have := List.idxOf_lt_length_of_mem h
    rw [List.getElem?_eq_getElem this]
    simp)
  cases z : places l v with
  | nil => rw [z] at h1; simp at h1
  | cons p r =>
    have pw := places_pw l v
    rw [z] at pw h1
    have hp : p ∈ places l v := by rw [z]; exact List.mem_cons_self
    have le : l.idxOf v ≤ p := by
      have e := places_mem.mp hp
      obtain ⟨hl, e2⟩ := List.getElem?_eq_some_iff.mp e
      rcases Nat.lt_or_ge p (l.idxOf v) with q | q
      · have := List.not_of_lt_findIdx (p := fun x => x == v) (xs := l) (i := p) (by simpa [List.idxOf] using q)
        simp [e2] at this
      · exact q
    rcases List.mem_cons.mp h1 with y | y
    · exact ⟨r, by rw [← y]⟩
    · have := (List.pairwise_cons.mp pw).1 _ y
      omega
theorem eOnce_idx : ∀ l : List Nat, (eOnce l).Pairwise fun u v => l.idxOf u < l.idxOf v := by
  refine rev_ind .nil fun l k ih => ?_
  rw [eOnce_snoc]
  have up : ∀ u, u ∈ eOnce l → (l ++ [k]).idxOf u = l.idxOf u := fun u hu => by
    rw [List.idxOf_append]
    simp [(eOnce_mem l u).mp hu]
  have ih2 : (eOnce l).Pairwise fun u v => (l ++ [k]).idxOf u < (l ++ [k]).idxOf v := List.Pairwise.imp_of_mem (fun {a b} ha hb h => by rw [up a ha, up b hb]; exact h) ih
  by_cases h : k ∈ eOnce l
  · rw [if_pos h]
    exact ih2
  · rw [if_neg h, List.pairwise_append]
    refine ⟨ih2, by simp, fun a ha b hb => ?_⟩
    rw [List.mem_singleton.mp hb, up a ha]
    have hk : k ∉ l := fun z => h ((eOnce_mem l k).mpr z)
    have h1 : (l ++ [k]).idxOf k = l.length := by
      rw [List.idxOf_append]
      simp [hk]
    rw [h1]
    exact List.idxOf_lt_length_of_mem ((eOnce_mem l a).mp ha)
/-- the lots of places with one number, by their first places -/
def lotsOf (l : List Nat) : List (List Nat) := (eOnce l).map (places l)
theorem lotsOf_len (l : List Nat) : (lotsOf l).length ≤ l.length := by
  unfold lotsOf
  rw [List.length_map]
  exact eOnce_le l
theorem lotsOf_le {l m : List Nat} (h : m ∈ lotsOf l) : m.length ≤ l.length := by
  obtain ⟨v, _, rfl⟩ := List.mem_map.mp h
  exact places_le l v
theorem lotsOf_rise (l : List Nat) : ((lotsOf l).map fun m => m.map fun n : Nat => (n : Int)).Pairwise fun x y => ∃ (i j : Int) (r t : List Int), x = i :: r ∧ y = j :: t ∧ i < j := by
  unfold lotsOf
  rw [List.map_map, List.pairwise_map]
  refine List.Pairwise.imp_of_mem (fun {a b} ha hb h => ?_) (eOnce_idx l)
  obtain ⟨r, e1⟩ := places_head ((eOnce_mem l a).mp ha)
  obtain ⟨t, e2⟩ := places_head ((eOnce_mem l b).mp hb)
  refine ⟨_, _, r.map fun n : Nat => (n : Int), t.map fun n : Nat => (n : Int), ?_, ?_, Int.ofNat_lt.mpr h⟩
  · show (places l a).map _ = _
    rw [e1]
    rfl
  · show (places l b).map _ = _
    rw [e2]
    rfl
/-- the law's own way: numbers as they first stand, then lists by number -/
def ordn (l : List Nat) : List Nat := l.map fun v => (eOnce l).idxOf v
theorem ordn_get {l : List Nat} {p k : Nat} (hk : k < (eOnce l).length) : (ordn l)[p]? = some k ↔ l[p]? = some (eOnce l)[k] := by
  unfold ordn
  rw [List.getElem?_map]
  cases h : l[p]? with
  | none => simp
  | some v =>
    have hv : v ∈ eOnce l := (eOnce_mem l v).mpr (List.mem_of_getElem? h)
    have e := List.idxOf_lt_length_of_mem hv
    simp only [Option.map_some, Option.some.injEq]
    constructor
    · intro z
      subst z
      simp
    · intro z
      subst z
      have a : (eOnce l)[(eOnce l).idxOf (eOnce l)[k]]? = some (eOnce l)[k] := by
        rw [List.getElem?_eq_getElem e]; simp
      have b : (eOnce l)[k]? = some (eOnce l)[k] := List.getElem?_eq_getElem hk
      exact nodup_at (eOnce_nodup l) a b
theorem lots_law (l : List Nat) : (((List.range l.length).map (places (ordn l))).filter fun m => decide (m ≠ [])) = lotsOf l := by
  have hle := eOnce_le l
  have e0 : List.range l.length = List.range (eOnce l).length ++ (List.range (l.length - (eOnce l).length)).map (· + (eOnce l).length) := by
    have : l.length = (eOnce l).length + (l.length - (eOnce l).length) := by omega
    conv => lhs; rw [this]
    rw [List.range_add]
    congr 1
    refine List.map_congr_left fun x _ => by omega
  have ep : ∀ k, (hk : k < (eOnce l).length) → places (ordn l) k = places l (eOnce l)[k] := fun k hk => by
    unfold places
    have : (ordn l).length = l.length := by simp [ordn]
    rw [this]
    refine List.filter_congr fun p _ => ?_
    congr 1
    exact propext (ordn_get hk)
  have en : ∀ k, (eOnce l).length ≤ k → places (ordn l) k = [] := fun k hk => places_none fun h => by
    obtain ⟨v, hv, e⟩ := List.mem_map.mp h
    have := List.idxOf_lt_length_of_mem ((eOnce_mem l v).mpr hv)
    omega
  rw [e0, List.map_append, List.filter_append, List.map_map]
  have h2 : ((List.range (l.length - (eOnce l).length)).map (places (ordn l) ∘ (· + (eOnce l).length))).filter (fun m => decide (m ≠ [])) = [] := by
    rw [List.filter_eq_nil_iff]
    intro m hm
    obtain ⟨k, _, rfl⟩ := List.mem_map.mp hm
    simp [en (k + (eOnce l).length) (by omega)]
  rw [h2, List.append_nil]
  have h1 : (List.range (eOnce l).length).map (places (ordn l)) = lotsOf l := by
    apply List.ext_getElem?
    intro k
    unfold lotsOf
    rw [List.getElem?_map, List.getElem?_map]
    by_cases hk : k < (eOnce l).length
    · simp [hk, ep k hk]
    · simp [hk]
  rw [h1, List.filter_eq_self]
  intro m hm
  obtain ⟨v, hv, rfl⟩ := List.mem_map.mp hm
  obtain ⟨r, e⟩ := places_head ((eOnce_mem l v).mp hv)
  simp [e]
end Ly

namespace Ly
open PySem PySem.Spec PyProof.Rows L2
section
variable {P : Program} {w : World} {K : PySem.W.Frag} {mg : Str → Option Value} {base : Heap}
theorem code_of {x q : Str} {params : Arguments} {body : List Stmt} {scope : Scope} {cdv : Value} {oc : Value} {od : Option Addr} {dV kV doc pm ct : Value} {an : Option Addr} {osl : Array (Option Value)} {p : He.Defn}
    (lk : K.lookup (He.fAd K p) = some ⟨oc, od, .func (PySem.W.fnOf x q params body scope dV kV doc pm an cdv ct), osl⟩) (hcd : PySem.W.codeIn K cdv q = true) : cdv = .ref (He.codeOf K p) := by
  unfold PySem.W.codeIn at hcd
  cases cdv with
  | ref c =>
    have : He.codeOf K p = c := by
      unfold He.codeOf
      rw [lk]
    rw [this]
  | _ => cases hcd
/-- a def's body, read; its code object is known -/
theorem ok_ofC {x : Str} {params : Arguments} {body : List Stmt} {scope : Scope} {N ps : List Str} {k : Nat} {sp : Sp} (hm : mg x = some (.ref (He.ga K x)))
    (F : ∃ fd, FunD K x x params body scope [] [] (He.ga K x) fd) (S : FnScope N ps scope)
    (hb : ∀ (kV doc pm : Value) (an : Option Addr) (cdv ct : Value) (us : List Value), us.length = ps.length → bindArgs (PySem.W.fnOf x x params body scope .none kV doc pm an cdv ct) ⟨us, []⟩ = pure (ps.zip us))
    (len : ∀ vs H Q E, sp vs H Q E → vs.length = ps.length)
    (hbody : ∀ (cdv : Value) (A : Around) (outer : List Env) (s : Shared) (H : Hp) (vs : List V) (Q : VK) (E : XK), cdv = .ref (He.codeOf K (x, none)) → Room k (A.deeper (envOfC x scope s.heap.objs.size (He.ga K x) cdv)) → sp vs H Q E →
      ∃ t, PSs (cxOf CX0 P w K mg base N x scope (He.ga K x) cdv A outer s H E).nox body t ∧ t { nx := fun _ H' => Q .non H', rt := Q } (start N vs) H) : Ok P w K mg base x (k + 1) ps sp := by
  obtain ⟨fd, F⟩ := F
  refine ⟨fd, hm, F.kp, F.bindsN hb, ?_⟩
  obtain ⟨oc, od, dV, kV, doc, pm, an, cdv, ct, osl, rfl, lk, hcd, _, _⟩ := F.ex
  have e := code_of (p := (x, none)) lk hcd
  exact fn_of lk hcd S len fun A outer s H vs Q E hr hsp => by
    obtain ⟨t, h1, h2⟩ := hbody cdv A outer s H vs Q E e hr hsp
    exact ⟨t, h1.nox, h2⟩
end
end Ly

/-! what stands round a ring: periods, how long two ways back are alike, classes by rounds -/
namespace Ly
open PySem PySem.Spec PyProof.Rows L2
theorem least {P : Nat → Prop} (h : ∃ n, P n) : ∃ n, P n ∧ ∀ m, m < n → ¬ P m := by
  obtain ⟨n, hn⟩ := h
  induction n using Nat.strongRecOn with
  | _ n ih =>
    rcases Classical.em (∃ m, m < n ∧ P m) with ⟨m, h1, h2⟩ | z
    · exact ih m h1 h2
    · exact ⟨n, hn, fun m hm hp => z ⟨m, hm, hp⟩⟩
section
variable {ks : List W} {p n : Nat} {i j d : Int}
def cyc (ks : List W) (i : Int) : W := ks.getD (i % (ks.length : Int)).toNat .none
theorem cyc_mul (k : Int) : cyc ks (i + ks.length * k) = cyc ks i := by
  unfold cyc
  rw [Int.add_mul_emod_self_left]
theorem cyc_mod : cyc ks (i % ks.length) = cyc ks i := by
  unfold cyc
  rw [Int.emod_emod_of_dvd _ (Int.dvd_refl _)]
theorem cyc_eq (h : i % (ks.length : Int) = j % (ks.length : Int)) : cyc ks i = cyc ks j := by
  unfold cyc
  rw [h]
theorem cyc_nat {i : Nat} (h : i < ks.length) : ks[i]? = some (cyc ks i) := by
  unfold cyc
  rw [Int.emod_eq_of_lt (by omega) (by omega)]
  simp [h]
theorem cyc_get {i : Nat} {k : W} (h : ks[i]? = some k) : cyc ks i = k := by
  have := cyc_nat (List.getElem?_eq_some_iff.mp h).1
  rw [h] at this
  exact (Option.some.inj this).symm
/-- a place of the ring -/
theorem cyc_at (h0 : 0 < ks.length) (i : Int) : ks[(i % (ks.length : Int)).toNat]? = some (cyc ks i) := by
  have h1 := Int.emod_nonneg i (b := (ks.length : Int)) (by omega)
  have h2 := Int.emod_lt_of_pos i (b := (ks.length : Int)) (by omega)
  have := cyc_nat (ks := ks) (i := (i % (ks.length : Int)).toNat) (by omega)
  rw [this]
  congr 1
  rw [Int.toNat_of_nonneg h1, cyc_mod]
def Per (ks : List W) (d : Int) : Prop := ∀ i, cyc ks (i + d) = cyc ks i
theorem Per.zero : Per ks 0 := fun i => by rw [Int.add_zero]
theorem Per.add {a b : Int} (h1 : Per ks a) (h2 : Per ks b) : Per ks (a + b) := fun i => by rw [← Int.add_assoc, h2, h1]
theorem Per.neg {a : Int} (h : Per ks a) : Per ks (-a) := fun i => by
  have := h (i + -a)
  rw [Int.neg_add_cancel_right] at this
  exact this.symm
theorem Per.sub {a b : Int} (h1 : Per ks a) (h2 : Per ks b) : Per ks (a - b) := by
  rw [Int.sub_eq_add_neg]
  exact h1.add h2.neg
theorem Per.nmul {a : Int} (h : Per ks a) : ∀ k : Nat, Per ks (a * k)
  | 0 => by simpa using Per.zero
  | k + 1 => by
    have := (h.nmul k).add h
    have e : a * ((k + 1 : Nat) : Int) = a * k + a := by rw [Int.natCast_add, Int.mul_add]; simp
    rwa [e]
theorem Per.mul {a : Int} (h : Per ks a) (k : Int) : Per ks (a * k) := by
  rcases Int.le_total 0 k with z | z
  · obtain ⟨m, rfl⟩ := Int.eq_ofNat_of_zero_le z
    exact h.nmul m
  · obtain ⟨m, hm⟩ := Int.eq_ofNat_of_zero_le (a := -k) (by omega)
    have := (h.nmul m).neg
    have e : a * k = -(a * (m : Int)) := by
      have : k = -(m : Int) := by omega
      rw [this, Int.mul_neg]
    rwa [e]
theorem per_len : Per ks ks.length := fun i => by
  have := cyc_mul (ks := ks) (i := i) 1
  rwa [Int.mul_one] at this
theorem per_gcd (a b : Nat) : Per ks a → Per ks b → Per ks (Nat.gcd a b) := by
  induction a, b using Nat.gcd.induction with
  | H0 b =>
    intro _ h
    rwa [Nat.gcd_zero_left]
  | H1 a b h ih =>
    intro ha hb
    rw [Nat.gcd_rec]
    refine ih ?_ ha
    have e : ((b % a : Nat) : Int) = (b : Int) - (a : Int) * ((b / a : Nat) : Int) := by
      have := Nat.mod_add_div b a
      have h2 : ((b % a + a * (b / a) : Nat) : Int) = (b : Int) := by rw [this]
      rw [Int.natCast_add, Int.natCast_mul] at h2
      omega
    rw [e]
    exact hb.sub (ha.mul _)
theorem per_lt (h0 : 0 < ks.length) (h : ∀ k : Nat, k < ks.length → cyc ks ((k : Int) + d) = cyc ks k) : Per ks d := fun i => by
  have h1 := Int.emod_nonneg i (b := (ks.length : Int)) (by omega)
  have h2 := Int.emod_lt_of_pos i (b := (ks.length : Int)) (by omega)
  have := h (i % (ks.length : Int)).toNat (by omega)
  rw [Int.toNat_of_nonneg h1, cyc_mod] at this
  rw [← this]
  refine cyc_eq ?_
  rw [Int.emod_add_emod]
/-- the least step round the ring behind which it looks alike -/
structure IsPer (ks : List W) (p : Nat) : Prop where
  pos : 0 < p
  dvd : p ∣ ks.length
  per : Per ks p
  min : ∀ d, 0 < d → d < p → d ∣ ks.length → ¬ Per ks d
theorem IsPer.uniq {q : Nat} (a : IsPer ks p) (b : IsPer ks q) : p = q := by
  rcases Nat.lt_trichotomy p q with z | z | z
  · exact absurd a.per (b.min p a.pos z a.dvd)
  · exact z
  · exact absurd b.per (a.min q b.pos z b.dvd)
theorem isPer_ex (h0 : 0 < ks.length) : ∃ p, IsPer ks p := by
  obtain ⟨p, ⟨h1, h2, h3⟩, hm⟩ := least (P := fun p => 0 < p ∧ p ∣ ks.length ∧ Per ks p) ⟨ks.length, h0, Nat.dvd_refl _, per_len⟩
  exact ⟨p, h1, h2, h3, fun d a b c e => hm d b ⟨a, c, e⟩⟩
theorem IsPer.le (a : IsPer ks p) (h0 : 0 < ks.length) : p ≤ ks.length := Nat.le_of_dvd h0 a.dvd
theorem IsPer.iff (a : IsPer ks p) : Per ks d ↔ (p : Int) ∣ d := by
  constructor
  · intro h
    have hp := a.pos
    have r1 := Int.emod_nonneg d (b := (p : Int)) (by omega)
    have r2 := Int.emod_lt_of_pos d (b := (p : Int)) (by omega)
    obtain ⟨r, hr⟩ := Int.eq_ofNat_of_zero_le r1
    rcases Nat.eq_zero_or_pos r with z | z
    · exact Int.dvd_of_emod_eq_zero (by rw [hr, z]; rfl)
    · exfalso
      have hP : Per ks r := by
        have e : (r : Int) = d - (p : Int) * (d / p) := by
          have := Int.emod_add_mul_ediv d p
          omega
        rw [e]
        exact h.sub (a.per.mul _)
      have g1 := per_gcd r p hP a.per
      have g2 : 0 < Nat.gcd r p := Nat.gcd_pos_of_pos_left _ z
      have g3 : Nat.gcd r p ≤ r := Nat.gcd_le_left _ z
      exact a.min _ g2 (by omega) (Nat.dvd_trans (Nat.gcd_dvd_right r p) a.dvd) g1
  · rintro ⟨k, rfl⟩
    exact a.per.mul k
theorem rot_get {d i : Nat} (hd : d ≤ ks.length) (hi : i < ks.length) : (ks.drop d ++ ks.take d)[i]? = some (cyc ks ((i : Int) + d)) := by
  by_cases h : i < ks.length - d
  · rw [List.getElem?_append_left (by rw [List.length_drop]; exact h), List.getElem?_drop, Nat.add_comm]
    have := cyc_nat (ks := ks) (i := i + d) (by omega)
    rw [this]
    congr 1
  · rw [List.getElem?_append_right (by rw [List.length_drop]; omega), List.length_drop, List.getElem?_take_of_lt (by omega)]
    rw [cyc_nat (by omega)]
    congr 1
    have e : ((i : Int) + d) = ((i - (ks.length - d) : Nat) : Int) + ks.length * 1 := by omega
    rw [e, cyc_mul]
theorem rot_per {d : Nat} (h0 : 0 < ks.length) (hd : d ≤ ks.length) : ks.drop d ++ ks.take d = ks ↔ Per ks d := by
  constructor
  · intro h
    refine per_lt h0 fun k hk => ?_
    have := rot_get hd hk
    rw [h, cyc_nat hk] at this
    exact (Option.some.inj this).symm
  · intro h
    apply List.ext_getElem?
    intro i
    by_cases hi : i < ks.length
    · rw [rot_get hd hi, cyc_nat hi, h]
    · rw [List.getElem?_eq_none (by rw [List.length_append, List.length_drop, List.length_take]; omega), List.getElem?_eq_none (by omega)]
/-- another list round the same ring -/
theorem isPer_same {ls : List W} (h : ∀ i, cyc ks i = cyc ls i) (h0 : 0 < ks.length) (a : IsPer ls p) (hd : p ∣ ks.length) : IsPer ks p where
  pos := a.pos
  dvd := hd
  per := fun i => by rw [h, h, a.per]
  min := fun d d0 d1 _ hP => by
    have : Per ls d := fun i => by rw [← h, ← h, hP]
    have := a.iff.mp this
    have := Nat.le_of_dvd d0 (Int.natCast_dvd_natCast.mp this)
    omega
theorem cyc_take (a : IsPer ks p) (h0 : 0 < ks.length) (i : Int) : cyc (ks.take p) i = cyc ks i := by
  have hp := a.pos
  have hle := a.le h0
  have l : (ks.take p).length = p := by rw [List.length_take]; omega
  have r1 := Int.emod_nonneg i (b := (p : Int)) (by omega)
  have r2 := Int.emod_lt_of_pos i (b := (p : Int)) (by omega)
  have e1 : cyc ks i = cyc ks (i % p) := by
    have : i = i % p + (p : Int) * (i / p) := (Int.emod_add_mul_ediv i p).symm
    conv => lhs; rw [this]
    exact a.per.mul _ _
  rw [e1]
  obtain ⟨r, hr⟩ := Int.eq_ofNat_of_zero_le r1
  have e2 : (ks.take p)[r]? = ks[r]? := List.getElem?_take_of_lt (by omega)
  rw [hr]
  have h3 := cyc_nat (ks := ks) (i := r) (by omega)
  have h4 := cyc_at (ks := ks.take p) (by omega) i
  rw [l, hr] at h4
  have h5 : ((r : Nat) : Int).toNat = r := by omega
  rw [h5, e2, h3] at h4
  exact (Option.some.inj h4).symm
theorem cyc_rep (k : Nat) (hk : 0 < k) (i : Int) : cyc ((List.replicate k ks).flatten) i = cyc ks i := by
  have l : ((List.replicate k ks).flatten).length = k * ks.length := by simp
  rcases Nat.eq_zero_or_pos ks.length with z | h0
  · have : ks = [] := List.length_eq_zero_iff.mp z
    subst this
    simp [cyc]
  have hL : 0 < ((List.replicate k ks).flatten).length := by rw [l]; exact Nat.mul_pos hk h0
  have key : ∀ (k : Nat) (r : Nat), r < k * ks.length → ((List.replicate k ks).flatten)[r]? = ks[r % ks.length]? := by
    intro k
    induction k with
    | zero => intro r hr; omega
    | succ k ih =>
      intro r hr
      rw [List.replicate_succ, List.flatten_cons]
      by_cases h : r < ks.length
      · rw [List.getElem?_append_left h, Nat.mod_eq_of_lt h]
      · have e : (k + 1) * ks.length = k * ks.length + ks.length := Nat.succ_mul _ _
        rw [List.getElem?_append_right (by omega), ih (r - ks.length) (by omega)]
        congr 1
        exact (Nat.mod_eq_sub_mod (by omega)).symm
  have h1 := cyc_at hL i
  have r1 := Int.emod_nonneg i (b := (((List.replicate k ks).flatten).length : Int)) (by omega)
  have r2 := Int.emod_lt_of_pos i (b := (((List.replicate k ks).flatten).length : Int)) (by omega)
  rw [key k _ (by rw [← l]; omega)] at h1
  have h2 := cyc_at h0 i
  have e : (i % (((List.replicate k ks).flatten).length : Int)).toNat % ks.length = (i % (ks.length : Int)).toNat := by
    have h3 : ((i % (((List.replicate k ks).flatten).length : Int)).toNat % ks.length : Nat) = ((i % (ks.length : Int)).toNat : Nat) := by
      have h4 : (((i % (((List.replicate k ks).flatten).length : Int)).toNat % ks.length : Nat) : Int) = i % (ks.length : Int) := by
        rw [Int.natCast_emod, Int.toNat_of_nonneg r1]
        exact Int.emod_emod_of_dvd _ (by rw [l, Int.natCast_mul]; exact Int.dvd_mul_left _ _)
      omega
    exact h3
  rw [e, h2] at h1
  exact (Option.some.inj h1).symm
end
end Ly

/-! round a ring: how long two ways back are alike, and the classes by rounds -/
namespace Ly
open PySem PySem.Spec PyProof.Rows L2
section
variable {ks : List W} {p n : Nat} {i j d : Int} {a b : Nat}
/-- two ways back are alike for just a steps -/
structure Alk (ks : List W) (i j : Int) (a : Nat) : Prop where
  al : ∀ t : Nat, t < a → cyc ks (i - t) = cyc ks (j - t)
  ne : cyc ks (i - a) ≠ cyc ks (j - a)
theorem Alk.uniq (x : Alk ks i j a) (y : Alk ks i j b) : a = b := by
  rcases Nat.lt_trichotomy a b with z | z | z
  · exact absurd (y.al a z) x.ne
  · exact z
  · exact absurd (x.al b z) y.ne
theorem Alk.symm (x : Alk ks i j a) : Alk ks j i a := ⟨fun t h => (x.al t h).symm, fun h => x.ne h.symm⟩
theorem Alk.back (x : Alk ks i j a) {s : Nat} (h : s ≤ a) : Alk ks (i - s) (j - s) (a - s) where
  al := fun t ht => by
    have := x.al (s + t) (by omega)
    have e : ∀ i : Int, i - s - t = i - ((s + t : Nat) : Int) := fun i => by omega
    rw [e, e]
    exact this
  ne := by
    have e : ∀ i : Int, i - s - ((a - s : Nat) : Int) = i - (a : Int) := fun i => by omega
    rw [e, e]
    exact x.ne
theorem alk_no (P : IsPer ks p) (h : (p : Int) ∣ i - j) (t : Nat) : cyc ks (i - t) = cyc ks (j - t) := by
  have := P.iff.mpr h (j - t)
  have e : j - t + (i - j) = i - t := by omega
  rw [e] at this
  exact this
theorem Alk.nd (P : IsPer ks p) (x : Alk ks i j a) : ¬ (p : Int) ∣ i - j := fun z => x.ne (alk_no P z a)
theorem alk_ex (h0 : 0 < ks.length) (P : IsPer ks p) (h : ¬ (p : Int) ∣ i - j) : ∃ a, a < ks.length ∧ Alk ks i j a := by
  rcases Classical.em (∃ t : Nat, t < ks.length ∧ cyc ks (i - t) ≠ cyc ks (j - t)) with z | z
  · obtain ⟨a, ⟨h1, h2⟩, hm⟩ := least z
    exact ⟨a, h1, ⟨fun t ht => Classical.byContradiction fun q => hm t ht ⟨by omega, q⟩, h2⟩⟩
  · exfalso
    refine h (P.iff.mp fun x => ?_)
    have r1 := Int.emod_nonneg (j - x) (b := (ks.length : Int)) (by omega)
    have r2 := Int.emod_lt_of_pos (j - x) (b := (ks.length : Int)) (by omega)
    have r3 := Int.emod_add_mul_ediv (j - x) (ks.length : Int)
    have key : cyc ks (i - ((j - x) % (ks.length : Int)).toNat) = cyc ks (j - ((j - x) % (ks.length : Int)).toNat) := Classical.byContradiction fun q => z ⟨_, by omega, q⟩
    rw [Int.toNat_of_nonneg r1] at key
    have e1 : x + (i - j) = i - (j - x) % (ks.length : Int) + ks.length * (-((j - x) / ks.length)) := by rw [Int.mul_neg]; omega
    have e2 : x = j - (j - x) % (ks.length : Int) + ks.length * (-((j - x) / ks.length)) := by rw [Int.mul_neg]; omega
    rw [e1, cyc_mul, key]
    conv => rhs; rw [e2]
    rw [cyc_mul]
theorem Alk.same {ls : List W} (h : ∀ i, cyc ks i = cyc ls i) (x : Alk ls i j a) : Alk ks i j a := ⟨fun t ht => by rw [h, h]; exact x.al t ht, by rw [h, h]; exact x.ne⟩
theorem Alk.mod {i2 j2 : Int} (P : IsPer ks p) (h1 : (p : Int) ∣ i2 - i) (h2 : (p : Int) ∣ j2 - j) (x : Alk ks i j a) : Alk ks i2 j2 a where
  al := fun t ht => by rw [alk_no P h1 t, alk_no P h2 t]; exact x.al t ht
  ne := by rw [alk_no P h1, alk_no P h2]; exact x.ne
/-- the longest that two unlike ways back are alike -/
structure IsL (ks : List W) (L : Nat) : Prop where
  max : ∀ i j a, Alk ks i j a → a ≤ L
  at_ : L = 0 ∨ ∃ i j, Alk ks i j L
theorem IsL.uniq {L M : Nat} (x : IsL ks L) (y : IsL ks M) : L = M := by
  have h1 : L ≤ M := by
    rcases x.at_ with z | ⟨i, j, z⟩
    · omega
    · exact y.max _ _ _ z
  have h2 : M ≤ L := by
    rcases y.at_ with z | ⟨i, j, z⟩
    · omega
    · exact x.max _ _ _ z
  omega
theorem IsL.same {ls : List W} {L : Nat} (h : ∀ i, cyc ks i = cyc ls i) (x : IsL ls L) : IsL ks L := ⟨fun i j a z => x.max i j a (z.same fun i => (h i).symm), x.at_.imp id fun ⟨i, j, z⟩ => ⟨i, j, z.same h⟩⟩
/-- found by looking at all pairs of places of one period -/
theorem isL_of (P : IsPer ks p) {L : Nat} (h1 : ∀ i j : Nat, j < i → i < p → ∀ a, Alk ks i j a → a ≤ L) (h2 : L = 0 ∨ ∃ i j, Alk ks i j L) : IsL ks L := by
  refine ⟨fun i j a x => ?_, h2⟩
  have hp := P.pos
  have r1 := Int.emod_nonneg i (b := (p : Int)) (by omega)
  have r2 := Int.emod_lt_of_pos i (b := (p : Int)) (by omega)
  have s1 := Int.emod_nonneg j (b := (p : Int)) (by omega)
  have s2 := Int.emod_lt_of_pos j (b := (p : Int)) (by omega)
  obtain ⟨m, hm⟩ := Int.eq_ofNat_of_zero_le r1
  obtain ⟨k, hk⟩ := Int.eq_ofNat_of_zero_le s1
  have d1 : (p : Int) ∣ (m : Int) - i := ⟨-(i / p), by have := Int.emod_add_mul_ediv i p; rw [Int.mul_neg]; omega⟩
  have d2 : (p : Int) ∣ (k : Int) - j := ⟨-(j / p), by have := Int.emod_add_mul_ediv j p; rw [Int.mul_neg]; omega⟩
  have y := x.mod P d1 d2
  rcases Nat.lt_trichotomy m k with z | z | z
  · exact h1 k m z (by omega) a y.symm
  · subst z
    exact absurd rfl y.ne
  · exact h1 m k z (by omega) a y
end
/-! ### how many classes -/
def cnt (n : Nat) (f : Nat → Nat) : Nat := (eOnce (tab n f)).length
section
variable {n : Nat} {f g : Nat → Nat}
theorem first_of {v : Nat} (h : v ∈ tab n f) : (tab n f).idxOf v < n ∧ f ((tab n f).idxOf v) = v := by
  have h1 := List.idxOf_lt_length_of_mem h
  have h2 : (tab n f)[(tab n f).idxOf v]? = some v := by
    rw [List.getElem?_eq_getElem h1]
    simp
  rw [tab_len] at h1
  rw [tab_get h1] at h2
  exact ⟨h1, Option.some.inj h2⟩
theorem cnt_le (h : ∀ i j, i < n → j < n → g i = g j → f i = f j) : cnt n f ≤ cnt n g := by
  have hl : ((eOnce (tab n f)).map fun v => g ((tab n f).idxOf v)).length = cnt n f := by simp [cnt]
  rw [← hl]
  refine nodup_sub ?_ fun x hx => ?_
  · rw [List.nodup_iff_pairwise_ne, List.pairwise_map]
    refine List.Pairwise.imp_of_mem (fun {v u} hv hu hne e => hne ?_) (List.nodup_iff_pairwise_ne.mp (eOnce_nodup (tab n f)))
    obtain ⟨a1, a2⟩ := first_of ((eOnce_mem _ _).mp hv)
    obtain ⟨b1, b2⟩ := first_of ((eOnce_mem _ _).mp hu)
    have := h _ _ a1 b1 e
    rw [a2, b2] at this
    exact this
  · obtain ⟨v, hv, rfl⟩ := List.mem_map.mp hx
    obtain ⟨a1, a2⟩ := first_of ((eOnce_mem _ _).mp hv)
    exact (eOnce_mem _ _).mpr (tab_mem.mpr ⟨_, a1, rfl⟩)
theorem cnt_lt (h : ∀ i j, i < n → j < n → g i = g j → f i = f j) {i0 j0 : Nat} (hi : i0 < n) (hj : j0 < n) (hf : f i0 = f j0) (hg : g i0 ≠ g j0) : cnt n f < cnt n g := by
  obtain ⟨c, hc, hcf, hcg⟩ : ∃ c, c < n ∧ f c = f i0 ∧ g c ≠ g ((tab n f).idxOf (f i0)) := by
    rcases Classical.em (g i0 = g ((tab n f).idxOf (f i0))) with z | z
    · exact ⟨j0, hj, hf.symm, fun e => hg (by rw [e, z])⟩
    · exact ⟨i0, hi, rfl, z⟩
  have hl : (g c :: (eOnce (tab n f)).map fun v => g ((tab n f).idxOf v)).length = cnt n f + 1 := by simp [cnt]
  have := nodup_sub (l := g c :: (eOnce (tab n f)).map fun v => g ((tab n f).idxOf v)) (m := eOnce (tab n g)) ?_ fun x hx => ?_
  · unfold cnt at hl ⊢
    omega
  · rw [List.nodup_cons]
    refine ⟨fun hm => ?_, ?_⟩
    · obtain ⟨v, hv, e⟩ := List.mem_map.mp hm
      obtain ⟨a1, a2⟩ := first_of ((eOnce_mem _ _).mp hv)
      have := h _ _ a1 hc e
      rw [a2, hcf] at this
      subst this
      exact hcg e.symm
    · rw [List.nodup_iff_pairwise_ne, List.pairwise_map]
      refine List.Pairwise.imp_of_mem (fun {v u} hv hu hne e => hne ?_) (List.nodup_iff_pairwise_ne.mp (eOnce_nodup (tab n f)))
      obtain ⟨a1, a2⟩ := first_of ((eOnce_mem _ _).mp hv)
      obtain ⟨b1, b2⟩ := first_of ((eOnce_mem _ _).mp hu)
      have := h _ _ a1 b1 e
      rw [a2, b2] at this
      exact this
  · rcases List.mem_cons.mp hx with z | z
    · rw [z]
      exact (eOnce_mem _ _).mpr (tab_mem.mpr ⟨_, hc, rfl⟩)
    · obtain ⟨v, hv, rfl⟩ := List.mem_map.mp z
      obtain ⟨a1, a2⟩ := first_of ((eOnce_mem _ _).mp hv)
      exact (eOnce_mem _ _).mpr (tab_mem.mpr ⟨_, a1, rfl⟩)
/-- all numbers up to the greatest are there -/
def Dense (n : Nat) (f : Nat → Nat) : Prop := ∀ v, v ≤ mxL (tab n f) → ∃ i, i < n ∧ f i = v
theorem dense_cnt (h : Dense n f) (h0 : 0 < n) : mxL (tab n f) + 1 = cnt n f := by
  have h1 : (eOnce (tab n f)).Perm (List.range (mxL (tab n f) + 1)) := perm_of_set (eOnce_nodup _) List.nodup_range fun x => by
    rw [eOnce_mem, List.mem_range]
    constructor
    · intro hx
      have := mxL_le hx
      omega
    · intro hx
      exact tab_mem.mpr (h x (by omega))
  have := h1.length_eq
  rw [List.length_range] at this
  exact this.symm
end
/-! ### the classes behind so many rounds -/
section
variable {ks : List W} {p : Nat}
/-- f numbers the places by what stands behind them, r steps back -/
def Cls (ks : List W) (r : Nat) (f : Nat → Nat) : Prop := ∀ i j : Nat, i < ks.length → j < ks.length → (f i = f j ↔ ∀ t : Nat, t ≤ r → cyc ks ((i : Int) - t) = cyc ks ((j : Int) - t))
variable {r L : Nat} {f g : Nat → Nat}
theorem Cls.finer (x : Cls ks r f) {s : Nat} (y : Cls ks s g) (h : r ≤ s) : ∀ i j, i < ks.length → j < ks.length → g i = g j → f i = f j := fun i j hi hj e => (x i j hi hj).mpr fun t ht => (y i j hi hj).mp e t (by omega)
theorem Cls.fin (h0 : 0 < ks.length) (P : IsPer ks p) (l : IsL ks L) (x : Cls ks r f) (h : L ≤ r) {i j : Nat} (hi : i < ks.length) (hj : j < ks.length) : f i = f j ↔ (p : Int) ∣ (i : Int) - j := by
  rw [x i j hi hj]
  constructor
  · intro e
    refine Classical.byContradiction fun z => ?_
    obtain ⟨a, _, ha⟩ := alk_ex h0 P z
    have := l.max _ _ _ ha
    exact ha.ne (e a (by omega))
  · intro e t _
    exact alk_no P e t
/-- while some unlike ways back are alike for longer, the next round parts more -/
theorem Cls.more (h0 : 0 < ks.length) (l : IsL ks L) (x : Cls ks r f) (y : Cls ks (r + 1) g) (h : r < L) : cnt ks.length f < cnt ks.length g := by
  rcases l.at_ with z | ⟨i, j, A⟩
  · omega
  · have B := A.back (s := L - (r + 1)) (by omega)
    have e : L - (L - (r + 1)) = r + 1 := by omega
    rw [e] at B
    generalize i - ((L - (r + 1) : Nat) : Int) = i at B
    generalize j - ((L - (r + 1) : Nat) : Int) = j at B
    have q1 := Int.emod_nonneg i (b := (ks.length : Int)) (by omega)
    have q2 := Int.emod_lt_of_pos i (b := (ks.length : Int)) (by omega)
    have q3 := Int.emod_nonneg j (b := (ks.length : Int)) (by omega)
    have q4 := Int.emod_lt_of_pos j (b := (ks.length : Int)) (by omega)
    obtain ⟨m, hm⟩ := Int.eq_ofNat_of_zero_le q1
    obtain ⟨k, hk⟩ := Int.eq_ofNat_of_zero_le q3
    have sh : ∀ (i : Int) (m : Nat) (t : Int), i % (ks.length : Int) = m → cyc ks ((m : Int) - t) = cyc ks (i - t) := fun i m t e => by
      refine cyc_eq ?_
      rw [← e, Int.emod_sub_emod]
    have e1 : f m = f k := (x m k (by omega) (by omega)).mpr fun t ht => by
      rw [sh i m t hm, sh j k t hk]
      exact B.al t (by omega)
    refine cnt_lt (x.finer y (by omega)) (i0 := m) (j0 := k) (by omega) (by omega) e1 fun e2 => B.ne ?_
    have := (y m k (by omega) (by omega)).mp e2 (r + 1) (Nat.le_refl _)
    rwa [sh i m _ hm, sh j k _ hk] at this
theorem Cls.stop (h0 : 0 < ks.length) (P : IsPer ks p) (l : IsL ks L) (x : Cls ks r f) (y : Cls ks (r + 1) g) (df : Dense ks.length f) (dg : Dense ks.length g) : mxL (tab ks.length g) = mxL (tab ks.length f) ↔ L ≤ r := by
  have c1 := dense_cnt df h0
  have c2 := dense_cnt dg h0
  constructor
  · intro e
    refine Classical.byContradiction fun z => ?_
    have := Cls.more h0 l x y (by omega)
    omega
  · intro h
    have a1 := cnt_le (x.finer y (by omega))
    have a2 := cnt_le (n := ks.length) (f := g) (g := f) fun i j hi hj e => by
      rw [y.fin h0 P l (by omega) hi hj]
      exact (x.fin h0 P l h hi hj).mp e
    omega
/-- a numbering by what stands behind the places, whatever the rounds -/
theorem cls_ex (ks : List W) (r : Nat) : ∃ f, Cls ks r f := by
  let lst : Nat → List W := fun i => (List.range (r + 1)).map fun t : Nat => cyc ks ((i : Int) - t)
  refine ⟨fun i => ((List.range ks.length).map lst).idxOf (lst i), fun i j hi hj => ?_⟩
  have mi : ∀ i, i < ks.length → lst i ∈ (List.range ks.length).map lst := fun i hi => List.mem_map.mpr ⟨i, List.mem_range.mpr hi, rfl⟩
  have e1 : (((List.range ks.length).map lst).idxOf (lst i) = ((List.range ks.length).map lst).idxOf (lst j)) ↔ lst i = lst j := by
    constructor
    · intro e
      have h1 : ((List.range ks.length).map lst)[((List.range ks.length).map lst).idxOf (lst i)]? = some (lst i) := by
        rw [List.getElem?_eq_getElem (List.idxOf_lt_length_of_mem (mi i hi))]
        simp
      have h2 : ((List.range ks.length).map lst)[((List.range ks.length).map lst).idxOf (lst j)]? = some (lst j) := by
        rw [List.getElem?_eq_getElem (List.idxOf_lt_length_of_mem (mi j hj))]
        simp
      rw [e, h2] at h1
      exact (Option.some.inj h1).symm
    · intro e
      rw [e]
  show (((List.range ks.length).map lst).idxOf (lst i) = ((List.range ks.length).map lst).idxOf (lst j)) ↔ _
  rw [e1]
  constructor
  · intro e t ht
    have := congrArg (fun l : List W => l[t]?) e
    have hr : (List.range (r + 1))[t]? = some t := List.getElem?_range (by omega)
    simp only [lst, List.getElem?_map, hr, Option.map_some] at this
    exact Option.some.inj this
  · intro h
    refine List.map_congr_left fun t ht => h t ?_
    have := List.mem_range.mp ht
    omega
theorem cls_two (P : IsPer ks p) (h0 : 0 < ks.length) (hp : 2 ≤ p) (x : Cls ks 0 f) : 2 ≤ cnt ks.length f := by
  rcases Nat.lt_or_ge (cnt ks.length f) 2 with z | z
  · exfalso
    have all : ∀ i j : Nat, i < ks.length → j < ks.length → f i = f j := fun i j hi hj => Classical.byContradiction fun hne => by
      have := cnt_lt (n := ks.length) (f := fun _ => 0) (g := f) (fun _ _ _ _ _ => rfl) hi hj rfl hne
      have h2 : 1 ≤ cnt ks.length fun _ => 0 := by
        have hm : (0 : Nat) ∈ eOnce (tab ks.length fun _ => 0) := (eOnce_mem _ _).mpr (tab_mem.mpr ⟨i, hi, rfl⟩)
        have := List.length_pos_of_mem hm
        exact this
      omega
    have : Per ks 1 := per_lt h0 fun k hk => by
      have h1 := (x k 0 hk h0).mp (all k 0 hk h0) 0 (Nat.le_refl _)
      have r1 := Int.emod_nonneg ((k : Int) + 1) (b := (ks.length : Int)) (by omega)
      have r2 := Int.emod_lt_of_pos ((k : Int) + 1) (b := (ks.length : Int)) (by omega)
      obtain ⟨m, hm⟩ := Int.eq_ofNat_of_zero_le r1
      have h2 := (x m 0 (by omega) h0).mp (all m 0 (by omega) h0) 0 (Nat.le_refl _)
      simp only [Int.natCast_zero, Int.sub_zero] at h1 h2
      rw [h1, ← h2, ← hm, cyc_mod]
    exact P.min 1 (by omega) (by omega) (Nat.one_dvd _) this
  · exact z
theorem cls_p (P : IsPer ks p) (h0 : 0 < ks.length) (x : Cls ks r f) : cnt ks.length f ≤ p := by
  have hp := P.pos
  have h1 := cnt_le (n := ks.length) (f := f) (g := fun i => i % p) fun i j hi hj e => (x i j hi hj).mpr fun t _ => alk_no P (by
    have h2 : ((i % p : Nat) : Int) = ((j % p : Nat) : Int) := by rw [e]
    rw [Int.natCast_emod, Int.natCast_emod] at h2
    exact Int.dvd_of_emod_eq_zero (Int.emod_eq_emod_iff_emod_sub_eq_zero.mp h2)) t
  have h2 : cnt ks.length (fun i => i % p) ≤ p := by
    unfold cnt
    refine nodup_lt (eOnce_nodup _) fun v hv => ?_
    obtain ⟨i, _, rfl⟩ := tab_mem.mp ((eOnce_mem _ _).mp hv)
    exact Nat.mod_lt _ hp
  omega
/-- the longest is at most the period less two -/
theorem isL_le (P : IsPer ks p) (h0 : 0 < ks.length) (l : IsL ks L) : L ≤ p - 2 := by
  rcases Nat.eq_zero_or_pos L with z | z
  · omega
  have hp : 2 ≤ p := by
    rcases Nat.lt_or_ge p 2 with q | q
    · exfalso
      have : p = 1 := by have := P.pos; omega
      rcases l.at_ with y | ⟨i, j, A⟩
      · omega
      · exact A.nd P (by rw [this]; exact Int.one_dvd _)
    · exact q
  have key : ∀ r, r ≤ L → ∀ f, Cls ks r f → r + 2 ≤ cnt ks.length f := by
    intro r
    induction r with
    | zero => intro _ f x; exact cls_two P h0 hp x
    | succ r ih =>
      intro hr f x
      obtain ⟨f0, x0⟩ := cls_ex ks r
      have := ih (by omega) f0 x0
      have := Cls.more h0 l x0 x (by omega)
      omega
  obtain ⟨f, x⟩ := cls_ex ks L
  have h1 := key L (Nat.le_refl _) f x
  have h2 := cls_p P h0 x
  omega
theorem isL_ex (P : IsPer ks p) (h0 : 0 < ks.length) : ∃ L, IsL ks L := by
  rcases Classical.em (∃ a, ∃ i j, Alk ks i j a) with ⟨a, ha⟩ | z
  · have bd : ∀ i j a, Alk ks i j a → a < ks.length := fun i j a x => by
      obtain ⟨b, hb, y⟩ := alk_ex h0 P (x.nd P)
      rw [x.uniq y]
      exact hb
    obtain ⟨m, ⟨b, hb, hbm⟩, hmin⟩ := least (P := fun m => ∃ b, (∃ i j, Alk ks i j b) ∧ b + m = ks.length) ⟨ks.length - a, a, ha, by obtain ⟨i, j, x⟩ := ha; have := bd i j a x; omega⟩
    refine ⟨b, fun i j c x => ?_, .inr hb⟩
    refine Classical.byContradiction fun hlt => ?_
    have := bd i j c x
    exact hmin (ks.length - c) (by omega) ⟨c, ⟨i, j, x⟩, by omega⟩
  · exact ⟨0, fun i j a x => absurd ⟨a, i, j, x⟩ z, .inl rfl⟩
end
end Ly

/-! enumerate over a tuple, over what a name holds -/
namespace Ly
open PySem PySem.Spec PyProof.Rows L2
open Sem (wp)
theorem meets_enumT (t : Addr) (items : Array Value) : Meets (Builtin.«enumerate.__new__» ⟨[.type "enumerate", .ref t], []⟩) (fun _ R s => s.heap.IsTuple t items ∧
    R (.ok (.ret (.ref (s.heap.push { cls := .type "tuple_iterator", data := .fields #[.ref t, .int 0 0] }).objs.size)))
      { s with heap := (s.heap.push { cls := .type "tuple_iterator", data := .fields #[.ref t, .int 0 0] }).push { cls := .type "enumerate", data := .fields #[.none, .bool false, .ref s.heap.objs.size, rawInt 0, .none, .none] } }) :=
  .of_wp fun prog w A R s h => by
    obtain ⟨hp, g, d, tk, os⟩ := s
    obtain ⟨ht, h⟩ := h
    have sub := sub_enumerate
    have it1 : ∀ {B : Around} {E Q : Value → Shared → Prop}, Q (.ref hp.objs.size) ⟨hp.push { cls := .type "tuple_iterator", data := .fields #[.ref t, .int 0 0] }, g, d, tk, os⟩ → wpAny (model prog w) B (pyIter (.ref t)) Q E ⟨hp, g, d, tk, os⟩ := fun q => wpAny_pyIter_tuple ht q
    wp_walk using it1
    refine wpAny_stack_any fun st => wpAny_pure ?_
    split
    · rename_i c _ _ _ _ _
      cases hc : (c == Value.type "enumerate") <;> (wp_walk using it1; exact ⟨_, rfl, h⟩)
    · wp_walk using it1
      exact ⟨_, rfl, h⟩
theorem call_enumT {prog : Program} {w : World} {A : Around} {E : Value → Shared → Prop} {s : Shared} {t : Addr} {items : Array Value} {Q : Value → Shared → Prop} (ht : s.heap.IsTuple t items)
    (h : ∀ h', IsEnum h' (s.heap.objs.size + 1) s.heap.objs.size 0 .none → h'.IsTupleIter s.heap.objs.size t 0 → (∀ b o, s.heap.get? b = some o → h'.get? b = some o) → Q (.ref (s.heap.objs.size + 1)) { s with heap := h' }) :
    wpAny (model prog w) A (call (.type "enumerate") [.ref t]) Q E s := by
  refine callType_new F.called_enumerate (by decide) (F.typeCall_enumerate_1 _) (F.newCall_enumerate_1 _) (fun obj => F.args_object_init_2 obj _) F.entry_enumerate_new (meets_enumT t items) ⟨ht, ?_⟩
  have sz : (s.heap.push { cls := .type "tuple_iterator", data := .fields #[.ref t, .int 0 0] }).objs.size = s.heap.objs.size + 1 := Heap.size_push ..
  show _ ∧ _
  rw [sz]
  have en := Heap.get?_push_size (s.heap.push { cls := .type "tuple_iterator", data := .fields #[.ref t, .int 0 0] }) (o := { cls := .type "enumerate", data := .fields #[.none, .bool false, .ref s.heap.objs.size, rawInt 0, .none, .none] }) rfl
  rw [sz] at en
  exact ⟨⟨_, en, rfl⟩, h _ en ⟨_, Heap.get?_push_of_some _ (Heap.get?_push_size _ rfl), rfl, rfl⟩ fun b o x => Heap.get?_push_of_some _ (Heap.get?_push_of_some _ x)⟩
/-- the tuple at a, each item in a new pair -/
def IteT (K : PySem.W.Frag) (a : Addr) : It :=
  ⟨fun i H => ∃ (xs : List V) (x : V), SqT K H a xs ∧ xs[i]? = some x, fun i H v H' => ∃ T x, v = .ref T ∧ H T = none ∧ H' = upd H T (.tup [.int (i : Nat), x]) ∧ ∀ xs, SqT K H a xs → xs[i]? = some x, fun i H => ∃ xs : List V, SqT K H a xs ∧ xs.length ≤ i⟩
theorem ne_kind {h : Heap} {a b : Addr} {o1 o2 : Obj} (h1 : h.get? a = some o1) (h2 : h.get? b = some o2) (hc : o1.cls ≠ o2.cls) : a ≠ b := fun z => by
  rw [z, h2] at h1
  cases h1
  exact hc rfl
theorem turn_enumT {P : Program} {w : World} {K : PySem.W.Frag} {elts : List Expr} {kk : Nat} {tpos : Pos} (a e it : Addr) :
    Turn P w K (.Tuple elts kk tpos) (IteT K a) [e, it] e (fun i h => (∃ old, IsEnum h e it ((i : Nat) : Int) old) ∧ h.IsTupleIter it a i ∧ e ≠ it) where
  mem := by simp
  obj := fun i h ⟨⟨old, he⟩, ⟨o, ho, hc, hd⟩, _⟩ b hb => by
    rcases (show b = e ∨ b = it by simpa using hb) with rfl | rfl
    · exact ⟨_, he, fun v q => nomatch q⟩
    · exact ⟨o, ho, fun v q => by rw [hd] at q; cases q⟩
  keep := fun i h h' ⟨⟨old, he⟩, hi, hne⟩ k => ⟨⟨old, k e (by simp) _ he⟩, hi.at fun o q => k it (by simp) o q, hne⟩
  item := by
    rintro X rfl rfl rfl hc i pins s σ H E I hf ⟨⟨old, he⟩, hit, hne⟩ ⟨xs, x, hq, hx⟩
    obtain ⟨its, rv, p, hz⟩ := I.tuple hq
    obtain ⟨u, hu, ru⟩ := rv.get hx
    have pt : s.heap.IsTuple a its.toArray := p
    obtain ⟨oT, gT, cT, _⟩ := id pt
    obtain ⟨oI, gI, cI, _⟩ := id hit
    have ne1 : a ≠ it := ne_kind gT gI (by rw [cT, cI]; decide)
    have ne2 : e ≠ a := ne_kind he gT (by rw [cT]; show Value.type "enumerate" ≠ Value.type "tuple"; decide)
    have lt1 : e < s.heap.objs.size := Heap.lt_size he
    have lt2 : it < s.heap.objs.size := Heap.lt_size gI
    have hil : i < its.toArray.size := by
      have := (List.getElem?_eq_some_iff.mp hu).1
      simpa using this
    refine wpAny_pyNext_enum_itemD (Draws.tuple (A := X.A.in1) (show X.A.in1.handled = none from I.ok.hd hc) it a ne1 its.toArray) he ⟨hit, pt⟩ hil hne (by simp [hne, ne2]) fun y h' tk hy ho hst hT hsz hk => ?_
    obtain rfl : u = y := by
      have : its[i]? = some y := by simpa using hy
      rw [hu] at this
      exact Option.some.inj this
    refine ⟨_, rfl, wpAny_letOwnedTupleGo_enum (s := { s with heap := h', toks := tk + 1 }) ho fun h'' he' sb => ?_⟩
    have hT2 : h''.get? s.heap.objs.size = some { cls := .type "tuple", data := .seq #[.int i tk, u] } := (sb.2 _ (Nat.ne_of_gt lt1)).trans hT
    have new : ObjOk X.prog X.w (upd H s.heap.objs.size (.tup [.int (i : Nat), x])) h'' s.heap.objs.size (.tup [.int (i : Nat), x]) :=
      ⟨by show 2 ≤ sizeLine; decide, [.int i tk, u], .cons ⟨_, rfl⟩ (.cons ru .nil), ⟨_, hT2, rfl, _, rfl⟩⟩
    have I1 : Inv X pins σ (upd H s.heap.objs.size (.tup [.int (i : Nat), x])) { s with heap := h'', toks := tk + 1 } :=
      I.turnedNew (ch := [e, it]) (fun b ob hb q => (sb.2 b (fun z => hb (by simp [z]))).trans (hk b ob (fun z => hb (by simp [z])) (fun z => hb (by simp [z])) q)) hf (Nat.le_refl _) new
    refine ⟨.ref s.heap.objs.size, _, I1, rfl, ⟨_, x, rfl, I.hok.fresh (Nat.le_refl _), rfl, fun ys hy => by rw [I.tuple_inj hy hq]; exact hx⟩, ⟨⟨u, ?_⟩, hst.1.at fun o q => (sb.2 it (Ne.symm hne)).trans q, hne⟩, fun b hb => ?_⟩
    · rw [show ((i + 1 : Nat) : Int) = (i : Int) + 1 by omega]
      exact he'
    · have : b < s.heap.objs.size := by
        rcases (show b = e ∨ b = it by simpa using hb) with rfl | rfl
        · exact lt1
        · exact lt2
      rw [upd_ne (Nat.ne_of_lt this)]
      exact (hf b hb).1
  done := by
    rintro X rfl rfl rfl hc i pins s σ H E I hf ⟨⟨old, he⟩, hit, hne⟩ ⟨xs, hq, hx⟩
    obtain ⟨its, rv, p, hz⟩ := I.tuple hq
    have pt : s.heap.IsTuple a its.toArray := p
    obtain ⟨f0, f1, f2, f3, f4, f5⟩ := hf it (by simp)
    obtain ⟨oT, gT, cT, _⟩ := id pt
    obtain ⟨oI, gI, cI, _⟩ := id hit
    have ne1 : a ≠ it := ne_kind gT gI (by rw [cT, cI]; decide)
    have hl := rv.length
    have no : its.toArray[i]? = none := by simp; omega
    have D : Draws X.prog X.w X.A.in1 it [it, a] i (fun _ _ => False) (fun j h => j = i ∧ h.IsTupleIter it a i ∧ h.IsTuple a its.toArray) :=
      { live := fun _ _ st => let ⟨o, ho, _⟩ := st.2.1; ⟨o, ho⟩
        frame := fun _ _ _ st hk => ⟨st.1, st.2.1.at fun o q => hk it (by simp) o q, st.2.2.at fun o q => hk a (by simp) o q⟩
        item := fun j s Q E hj st _ => absurd st.1 (Nat.ne_of_lt hj)
        done := fun s Q E st hE => wpAny_nextOf_tuple_end (show X.A.in1.handled = none from I.ok.hd hc) st.2.1 st.2.2 no hE }
    exact wpAny_pyNext_enum_endD D he ⟨rfl, hit, pt⟩ fun h' eb => ⟨rfl, I.turned (t' := s.toks) (fun b o hb q => eb b o hb q) f0 f1 f3 f4 f5⟩
  self := fun A i s Q E ⟨⟨_, he⟩, _⟩ h => wpAny_pyIter_enum he h
/-! ### enumerate over what a name holds, a list or a tuple -/
def iEnumV (K : PySem.W.Frag) (i : Nat) : TI := fun σ H R => ∃ a, σ[i]? = some (some (.ref a)) ∧ (((∃ xs, SqL K H a xs) ∧ R (Ite K a) H) ∨ ((∃ xs, SqT K H a xs) ∧ R (IteT K a) H))
theorem pi_enumV {X : Cx} {e : Expr} {i : Nat} {p pos tpos : Pos} {elts : List Expr} {kk : Nat} (hg : Gl X "enumerate") (hm : X.mg "enumerate" = none) (he : PE X e (tVar i)) (hs : starEach [e] X.env = [(false, eval e X.env)] := by rfl) :
    PI X (.Tuple elts kk tpos) (.Call (.Name "enumerate" p) [e] [] pos) (iEnumV X.K i) := by
  refine ⟨fun pins s σ H R I h => ?_⟩
  obtain ⟨a, ha, h | h⟩ := h
  · obtain ⟨⟨xs, hq⟩, q⟩ := h
    exact (pi_enum hg hm (pa_cons he pa_nil hs) hs).run pins s σ H R I ⟨.ref a, ha, a, xs, rfl, hq, q⟩
  · obtain ⟨⟨xs, hq⟩, q⟩ := h
    refine Call_ (ld_blt I hg hm boot_enumerate (PyProof.Rows.callWith_type1 (thn ((pa_cons he pa_nil hs).run pos pins s σ H (fun vs H1 => vs = [.ref a] ∧ SqT X.K H1 a xs ∧ R (IteT X.K a) H1) I ⟨.ref a, ha, rfl, hq, q⟩) fun us s1 ⟨vs, H1, I1, r1, ex, hq1, q1⟩ => ?_) hs rfl))
    subst ex
    cases r1 with
    | cons r rr =>
      cases rr
      cases r
      obtain ⟨its, rv, p', hz⟩ := I1.tuple hq1
      refine call_enumT (show s1.heap.IsTuple a its.toArray from p') fun h' he hit hk => wpAny_pyIter_enum he ?_
      have I2 : Inv X pins σ H1 { s1 with heap := h' } := I1.kept (t' := s1.toks) hk
      refine ⟨s1.heap.objs.size + 1, [s1.heap.objs.size + 1, s1.heap.objs.size], _, _, H1, rfl, I2, turn_enumT a (s1.heap.objs.size + 1) s1.heap.objs.size, ⟨⟨.none, he⟩, hit, Nat.succ_ne_self _⟩, fun b hb => ?_, q1⟩
      have hle : s1.heap.objs.size ≤ b := by
        rcases (show b = s1.heap.objs.size + 1 ∨ b = s1.heap.objs.size by simpa using hb) with z | z
        · rw [z]; exact Nat.le_add_right _ _
        · rw [z]; exact Nat.le_refl _
      exact I1.fpOk hle (I1.hok.fresh hle)
theorem walk_enumT {K : PySem.W.Frag} {a : Addr} {xs : List V} : Walk (IteT K a) xs.length (fun H => SqT K H a xs) (YPair (fun i => some (.int (i : Nat))) (fun i => xs[i]?)) := by
  refine ⟨fun i _ hi q => ⟨xs, xs[i], q, by simp [hi]⟩, fun _ q => ⟨xs, q, Nat.le_refl _⟩, fun i H v H' _ q y => ?_⟩
  obtain ⟨T, x, e1, e2, e3, e4⟩ := y
  exact ⟨T, .int (i : Nat), x, e1, e2, e3, rfl, e4 xs q⟩
/-- a loop over what a name holds, a list or a tuple -/
theorem forg_enumV {K : PySem.W.Frag} {j : Nat} {a : Addr} {xs : List V} {g : TG} {tb : TS} {D : Ends} {σ : L2.St} {F H : Hp} (M : List Addr) (hl : σ[j]? = some (some (.ref a))) (hx : F a = some (.lst xs) ∨ F a = some (.tup xs)) (hF : Same F H) (I : Nat → L2.St → Hp → Hp → Prop) (h0 : I 0 σ F H)
    (hs : ∀ i x T σ1 F1 H1 (Nk : L2.St → Hp → Prop), i < xs.length → xs[i]? = some x → Ex M F H F1 H1 → I i σ1 F1 H1 → H1 T = none → (∀ σ2 F2 H2, Ex M F1 (upd H1 T (.tup [.int (i : Nat), x])) F2 H2 → I (i + 1) σ2 F2 H2 → Nk σ2 H2) → g (.ref T) σ1 (upd H1 T (.tup [.int (i : Nat), x])) fun σ2 H2 => tb { D with nx := Nk, ct := Nk, bk := D.nx } σ2 H2)
    (hd : ∀ σ1 F1 H1, Ex M F H F1 H1 → I xs.length σ1 F1 H1 → D.nx σ1 H1) : tFor (iEnumV K j) g tb D σ H := by
  refine r_for ?_
  have body : ∀ i y σ1 H1 H2, i < xs.length → (∃ F1, Ex M F H F1 H1 ∧ I i σ1 F1 H1) → YPair (fun i => some (.int (i : Nat))) (fun i => xs[i]?) i H1 y H2 → ∀ Nk : L2.St → Hp → Prop, (∀ σ2 H3, (∃ F2, Ex M F H F2 H3 ∧ I (i + 1) σ2 F2 H3) → Nk σ2 H3) → g y σ1 H2 fun σ2 H2 => tb { D with nx := Nk, ct := Nk, bk := D.nx } σ2 H2 := by
    rintro i y σ1 H1 H2 hi ⟨F1, e, p⟩ ⟨T, x, z, rfl, hT, rfl, e1, e2⟩ Nk nk
    cases e1
    exact hs i z T σ1 F1 H1 _ hi e2 e p hT fun σ2 F2 H3 e3 p2 => nk _ _ ⟨F2, e.trans ((Ex.new e.fh hT).trans e3), p2⟩
  rcases hx with hx | hx
  · refine ⟨a, hl, .inl ⟨⟨xs, SqL.of (hF _ _ hx)⟩, ?_⟩⟩
    exact for_it walk_enum (fun i σ1 H1 => ∃ F1, Ex M F H F1 H1 ∧ I i σ1 F1 H1) ⟨F, Ex.refl hF, h0⟩ (fun i σ1 H1 _ ⟨F1, e, _⟩ => SqL.of (e.fh _ _ (e.ff _ _ hx)))
      (fun i y σ1 H1 H2 hi p yy => body i y σ1 H1 H2 hi p yy _ fun σ2 H3 h => h) fun σ1 H1 ⟨F1, e, p⟩ => hd σ1 F1 H1 e p
  · refine ⟨a, hl, .inr ⟨⟨xs, SqT.of (hF _ _ hx)⟩, ?_⟩⟩
    exact for_it walk_enumT (fun i σ1 H1 => ∃ F1, Ex M F H F1 H1 ∧ I i σ1 F1 H1) ⟨F, Ex.refl hF, h0⟩ (fun i σ1 H1 _ ⟨F1, e, _⟩ => SqT.of (e.fh _ _ (e.ff _ _ hx)))
      (fun i y σ1 H1 H2 hi p yy => body i y σ1 H1 H2 hi p yy _ fun σ2 H3 h => h) fun σ1 H1 ⟨F1, e, p⟩ => hd σ1 F1 H1 e p
end Ly

/-! walks over range(lo, hi) -/
namespace Ly
open PySem PySem.Spec PyProof.Rows L2
theorem forg_rng2 {ta : TA} {lo hi : Nat} {g : TG} {tb : TS} {D : Ends} {σ : L2.St} {F H : Hp} (M : List Addr) (hl : ∀ R : List V → Hp → Prop, R [.int lo, .int hi] H → ta σ H R) (h1 : lo < sizeLine) (h2 : hi < sizeLine) (hF : Same F H) (I : Nat → L2.St → Hp → Hp → Prop) (h0 : I 0 σ F H)
    (hs : ∀ i σ1 F1 H1 (Nk : L2.St → Hp → Prop), i < hi - lo → Ex M F H F1 H1 → I i σ1 F1 H1 → (∀ σ2 F2 H2, Ex M F1 H1 F2 H2 → I (i + 1) σ2 F2 H2 → Nk σ2 H2) → g (.int (lo + i : Nat)) σ1 H1 fun σ2 H2 => tb { D with nx := Nk, ct := Nk, bk := D.nx } σ2 H2)
    (hd : ∀ σ1 F1 H1, Ex M F H F1 H1 → I (hi - lo) σ1 F1 H1 → D.nx σ1 H1) : tFor (iRng2 ta) g tb D σ H := by
  have hz := sizeLine_eq
  refine r_for (hl _ ⟨_, _, rfl, ⟨by omega, by omega, by omega, by omega⟩, ?_⟩)
  have e : ((hi : Int) - (lo : Int)).toNat = hi - lo := by omega
  rw [e]
  refine forg_gen walk_rg M hF (fun _ _ _ _ => trivial) I h0 (fun i x σ1 F1 H1 Nk hi hx e1 p k => ?_) hd
  obtain ⟨_, rfl⟩ := rgL_get hx
  have := hs i σ1 F1 H1 Nk hi e1 p k
  rw [Int.natCast_add] at this
  exact this
theorem lcg_rng2 {ta : TA} {lo hi : Nat} {g : TG} {tt : TT} {te : TE} {vs : List Nat} {σ : L2.St} {F H : Hp} {Q : VK} (M : List Addr) (hl : ∀ R : List V → Hp → Prop, R [.int lo, .int hi] H → ta σ H R) (h1 : lo < sizeLine) (h2 : hi < sizeLine) (hF : Same F H) (hM : ∀ p ∈ M, H p ≠ none)
    (P : Nat → List V → Hp → Prop) (J : Nat → Hp → Hp → Prop) (hP : ∀ k acc F F', Same F F' → P k acc F → P k acc F')
    (hJ : ∀ N k F1 H1 F2 H2, (∀ p ∈ N, H p = none) → Ex N F1 H1 F2 H2 → J k F1 H1 → J k F2 H2) (h0 : P 0 [] F) (hJ0 : J 0 F H)
    (hs : ∀ k acc F' H' (Kk : VK) (Nk : Hp → Prop), k < hi - lo → Ex M F H F' H' → P k acc F' → J k F' H' → acc.length ≤ k →
      (∀ y F4 H4, Ex M F' H' F4 H4 → P (k + 1) (acc ++ [y]) F4 → J (k + 1) F4 H4 → Kk y H4) → (∀ F4 H4, Ex M F' H' F4 H4 → P (k + 1) acc F4 → J (k + 1) F4 H4 → Nk H4) →
      g (.int (lo + k : Nat)) (wipe σ vs) H' fun σ2 H2 => wipe σ2 vs = wipe σ vs ∧ tt σ2 H2 fun b H3 => if b = true then te σ2 H3 Kk else Nk H3)
    (hd : ∀ D acc F' H', Ex M F H F' H' → H D = none → F' D = none → H' D = some (.lst acc) → P (hi - lo) acc F' → J (hi - lo) F' H' → acc.length ≤ hi - lo → Q (.ref D) H') :
    tLc (iRng2 ta) g tt te vs σ H Q := by
  have hz := sizeLine_eq
  refine hl _ ⟨_, _, rfl, ⟨by omega, by omega, by omega, by omega⟩, ?_⟩
  show ∀ D, H D = none → _
  have e : ((hi : Int) - (lo : Int)).toNat = hi - lo := by omega
  rw [e]
  refine lc_gen walk_rg M hF hM (by omega) P J hP hJ h0 hJ0 (fun _ _ _ _ => trivial) (fun k x acc F' H' Kk Nk hk hx e p j l k1 k2 => ?_) hd
  obtain ⟨_, rfl⟩ := rgL_get hx
  have := hs k acc F' H' Kk Nk hk e p j l k1 k2
  rw [Int.natCast_add] at this
  exact this
/-! ### lists of words compared -/
theorem eqv_lists (a b : List W) : PyData.eqv (.list (NestedKey.datas a)) (.list (NestedKey.datas b)) = decide (a = b) := by
  have h := eqv_dec (.tup a) (.tup b)
  have e : PyData.eqv (NestedKey.tup a : W).data (NestedKey.tup b : W).data = PyData.eqvAll (NestedKey.datas a) (NestedKey.datas b) := by simp [NestedKey.data, PyData.eqv]
  rw [e] at h
  have e2 : PyData.eqv (.list (NestedKey.datas a)) (.list (NestedKey.datas b)) = PyData.eqvAll (NestedKey.datas a) (NestedKey.datas b) := by simp [PyData.eqv]
  rw [e2, h]
  simp
theorem cut_from (xs : List V) {i : Nat} (h : i ≤ xs.length) (hz : xs.length < sizeLine) : cutV xs (some (i : Int)) none = xs.drop i := by
  have z1 := sizeLine_eq
  have e1 : HT.sIx xs.length xs.length none = xs.length := rfl
  have e2 : HT.sIx xs.length 0 (some (i : Int)) = i := by
    rw [HT.sIx_nat]
    omega
  unfold cutV
  rw [e1, e2]
  exact List.take_of_length_le (by rw [List.length_drop]; exact Nat.le_refl _)
theorem cut_to (xs : List V) {i : Nat} (h : i ≤ xs.length) (hz : xs.length < sizeLine) : cutV xs none (some (i : Int)) = xs.take i := by
  have z1 := sizeLine_eq
  have e1 : HT.sIx xs.length 0 none = 0 := rfl
  have e2 : HT.sIx xs.length xs.length (some (i : Int)) = i := by
    rw [HT.sIx_nat]
    omega
  unfold cutV
  rw [e1, e2]
  simp
end Ly

/-! what is due may be weakened: for the tests of whiles -/
namespace Ly
open PySem PySem.Spec PyProof.Rows L2
def ME (te : TE) : Prop := ∀ σ H (Q Q' : VK), (∀ v H1, Q v H1 → Q' v H1) → te σ H Q → te σ H Q'
def MA (ts : TA) : Prop := ∀ σ H (R R' : List V → Hp → Prop), (∀ xs H1, R xs H1 → R' xs H1) → ts σ H R → ts σ H R'
def M2 (r : R2) : Prop := ∀ x y H (Q Q' : VK), (∀ v H1, Q v H1 → Q' v H1) → r x y H Q → r x y H Q'
def MC (r : List V → Hp → VK → Prop) : Prop := ∀ xs H (Q Q' : VK), (∀ v H1, Q v H1 → Q' v H1) → r xs H Q → r xs H Q'
def MT (c : TT) : Prop := ∀ σ H (Q Q' : Bool → Hp → Prop), (∀ b H1, Q b H1 → Q' b H1) → c σ H Q → c σ H Q'
section
variable {K : PySem.W.Frag} {ta tb : TE} {ts : TA} {r : R2} {q : List V → Hp → VK → Prop} {c d : TT}
theorem me_var (i : Nat) : ME (tVar i) := fun σ H Q Q' h ⟨v, a, b⟩ => ⟨v, a, h _ _ b⟩
theorem me_c (v : V) : ME (tC v) := fun σ H Q Q' h x => h _ _ x
theorem me_op (h : M2 r) (ha : ME ta) (hb : ME tb) : ME (tOp r ta tb) := fun σ H Q Q' hq x => ha _ _ _ _ (fun v H1 y => hb _ _ _ _ (fun u H2 z => h _ _ _ _ _ hq z) y) x
theorem me_cb (h : MC q) (ha : MA ts) : ME (tCB q ts) := fun σ H Q Q' hq x => ha _ _ _ _ (fun v H1 y => h _ _ _ _ hq y) x
theorem ma_nil : MA tNil := fun σ H R R' h x => h _ _ x
theorem ma_cons (ha : ME ta) (hs : MA ts) : MA (tCons ta ts) := fun σ H R R' hq x => ha _ _ _ _ (fun v H1 y => hs _ _ _ _ (fun xs H2 z => hq _ _ z) y) x
theorem mt_tst (ha : ME ta) : MT (tTest ta) := fun σ H Q Q' hq x => ha _ _ _ _ (fun v H1 ⟨k, e, y⟩ => ⟨k, e, hq _ _ y⟩) x
theorem mt_and (h1 : MT c) (h2 : MT d) : MT (tAnd c d) := fun σ H Q Q' hq x => h1 _ _ _ _ (fun b H1 y => by
  cases b with
  | true => exact h2 _ _ _ _ hq y
  | false => exact hq _ _ y) x
theorem m2_eqD : M2 (rEqD K) := fun x y H Q Q' hq ⟨d, e, a, b, c, f, z⟩ => ⟨d, e, a, b, c, f, hq _ _ z⟩
theorem m2_ixL : M2 (rIxL K) := fun x y H Q Q' hq ⟨p, xs, i, v, a, b, c, d, z⟩ => ⟨p, xs, i, v, a, b, c, d, hq _ _ z⟩
theorem m2_I0 {f : Int → Int → V} : M2 (rI0 f) := fun x y H Q Q' hq ⟨i, j, a, b, z⟩ => ⟨i, j, a, b, hq _ _ z⟩
theorem m2_I {C : Int → Int → Prop} {f : Int → Int → V} : M2 (rI C f) := fun x y H Q Q' hq ⟨i, j, a, b, c, z⟩ => ⟨i, j, a, b, c, hq _ _ z⟩
theorem mc_int : MC RInt := fun xs H Q Q' hq h => h.imp (fun ⟨i, a, b⟩ => ⟨i, a, hq _ _ b⟩) fun ⟨k, a, b⟩ => ⟨k, a, hq _ _ b⟩
end
/-- while, its test by its form -/
theorem while_m {c : TT} {tb : TS} {D : Ends} {σ : L2.St} {H : Hp} (mt : MT c) (Pv : L2.St → Hp → Prop) (μ : L2.St → Hp → Nat) (h0 : Pv σ H)
    (hs : ∀ σ H, Pv σ H → c σ H fun b H1 => if b = true then tb { D with nx := fun σ' H' => Pv σ' H' ∧ μ σ' H' < μ σ H, ct := fun σ' H' => Pv σ' H' ∧ μ σ' H' < μ σ H, bk := D.nx } σ H1 else D.nx σ H1) : tWhile c tb D σ H :=
  while_by Pv μ h0 hs fun σ H Q Q' h x => mt σ H Q Q' h x
end Ly

/-! {} and setdefault, the keys words of any kind -/
namespace Ly
open PySem PySem.Spec PyProof.Rows L2
section
variable {prog : Program} {w : World} {A : Around} {E : Value → Shared → Prop} {s : Shared} {d : Addr} {a x : Value} {k : W} {xs : List XW}
theorem setdV {Q : Value → Shared → Prop} (hu : A.units + 8 < cLine) (gk : isV s.heap k a) (gm : DictV w s.heap d xs) (h1 : ∀ p, atV xs k = some p → Q p.2 { s with toks := s.toks + k.draws })
    (h2 : atV xs k = none → ∀ h', DictV w h' d (stV xs k a x) → Heap.SameBut d s.heap h' → Q x { s with heap := h', toks := s.toks + k.draws }) (sz : xs.length ≤ sizeLine) :
    wpAny (model prog w) A (dictSetDefault d a x) Q E s := by
  obtain ⟨o, ez, eq0, go, gc, gd, ge, gis, nd⟩ := gm
  unfold dictSetDefault
  try with_reducible refine wpAny_holding ?_
  refine wpAny_bind (isV_hash hu gk (wpAny_bind (findV (s := { s with toks := s.toks + k.draws }) hu gk go gd ge gis nd (fun gno => ?_) fun j p gj => ?_)))
  · have nf := atV_none_of_get gno
    have gnot : k ∉ xs.map (·.1) := notmV gno
    refine wpAny_bind (wpAny_rule (wpAny_bind (wpAny_updateDictKeys (hz := by have e := entV_size ge; omega) (s := { s with toks := s.toks + k.draws }) go gd (wpAny_pure (h2 nf _ ⟨_, _, eq0 + 1, Heap.get?_update_self _ go (Obj.isFreed_of_dict (Obj.data_mapDictKeys gd _)), gc.mapDictKeys _, Obj.data_mapDictKeys gd _, ?_, ?_, ?_⟩ (Heap.SameBut.update ..))))))
    · rw [stV_new nf]
      simp [ge, entV]
    · rw [stV_new nf]
      intro y gy
      rcases List.mem_append.mp gy with gy | gy
      · exact isV_keeps (gis y gy) go gd (Heap.SameBut.update ..)
      · rw [List.mem_singleton.mp gy]
        exact isV_keeps gk go gd (Heap.SameBut.update ..)
    · rw [stV_new nf, List.map_append, List.nodup_append]
      refine ⟨nd, by simp, fun y gy z hz e => gnot ?_⟩
      simp only [List.map_cons, List.map_nil, List.mem_singleton] at hz
      rw [← hz, ← e]
      exact gy
  · refine wpAny_bind (wpAny_dictEntries (s := { s with toks := s.toks + k.draws }) go gd ?_)
    rw [entV_at ge j, gj]
    exact wpAny_bind (wpAny_rule (wpAny_pure (h1 p (atV_of_get nd gj))))
end
/-- {} that is to bear words -/
def tMNew (w : World) : TE := fun _ H Q => ∀ D, H D = none → Q (.ref D) (upd H D (DVO w D []))
theorem pe_mnew {X : Cx} {pos : Pos} : PE X (.Dict [] [] pos) (tMNew X.w) := ⟨fun pn s τ H Q J h =>
  wpAny_Dict_empty ⟨.ref s.heap.objs.size, _, J.laid (a := s.heap.objs.size) (o := DVO X.w s.heap.objs.size []) (t' := s.toks) (fun _ _ q => Heap.get?_push_of_some _ q) (Nat.le_refl _) (dvo_empty s.heap J.big), rfl, h _ (J.hok.fresh (Nat.le_refl _))⟩⟩
section
variable {X : Cx} {pn : List (Addr × Obj)} {τ : L2.St} {H G : Hp} {s : Shared} {d : Addr} {es : List (W × V)} {xs : List XW} {k : W} {kv v : V} {ku u : Value} {E : Value → Shared → Prop}
theorem md_setd {A : Around} {Q : Value → Shared → Prop} (J : L2.Inv X pn τ H s) (hu : A.units + 64 < cLine) (hG : Same G H) (hd : H d = some (DVO X.w d xs)) (p : Paired (mdRel G) es xs) (hz : es.length < sizeLine) (wk : Wk G k kv) (dp : k.depth ≤ 8) (rk : RelV kv ku) (rv : RelV v u)
    (h1 : ∀ v0, valW es k = some v0 → ∀ (y : Value) (s2 : Shared), L2.Inv X pn τ H s2 → RelV v0 y → Q y s2)
    (h2 : valW es k = none → ∀ (s2 : Shared) (xs2 : List XW), L2.Inv X pn τ (upd H d (DVO X.w d xs2)) s2 → Paired (mdRel G) (es ++ [(k, v)]) xs2 → Q u s2) :
    wpAny (model X.prog X.w) A (call (.builtin "dict.setdefault") [.ref d, ku, u]) Q E s := by
  obtain ⟨z, hm, dd⟩ := dv_of J.hok hd (mdRel.up hG p)
  have ln : xs.length = es.length := (Paired.length p).symm
  refine call_meetsIn PySem.F.slot_dict_setdefault dd.typeIs PySem.F.entry_dict_setdefault (PySem.F.args_dict_setdefault_3 _ _ _) (S := fun A2 R s2 => A2.units + 9 < cLine ∧ s2 = s ∧ (∀ y s3, Q y s3 → R (.ok (.ret y)) s3)) (fun A2 R s2 hS => ?_) ⟨by show A.units + 9 < cLine; omega, rfl, fun y s3 q => q⟩
  obtain ⟨hu2, rfl, hR⟩ := hS
  unfold Builtin.«dict.setdefault»
  refine wpAny_bind ?_
  unfold Builtin.Dict.keyAndDefault
  refine wpAny_bind (wpAny_notOrdered_dict dd.typeIs ?_)
  show wpAny _ _ (pure (d, ku, some u)) _ _ s2
  refine wpAny_pure ?_
  show wpAny _ _ (if (d == sysModules) = true then _ else (dictSetDefault d ku u >>= _)) _ _ s2
  rw [if_neg (by rw [hm]; exact Bool.false_ne_true)]
  have r := md_at (k := k) p
  refine wpAny_bind (setdV (by show A2.units + 1 + 8 < cLine; omega) (isV_wk J.hok (wk.up hG) rk dp) dd (fun q hq => ?_) (fun hn h' dd2 hs => ?_) z)
  · rw [hq] at r
    cases hv : valW es k with
    | none => rw [hv] at r; exact (show False from r).elim
    | some v0 =>
      rw [hv] at r
      exact wpAny_pure (hR _ _ (h1 v0 hv _ _ (J.tok _) r))
  · rw [hn] at r
    cases hv : valW es k with
    | some v0 => rw [hv] at r; exact (show False from r).elim
    | none =>
      have hl : (stV xs k ku u).length ≤ sizeLine := by have := stV_len xs k ku u; omega
      have he : ∃ q, h'.get? d = some q := let ⟨q, _, _, hq, _⟩ := dd2; ⟨q, hq⟩
      have pp := md_put p rv rk wk dp
      have e1 : putW es k v = es ++ [(k, v)] := by simp [putW, hv]
      rw [e1] at pp
      exact wpAny_pure (hR _ _ (h2 hv _ _ (d_write (t' := s2.toks + k.draws) J (by rw [hd]; exact True.intro) hs he (dvo_ok hl hm dd2)) pp))
end
/-- d.setdefault(y, z), the keys words -/
def tMSetd (w : World) (td ty tx : TE) : TE := fun σ H Q => td σ H fun x H1 => ∃ a, x = .ref a ∧ (∃ xs, H1 a = some (DVO w a xs)) ∧ ty σ H1 fun y H2 => tx σ H2 fun z H3 => ∃ (G : Hp) (es : List (W × V)) (xs : List XW) (k : W), Same G H3 ∧ H3 a = some (DVO w a xs) ∧ Paired (mdRel G) es xs ∧ Wk G k y ∧ k.depth ≤ 8 ∧ es.length < sizeLine ∧
  (∀ v, valW es k = some v → Q v H3) ∧ (valW es k = none → ∀ xs2, Paired (mdRel G) (es ++ [(k, z)]) xs2 → Q z (upd H3 a (DVO w a xs2)))
theorem pe_msetd {X : Cx} {o e f : Expr} {td ty tx : TE} {apos cpos : Pos} (hu : X.A.units + 64 < cLine) (ho : PE X o td) (he : PE X e ty) (hf : PE X f tx) (m : L2.M2 X o "setdefault" apos e f cpos) : PE X (.Call (.Attribute o "setdefault" apos) [e, f] [] cpos) (tMSetd X.w td ty tx) := by
  refine ⟨fun pn s τ H Q J h => ?_⟩
  refine wpAny_Call_method m.base m.few m.line PySem.F.plainAttrs_dict PySem.F.slot_dict_setdefault PySem.F.type_dict_setdefault (thn (ho.run pn s τ H _ J h) fun u s1 ⟨x, H1, J1, rx, a, ex, ⟨xs0, d0⟩, q1⟩ => ?_)
  subst ex
  obtain rfl : u = Value.ref a := rx
  obtain ⟨_, _, oo, es0, ep0, g1, g2, g3, _⟩ := (show ObjOk X.prog X.w H1 s1.heap a (DVO X.w a xs0) from J1.hok a _ d0).1
  refine ⟨⟨oo, g1, g2.1⟩, fun b q => by cases q; exact ⟨oo, g1, g2.2.1⟩, ?_⟩
  rw [m.trees]
  refine Calls.callWith_builtin rfl (Calls.evalArgs_plain (Calls.spliced_cons (thn (he.run pn s1 τ H1 _ J1 q1) fun iv s2 ⟨y, H2, J2, ry, q2⟩ =>
    Calls.spliced_cons (thn (hf.run pn s2 τ H2 _ J2 q2) fun fv s3 ⟨z, H3, J3, rz, G, es, xs, k, hG, ea, pp, wk, dp, hl, q3, q4⟩ => Calls.spliced_nil ?_))))
  exact md_setd J3 hu hG ea pp hl wk dp ry rz (fun v hv w' s4 I4 rw' => ⟨v, _, I4, rw', q3 v hv⟩) fun hn s4 xs2 I4 pp2 => ⟨z, _, I4, rz, q4 hn xs2 pp2⟩
end Ly

namespace Ly
open PySem PySem.Spec PyProof.Rows L2
section
variable {K : PySem.W.Frag}

theorem lcg_eval {tl : TE} {g : TG} {tt : TT} {te : TE} {vs : List Nat} {σ : L2.St} {H : Hp} {Q : VK} (mono : ∀ Q Q' : VK, (∀ v H, Q v H → Q' v H) → tl σ H Q → tl σ H Q')
    (hl : tl σ H fun x H1 => ∃ (a : Addr) (xs : List V) (F1 : Hp) (P : Nat → List V → Hp → Prop), x = .ref a ∧ Same F1 H1 ∧ F1 a = some (.lst xs) ∧ xs.length < sizeLine ∧ (∀ k acc F F', Same F F' → P k acc F → P k acc F') ∧ P 0 [] F1 ∧
      (∀ k x acc F' H' (Kk : VK) (Nk : Hp → Prop), k < xs.length → xs[k]? = some x → Ex [] F1 H1 F' H' → P k acc F' → acc.length ≤ k →
        (∀ y F4 H4, Ex [] F' H' F4 H4 → P (k + 1) (acc ++ [y]) F4 → Kk y H4) → (∀ F4 H4, Ex [] F' H' F4 H4 → P (k + 1) acc F4 → Nk H4) →
        g x (wipe σ vs) H' fun σ2 H2 => wipe σ2 vs = wipe σ vs ∧ tt σ2 H2 fun b H3 => if b = true then te σ2 H3 Kk else Nk H3) ∧
      (∀ D acc F' H', Ex [] F1 H1 F' H' → H1 D = none → F' D = none → H' D = some (.lst acc) → P xs.length acc F' → acc.length ≤ xs.length → Q (.ref D) H')) : tLc (iList K tl) g tt te vs σ H Q := by
  refine mono _ _ (fun x H1 h => ?_) hl
  obtain ⟨a, xs, F1, Pr, rfl, hF, hx, hn, hP, h0, hs, hd⟩ := h
  exact ⟨a, rfl, ⟨xs, SqL.of (hF _ _ hx)⟩, lc_gen walk_listF [] hF (by simp) hn Pr (fun _ _ _ => True) hP (fun _ _ _ _ _ _ _ _ _ => trivial) h0 trivial (fun F' H' g1 g2 => g2 _ _ (g1 _ _ hx)) (fun k x acc F' H' Kk Nk h1 h2 h3 h4 _ h6 k1 k2 => hs k x acc F' H' Kk Nk h1 h2 h3 h4 h6 (fun y F4 H4 e q => k1 y F4 H4 e q trivial) fun F4 H4 e q => k2 F4 H4 e q trivial) fun D acc F' H' e q1 q2 q3 q4 _ q6 => hd D acc F' H' e q1 q2 q3 q4 q6⟩
end
end Ly

/-! lists cut, turned, mirrored, said again -/
namespace Ly
open PySem PySem.Spec PyProof.Rows L2
section
variable {K : PySem.W.Frag} {σ : L2.St} {F H : Hp} {Q : VK} {j l : Nat} {a : Addr} {xs : List V} {i : Nat}
theorem cat_turn (hj : σ[j]? = some (some (.ref a))) (hl : σ[l]? = some (some (.int i))) (hF : Same F H) (ha : F a = some (.lst xs)) (hi : i ≤ xs.length) (hz : xs.length < 100000)
    (k : ∀ p H', Ex [] F H (upd F p (.lst (xs.drop i ++ xs.take i))) H' → H p = none → Q (.ref p) H') : tOp rCat (tSl (rSlL K) (tVar j) (tPart (tVar l)) tNoPart) (tSl (rSlL K) (tVar j) tNoPart (tPart (tVar l))) σ H Q := by
  have z1 := sizeLine_eq
  refine ⟨_, hj, _, hl, _, rfl, a, _, rfl, SqL.of (hF _ _ ha), fun p1 hp1 => ?_⟩
  rw [cut_from _ hi (by omega)]
  have d1 : (upd H p1 (.lst (xs.drop i))) p1 = some (.lst (xs.drop i)) := upd_same
  have e1 : Ex [] F H F (upd H p1 (.lst (xs.drop i))) := Ex.new hF hp1
  generalize upd H p1 (.lst (xs.drop i)) = H2 at d1 e1
  refine ⟨_, hj, _, hl, _, rfl, a, _, rfl, SqL.of (e1.fh _ _ ha), fun p2 hp2 => ?_⟩
  rw [cut_to _ hi (by omega)]
  have d2 : (upd H2 p2 (.lst (xs.take i))) p2 = some (.lst (xs.take i)) := upd_same
  have e2 : Ex [] F H2 F (upd H2 p2 (.lst (xs.take i))) := Ex.new e1.fh hp2
  have d12 := e2.at d1
  generalize upd H2 p2 (.lst (xs.take i)) = H3 at d2 e2 d12
  refine ⟨p1, p2, _, _, rfl, rfl, d12, d2, by rw [List.length_drop, List.length_take]; omega, fun p3 hp3 => k p3 _ ((e1.trans e2).trans (Ex.newF e2.fh hp3)) ?_⟩
  cases z : H p3 with
  | none => rfl
  | some o => exact absurd hp3 ((e1.trans e2).dm p3 (ne_none z))
/-- a list that is cut and turned about, read -/
theorem rev_cut (hj : σ[j]? = some (some (.ref a))) (hl : σ[l]? = some (some (.int i))) (hF : Same F H) (ha : F a = some (.lst xs)) (hi : i ≤ xs.length) (hz : xs.length < 100000)
    (k : ∀ p H', Ex [] F H F H' → H p = none → H' p = some (.lst (xs.take i).reverse) → Q (.ref p) H') : tRevL K (tSl (rSlL K) (tVar j) tNoPart (tPart (tVar l))) σ H Q := by
  have z1 := sizeLine_eq
  refine ⟨_, hj, _, hl, _, rfl, a, _, rfl, SqL.of (hF _ _ ha), fun p1 hp1 => ?_⟩
  rw [cut_to _ hi (by omega)]
  have d1 : (upd H p1 (.lst (xs.take i))) p1 = some (.lst (xs.take i)) := upd_same
  have e1 : Ex [] F H F (upd H p1 (.lst (xs.take i))) := Ex.new hF hp1
  generalize upd H p1 (.lst (xs.take i)) = H2 at d1 e1
  refine ⟨p1, _, rfl, SqL.of d1, fun p2 hp2 => k p2 _ (e1.trans (Ex.new e1.fh hp2)) ?_ upd_same⟩
  cases z : H p2 with
  | none => rfl
  | some o => exact absurd hp2 (e1.dm p2 (ne_none z))
theorem rev_mono (Q' : VK) (hq : ∀ v H, Q v H → Q' v H) (h : tRevL K (tSl (rSlL K) (tVar j) tNoPart (tPart (tVar l))) σ H Q) : tRevL K (tSl (rSlL K) (tVar j) tNoPart (tPart (tVar l))) σ H Q' := by
  obtain ⟨v, hv, u, hu, n, hn, a, xs, e, sq, h⟩ := h
  refine ⟨v, hv, u, hu, n, hn, a, xs, e, sq, fun p hp => ?_⟩
  obtain ⟨b, ys, e2, sq2, h2⟩ := h p hp
  exact ⟨b, ys, e2, sq2, fun p2 hp2 => hq _ _ (h2 p2 hp2)⟩
theorem cat_mirror (hj : σ[j]? = some (some (.ref a))) (hl : σ[l]? = some (some (.int i))) (hF : Same F H) (ha : F a = some (.lst xs)) (hi : i ≤ xs.length) (hz : xs.length < 100000)
    (k : ∀ p H', Ex [] F H (upd F p (.lst (xs.take i ++ (xs.take i).reverse))) H' → H p = none → Q (.ref p) H') : tOp rCat (tSl (rSlL K) (tVar j) tNoPart (tPart (tVar l))) (tRevL K (tSl (rSlL K) (tVar j) tNoPart (tPart (tVar l)))) σ H Q := by
  have z1 := sizeLine_eq
  refine ⟨_, hj, _, hl, _, rfl, a, _, rfl, SqL.of (hF _ _ ha), fun p1 hp1 => ?_⟩
  rw [cut_to _ hi (by omega)]
  have d1 : (upd H p1 (.lst (xs.take i))) p1 = some (.lst (xs.take i)) := upd_same
  have e1 : Ex [] F H F (upd H p1 (.lst (xs.take i))) := Ex.new hF hp1
  generalize upd H p1 (.lst (xs.take i)) = H2 at d1 e1
  refine rev_cut hj hl e1.fh ha hi hz fun p2 H3 e2 hp2 d2 => ?_
  have d12 := e2.at d1
  refine ⟨p1, p2, _, _, rfl, rfl, d12, d2, by rw [List.length_reverse, List.length_take]; omega, fun p3 hp3 => k p3 _ ((e1.trans e2).trans (Ex.newF e2.fh hp3)) ?_⟩
  cases z : H p3 with
  | none => rfl
  | some o => exact absurd hp3 ((e1.trans e2).dm p3 (ne_none z))
/-- so many of a list's first things, again and again -/
theorem rep_cut {m n : Nat} (hj : σ[j]? = some (some (.ref a))) (hl : σ[l]? = some (some (.int i))) (hm : σ[m]? = some (some (.int n))) (hF : Same F H) (ha : F a = some (.lst xs)) (hi : i ≤ xs.length) (i0 : 0 < i) (hz : xs.length < 1000) (hn : n < 1000)
    (k : ∀ p H', Ex [] F H (upd F p (.lst (List.replicate (n / i) (xs.take i)).flatten)) H' → H p = none → Q (.ref p) H') : tOp rRep (tSl (rSlL K) (tVar j) tNoPart (tPart (tVar l))) (tOp RFdiv (tVar m) (tVar l)) σ H Q := by
  have z1 := sizeLine_eq
  refine ⟨_, hj, _, hl, _, rfl, a, _, rfl, SqL.of (hF _ _ ha), fun p1 hp1 => ?_⟩
  rw [cut_to _ hi (by omega)]
  have d1 : (upd H p1 (.lst (xs.take i))) p1 = some (.lst (xs.take i)) := upd_same
  have e1 : Ex [] F H F (upd H p1 (.lst (xs.take i))) := Ex.new hF hp1
  generalize upd H p1 (.lst (xs.take i)) = H2 at d1 e1
  have ed : ((n : Int)).fdiv (i : Int) = ((n / i : Nat) : Int) := by
    rw [Int.fdiv_eq_ediv_of_nonneg _ (by omega)]
    rfl
  have hdl : n / i ≤ n := Nat.div_le_self _ _
  have c0 : CDivN (n : Int) (i : Int) := ⟨by omega, by omega⟩
  generalize n / i = g at ed hdl k
  refine ⟨_, hm, _, hl, _, _, rfl, rfl, c0, ?_⟩
  · dsimp only
    rw [ed]
    refine ⟨p1, _, _, rfl, rfl, d1, by omega, by omega, ?_, fun p2 hp2 => ?_⟩
    · have : (xs.take i).length * ((g : Nat) : Int).toNat ≤ 1000 * 1000 := Nat.mul_le_mul (by rw [List.length_take]; omega) (by omega)
      omega
    · have et : (((g : Nat) : Int)).toNat = g := by omega
      rw [et]
      refine k p2 _ (e1.trans (Ex.newF e1.fh hp2)) ?_
      cases z : H p2 with
      | none => rfl
      | some o => exact absurd hp2 (e1.dm p2 (ne_none z))
end
end Ly

/-! list(range(a, b, c)) -/
namespace Ly
open PySem PySem.Spec PyProof.Rows L2
def rgVC (i c : Int) (n : Nat) : List V := (List.range n).map fun t => V.int (i + (t : Nat) * c)
def tLstRg3 (ta : TA) : TE := fun σ H Q => ta σ H fun vs H1 => ∃ (i j c : Int) (n : Nat), vs = [.int i, .int j, .int c] ∧ RgC i j c n ∧ n ≤ 2 ^ 24 ∧ ∀ q, H1 q = none → Q (.ref q) (upd H1 q (.lst (rgVC i c n)))
theorem vals_rgC {i c : Int} {n : Nat} {acc : Array Value} (h : ItemsOf (fun t v => ∃ tk, v = .int (i + t * c) tk) acc n) : Vals (rgVC i c n) acc.toList := by
  have e : acc.toList.length = n := by rw [Array.length_toList]; exact h.1
  unfold rgVC
  rw [← e]
  refine vals_of_get acc.toList _ fun j u hj => ?_
  obtain ⟨tk, rfl⟩ := h.2 j u (by rw [← hj, Array.getElem?_toList])
  exact ⟨tk, rfl⟩
theorem pe_listRg3 {X : Cx} {a b c : Expr} {ta : TA} {p pos p2 pos2 : Pos} (hc : X.calm = true) (hg : Gl X "list") (hm : X.mg "list" = none) (gr : Gl X "range") (mr : X.mg "range" = none) (ha : PA X [a, b, c] ta)
    (hs : starEach [a, b, c] X.env = (false, eval a X.env) :: starEach [b, c] X.env := by rfl) (hpl : (backTo pos2 (starEach [b, c] X.env)).any (·.1) = false := by rfl)
    (na : starEach [.Call (.Name "range" p2) [a, b, c] [] pos2] X.env = (false, eval (.Call (.Name "range" p2) [a, b, c] [] pos2) X.env) :: starEach [] X.env := by rfl) :
    PE X (.Call (.Name "list" p) [.Call (.Name "range" p2) [a, b, c] [] pos2] [] pos) (tLstRg3 ta) := by
  refine ⟨fun pn s τ H Q J h => ?_⟩
  refine Call_ (ld_blt J hg hm boot_list (PyProof.Rows.callWith_type1 (args_cons (thn (Q := fun x s' => ∃ r i j k n t u v H', x = .ref r ∧ IsRange s'.heap r i j k t u v ∧ L2.Inv X pn τ H' s' ∧ RgC i j k n ∧ n ≤ 2 ^ 24 ∧ ∀ q, H' q = none → Q (.ref q) (upd H' q (.lst (rgVC i k n)))) ?_ fun x s1 ⟨r, i, j, k, n, t, u, v, H1, ex, hr, J1, ok, hn, q⟩ => args_nil ?_) na) na))
  · refine Call_ (ld_blt J gr mr boot_range (PyProof.Rows.callWith_type1 (thn (ha.run pos2 pn s τ H _ J h) fun us s1 ⟨vs, H1, J1, r1, q1⟩ => ?_) hs hpl))
    obtain ⟨i, j, k, n, e, ok, hn, q⟩ := q1
    subst e
    cases r1 with
    | cons r rr =>
      cases rr with
      | cons r' rr =>
        cases rr with
        | cons r'' rr =>
          cases rr
          obtain ⟨t, rfl⟩ := r
          obtain ⟨t', rfl⟩ := r'
          obtain ⟨t'', rfl⟩ := r''
          exact call_range_3 ok.1 ⟨_, i, j, k, n, _, _, _, H1, rfl, IsRange.new _ _ _ _ _ _ _, J1.kept fun b u e => Heap.get?_push_of_some _ e, ok, hn, q⟩ (.inl (PyProof.noPylong_small ok.2.1))
  · subst ex
    refine call_list_range (n := n) (J1.ok.hd hc) hr ok.2.2.1 ok.2.2.2 hn fun h' tk acc c' hk e' hi => ?_
    refine ⟨.ref s1.heap.objs.size, upd H1 s1.heap.objs.size (.lst (rgVC i k n)), J1.laid hk (Nat.le_refl _) (show ObjOk X.prog X.w _ _ _ (.lst (rgVC i k n)) from ⟨?_, acc.toList, c', vals_rgC hi, ?_⟩), rfl, q _ (J1.hok.fresh (Nat.le_refl _))⟩
    · unfold rgVC
      rw [List.length_map, List.length_range, sizeLine_eq]
      omega
    · rw [Array.toArray_toList]
      exact e'
theorem rgC_pos {k n p : Nat} (hp : 0 < p) (h0 : 0 < n) (hd : p ∣ n) (hk : k < p) (hn : n < 100000) : RgC (k : Int) (n : Int) (p : Int) (n / p) := by
  have hle := Nat.le_of_dvd h0 hd
  have hsz : Builtin.Range.rangeSize (k : Int) (n : Int) (p : Int) = ((n / p : Nat) : Int) := by
    obtain ⟨m, rfl⟩ := hd
    have m0 : 0 < m := by
      rcases Nat.eq_zero_or_pos m with z | z
      · subst z; simp at h0
      · exact z
    unfold Builtin.Range.rangeSize
    have lt : k < p * m := by omega
    rw [if_pos (by omega), if_pos (by omega), Nat.mul_div_cancel_left m hp]
    have e : (((p * m : Nat) : Int) - (k : Int) - 1) = ((p * m - k - 1 : Nat) : Int) := by omega
    rw [e, ← Int.natCast_ediv]
    have : (p * m - k - 1) / p = m - 1 := by
      obtain ⟨j, rfl⟩ : ∃ j, m = j + 1 := ⟨m - 1, by omega⟩
      have e2 : p * (j + 1) - k - 1 = (p - k - 1) + p * j := by rw [Nat.mul_succ]; omega
      rw [e2, Nat.add_mul_div_left _ _ hp, Nat.div_eq_of_lt (by omega)]
      omega
    rw [this]
    omega
  have hq : n / p ≤ n := Nat.div_le_self _ _
  refine ⟨by omega, by omega, ?_, hsz⟩
  unfold Builtin.Range.small
  rw [hsz]
  generalize n / p = g at hq
  simp only [Builtin.Range.rangeFitsLong, Bool.and_eq_true, Bool.or_eq_true, decide_eq_true_eq, beq_iff_eq, if_pos (show (p : Int) > 0 by omega)]
  omega
end Ly

/-! long rings: all alike but one; two by turns and one more -/
namespace Ly
open PySem PySem.Spec PyProof.Rows L2
section
variable {A B C : W} {n a h : Nat}
theorem one_get {j : Nat} (hj : j < n) : ((List.replicate n A).set a B)[j]? = some (if j = a then B else A) := by
  rw [List.getElem?_set]
  by_cases e : a = j
  · subst e
    simp [hj]
  · have e2 : ¬ j = a := fun z => e z.symm
    simp [e, e2, hj]
theorem one_at (ha : a < n) {i : Int} (h : (n : Int) ∣ i - a) : cyc ((List.replicate n A).set a B) i = B := by
  obtain ⟨k, hk⟩ := h
  have e : i = (a : Int) + (((List.replicate n A).set a B).length : Int) * k := by
    rw [List.length_set, List.length_replicate]
    omega
  rw [e, cyc_mul]
  refine cyc_get ?_
  rw [one_get ha, if_pos rfl]
theorem one_off (n0 : 0 < n) {i : Int} (h : ¬ (n : Int) ∣ i - a) : cyc ((List.replicate n A).set a B) i = A := by
  have r1 := Int.emod_nonneg i (b := (n : Int)) (by omega)
  have r2 := Int.emod_lt_of_pos i (b := (n : Int)) (by omega)
  obtain ⟨m, hm⟩ := Int.eq_ofNat_of_zero_le r1
  have hl : ((List.replicate n A).set a B).length = n := by simp
  have e : cyc ((List.replicate n A).set a B) i = cyc ((List.replicate n A).set a B) (m : Int) := by
    rw [← cyc_mod, hl, hm]
  rw [e]
  refine cyc_get ?_
  have hne : ¬ m = a := fun z => h ⟨i / n, by have := Int.emod_add_mul_ediv i n; omega⟩
  rw [one_get (by omega), if_neg hne]
theorem no_dvd {n : Nat} {x : Int} (h1 : 0 < x) (h2 : x < n) : ¬ (n : Int) ∣ x := fun z => by
  have := Int.le_of_dvd h1 z
  omega
theorem one_per (hAB : A ≠ B) (ha : a < n) : IsPer ((List.replicate n A).set a B) n := by
  have hl : ((List.replicate n A).set a B).length = n := by simp
  obtain ⟨p, P⟩ := isPer_ex (ks := (List.replicate n A).set a B) (by rw [hl]; omega)
  have hd := P.dvd
  rw [hl] at hd
  have hp := P.pos
  have hle := Nat.le_of_dvd (by omega) hd
  have : p = n := by
    rcases Nat.lt_or_ge p n with z | z
    · exfalso
      have h1 := P.per (a : Int)
      rw [one_at ha (i := (a : Int)) (by simp), one_off (by omega)] at h1
      · exact hAB h1
      · have e : (a : Int) + p - a = p := by omega
        rw [e]
        exact no_dvd (by omega) (by omega)
    · omega
  rwa [this] at P
theorem one_L (hAB : A ≠ B) (ha : a < n) (n3 : 3 ≤ n) {L : Nat} (l : IsL ((List.replicate n A).set a B) L) : L = n - 2 := by
  have hl : ((List.replicate n A).set a B).length = n := by simp
  have h1 := isL_le (one_per hAB ha) (by rw [hl]; omega) l
  have h2 : n - 2 ≤ L := l.max ((a : Int) - 1) ((a : Int) - 2) (n - 2) ⟨fun t ht => by
    rw [one_off (by omega), one_off (by omega)]
    · intro z
      have := Int.dvd_neg.mpr z
      have e : -((a : Int) - 2 - t - a) = 2 + t := by omega
      rw [e] at this
      exact no_dvd (by omega) (by omega) this
    · intro z
      have := Int.dvd_neg.mpr z
      have e : -((a : Int) - 1 - t - a) = 1 + t := by omega
      rw [e] at this
      exact no_dvd (by omega) (by omega) this, by
    rw [one_off (by omega), one_at ha]
    · exact hAB
    · exact ⟨-1, by omega⟩
    · intro z
      have := Int.dvd_neg.mpr z
      have e : -((a : Int) - 1 - ((n - 2 : Nat) : Int) - a) = (n : Int) - 1 := by omega
      rw [e] at this
      exact no_dvd (by omega) (by omega) this⟩
  omega
def turnsW (B C : W) (h : Nat) : List W := (List.replicate h [B, C]).flatten ++ [B]
theorem turns_len (h : Nat) : (turnsW B C h).length = 2 * h + 1 := by
  unfold turnsW
  simp
  omega
theorem turns_get : ∀ {h j : Nat}, j ≤ 2 * h → (turnsW B C h)[j]? = some (if j % 2 = 0 then B else C)
  | 0, j, hj => by
    have : j = 0 := by omega
    subst this
    rfl
  | h + 1, j, hj => by
    have e : turnsW B C (h + 1) = B :: C :: turnsW B C h := by
      unfold turnsW
      rw [List.replicate_succ, List.flatten_cons]
      rfl
    rw [e]
    match j, hj with
    | 0, _ => rfl
    | 1, _ => rfl
    | j + 2, hj =>
      have := turns_get (h := h) (j := j) (by omega)
      have e2 : (j + 2) % 2 = j % 2 := by omega
      rw [e2, ← this]
      rfl
theorem turns_cyc {j : Nat} (hj : j ≤ 2 * h) : cyc (turnsW B C h) (j : Int) = if j % 2 = 0 then B else C := cyc_get (turns_get hj)
theorem turns_per (hBC : B ≠ C) : IsPer (turnsW B C h) (2 * h + 1) := by
  have hl := turns_len (B := B) (C := C) h
  obtain ⟨p, P⟩ := isPer_ex (ks := turnsW B C h) (by rw [hl]; omega)
  have hd := P.dvd
  rw [hl] at hd
  have hp := P.pos
  have hle := Nat.le_of_dvd (by omega) hd
  have : p = 2 * h + 1 := by
    rcases Nat.lt_or_ge p (2 * h + 1) with z | z
    · exfalso
      have h1 := P.per 0
      have e0 := turns_cyc (B := B) (C := C) (h := h) (j := 0) (by omega)
      have e1 := turns_cyc (B := B) (C := C) (h := h) (j := p) (by omega)
      have e2 : (0 : Int) + p = (p : Int) := by omega
      rw [e2, e1] at h1
      have e0' : cyc (turnsW B C h) 0 = B := e0
      rw [e0'] at h1
      by_cases ev : p % 2 = 0
      · obtain ⟨k, hk⟩ := hd
        have : p = 2 * (p / 2) := by omega
        rw [this, Nat.mul_assoc] at hk
        omega
      · rw [if_neg ev] at h1
        exact hBC h1.symm
    · omega
  rwa [this] at P
theorem turns_L (hBC : B ≠ C) (h1 : 1 ≤ h) {L : Nat} (l : IsL (turnsW B C h) L) : L = 2 * h - 1 := by
  have hl := turns_len (B := B) (C := C) h
  have u := isL_le (turns_per hBC) (by rw [hl]; omega) l
  have d : 2 * h - 1 ≤ L := l.max (2 * h : Nat) ((2 * h - 2 : Nat)) (2 * h - 1) ⟨fun t ht => by
    have e1 : ((2 * h : Nat) : Int) - t = ((2 * h - t : Nat) : Int) := by omega
    have e2 : ((2 * h - 2 : Nat) : Int) - t = ((2 * h - 2 - t : Nat) : Int) := by omega
    rw [e1, e2, turns_cyc (by omega), turns_cyc (by omega)]
    have : (2 * h - t) % 2 = (2 * h - 2 - t) % 2 := by omega
    rw [this], by
    have e1 : ((2 * h : Nat) : Int) - ((2 * h - 1 : Nat) : Int) = ((1 : Nat) : Int) := by omega
    have e2 : ((2 * h - 2 : Nat) : Int) - ((2 * h - 1 : Nat) : Int) = ((2 * h : Nat) : Int) + ((turnsW B C h).length : Int) * (-1) := by rw [hl]; omega
    rw [e1, e2, cyc_mul, turns_cyc (by omega), turns_cyc (by omega)]
    have q1 : ¬ 1 % 2 = 0 := by omega
    have q2 : 2 * h % 2 = 0 := by omega
    rw [if_neg q1, if_pos q2]
    exact fun z => hBC z.symm⟩
  omega
end
end Ly

/-! repr of lists and tuples, where nothing is under way -/
namespace Ly
open PySem PySem.Spec PyProof.Rows L2
def rReprD (K : PySem.W.Frag) : List V → Hp → VK → Prop := fun vs H Q => ∃ (a : Addr) (d : PyData), vs = [.ref a] ∧ Dp K H (.ref a) d ∧ d.showable = true ∧ d.hasDict = false ∧ d.depth ≤ 60 ∧ d.shown.length ≤ sizeLine ∧ Q (.str d.shown) H
theorem call_reprD {X : Cx} (hg : X.A.guards = some []) (hu : X.A.units + 64 < cLine) : CallR X (.builtin "repr") (rReprD X.K) := by
  intro pn s τ H vs us Q J r h
  obtain ⟨a, d, rfl, hd, hs, hn, hp, hz, q⟩ := h
  cases r with
  | cons rx rt =>
    cases rt
    cases rx
    obtain ⟨as, rd⟩ := Dp.reads J d (.ref a) (.ref a) hd rfl
    exact repr_of_reads' rd hs (PyData.noDict_hsm hn) hg (by omega) (fun b o e => e) (fun h' u tk hk => ⟨.str d.shown, H, J.kept hk, ⟨_, rfl⟩, q⟩) hz
end Ly

/-! the end of a law whose own body asks for repr: the law is entered at the claim's caller, where nothing is under way -/
namespace Ly
open PySem PySem.Spec PyProof.Rows L2
/-- a def, entered at one place -/
theorem enter_at {CX : CXT} {P : Program} {w : World} {K : PySem.W.Frag} {mg : Str → Option Value} {base : Heap} {k : Nat} {f : Addr} {x q : Str} {params : Arguments} {body : List Stmt} {scope : Scope} {dV kV doc pm cdv ct oc : Value} {an od : Option Addr}
    {osl : Array (Option Value)} {N ps : List Str} {B : Around} {outer : List Env} {s : Shared} {H : Hp} {args : Args} {us : List Value} {vs : List V} {Q : VK} {E : XK}
    (lk : K.lookup f = some ⟨oc, od, .func (PySem.W.fnOf x q params body scope dV kV doc pm an cdv ct), osl⟩) (code : PySem.W.codeIn K cdv q = true) (S : FnScope N ps scope) (room : Room (k + 1) B) (e0 : Env0 P w K mg base B outer s H)
    (bind : BindsTo s (PySem.W.fnOf x q params body scope dV kV doc pm an cdv ct) args (ps.zip us)) (rv : Vals vs us) (len : vs.length = ps.length)
    (go : ∃ t, PSs (cxOf CX P w K mg base N q scope f cdv B outer s H E) body t ∧ t { nx := fun _ H' => Q .non H', rt := Q } (start N vs) H) :
    codeAny (model P w) B (.call (.ref f) args) (CR CX outer P w H s Q E) s := by
  obtain ⟨t, read, due⟩ := go
  have stays : ∀ b o, base.get? b = some o → s.heap.get? b = some o := fun b o e => (e0.bs b o e).1
  have inK : K.In s.heap := e0.mod.kin.keeps stays
  have kinds : ∀ y ∈ ps.zip us, scope.names.lookup y.1 = some .local ∨ (scope.names.lookup y.1 = some .cell ∧ ((cellsFrom (s.heap.objs.size + 1) scope.names []).lookup y.1).isSome = true) := by
    rintro ⟨n, v⟩ hy
    exact (S.par n (List.of_mem_zip hy).1).imp id fun c => ⟨c, PySem.W.cellsFrom_some _ _ _ (.inl c)⟩
  refine codeAny_call_function room.depth (inK _ _ lk) rfl S.co S.gen rfl (PySem.W.codeRec_of inK code) (bind _ _ _ _ (wpAny_newFunctionEnv_cells S.kind kinds fun env he s1 frame => ?_))
  subst he
  refine ⟨(e0.mod.nolimit.keeps stays).keeps frame.toInCall.keep, codeAny_func (wpAny_mono (read.run [] s1 (start N vs) H _ (inv_start S room.hd e0 len rv frame) due) (fun fl s2 hs => ?_) fun e s2 hs => hs)⟩
  cases fl with
  | next =>
    obtain ⟨τ, H', J, z⟩ := hs
    exact ⟨V.non, H', J.os, J.bare, J.base, J.hok, rfl, z⟩
  | ret u =>
    obtain ⟨v, τ, H', J, rr, z⟩ := hs
    exact ⟨v, H', J.os, J.bare, J.base, J.hok, rr, z⟩
  | brk => exact hs.choose_spec.choose_spec.2.elim
  | cont => exact hs.choose_spec.choose_spec.2.elim
end Ly

namespace Ly
open PySem PySem.Spec PyProof.Rows L2
/-- the script alone is known -/
def scriptH (a : Addr) (vs : List Value) (ns : List Int) : Hp := fun b => if b = a then some (.frz { cls := .type "list", data := .seq vs.toArray } (.lst (ns.map V.int))) else none
theorem scriptH_at {a : Addr} {vs : List Value} {ns : List Int} : scriptH a vs ns a = some (.frz { cls := .type "list", data := .seq vs.toArray } (.lst (ns.map V.int))) := if_pos rfl
theorem scriptH_some {a b : Addr} {vs : List Value} {ns : List Int} {o : HO} (h : scriptH a vs ns b = some o) : b = a ∧ o = .frz { cls := .type "list", data := .seq vs.toArray } (.lst (ns.map V.int)) := by
  unfold scriptH at h
  split at h
  · rename_i e
    exact ⟨e, (Option.some.inj h).symm⟩
  · cases h
section
variable {P : Program} {w : World} {K : PySem.W.Frag} {mg mb : Str → Option Value} {fa a : Addr} {s : Shared} {vs : List Value} {ns : List Int}
/-- what a law's call leaves, from what its def promises at an abstract heap that knows no more than the script -/
theorem after_call {H : Hp} (known : ∀ b o, H b = some o → b = a ∧ o = .frz { cls := .type "list", data := .seq vs.toArray } (.lst (ns.map V.int))) (hok : HOk P w H s.heap) {r : Result} {s2 : Shared}
    (h : CR CX0 [] P w H s (fun v _ => v = .bl true) (fun _ _ _ => False) r s2) : r = .ok (.ret (.bool true)) ∧ OldK s.heap s2.heap ∧ s2.os = s.os ∧ AllBare s2.gens := by
  match r, h with
  | .error e, h => exact (show False from h).elim
  | .ok .next, h => exact (show False from h).elim
  | .ok .brk, h => exact (show False from h).elim
  | .ok .cont, h => exact (show False from h).elim
  | .ok (.ret u), h =>
    obtain ⟨v, H2, os, bare, un, ok2, rv, ev⟩ := h
    obtain rfl : v = .bl true := ev
    obtain rfl : u = Value.bool true := rv
    refine ⟨rfl, OldK.of_keep fun b o e => ?_, os, bare⟩
    have no : b ∉ frs [] := fun z => absurd (show b ∈ ([] : List Addr) from z) (by simp)
    cases hb : H b with
    | none => exact un.keep b o e hb no (by simp)
    | some z =>
      obtain ⟨_, rfl⟩ := known b z hb
      have g1 := (hok b _ hb).1
      have g2 := (ok2 b _ (un.frzs b _ _ hb)).1
      rw [e] at g1
      cases g1
      exact g2
theorem env_of {H : Hp} (known : ∀ b o, H b = some o → b = a ∧ o = .frz { cls := .type "list", data := .seq vs.toArray } (.lst (ns.map V.int))) (free : H a ≠ none → K.lookup a = none) (hok : HOk P w H s.heap)
    (KX : K.In s.heap) (hns : s.heap.Ns mainGlobals mg) (hb : s.heap.Ns builtinsNs mb) (hbb : ∀ x : Str, x ≠ "__name__" → mb x = bootBuiltins x) (hlim : s.heap.NoLimit) (hg : s.gens = #[])
    (ha : s.heap.get? a = some { cls := .type "list", data := .seq vs.toArray }) : Env0 P w K mg (hidT s.heap H) callerA [] s H := by
  have un : ∀ {b : Addr} {o : Obj} {es : Array DictEntry} {ep : Nat}, s.heap.get? b = some o → o.data = .dict es ep → H b = none := by
    intro b o es ep e d
    rcases hz : H b with _ | z
    · rfl
    · obtain ⟨rfl, _⟩ := known b z hz
      rw [ha] at e
      obtain rfl := Option.some.inj e
      exact nomatch (show Data.seq vs.toArray _ = Data.dict es ep from d)
  have carry : ∀ {b : Addr} {m : Str → Option Value}, s.heap.Ns b m → (hidT s.heap H).Ns b m := by
    rintro b m ⟨o, es, ep, e, d, t⟩
    exact ⟨o, es, ep, hidT_get e (un e d), d, t⟩
  have kin : K.In (hidT s.heap H) := by
    intro b o e
    refine hidT_get (KX b o e) ?_
    rcases hz : H b with _ | z
    · rfl
    · obtain ⟨rfl, _⟩ := known b z hz
      rw [free (by rw [hz]; simp)] at e
      cases e
  obtain ⟨mc, l1, l2⟩ := hlim
  exact { frames := rfl, mod := ⟨kin, carry hns, ⟨mb, carry hb, hbb⟩, ⟨mc, carry l1, l2⟩⟩, bs := fun b o e => of_hidT e, bsz := Nat.le_of_eq (hidT_size _ _), funs := trivial, frf := fun b z => absurd (show b ∈ ([] : List Addr) from z) (by simp), hok := hok, bare := .of_eq hg }
theorem law_enter (KX : K.In s.heap) (hns : s.heap.Ns mainGlobals mg) (hb : s.heap.Ns builtinsNs mb) (hbb : ∀ x : Str, x ≠ "__name__" → mb x = bootBuiltins x) (hlim : s.heap.NoLimit) (hg : s.gens = #[])
    (ha : s.heap.get? a = some { cls := .type "list", data := .seq vs.toArray }) (hi : IntsAre vs ns) (hl : ns.length ≤ sizeLine)
    (run : ∀ H : Hp, SqL K H a (ns.map V.int) → Env0 P w K mg (hidT s.heap H) callerA [] s H → codeAny (model P w) callerA (.call (.ref fa) ⟨[.ref a], []⟩) (CR CX0 [] P w H s (fun v _ => v = .bl true) (fun _ _ _ => False)) s) :
    codeAny (model P w) callerA (.call (.ref fa) ⟨[.ref a], []⟩) (fun r s' => r = .ok (.ret (.bool true)) ∧ OldK s.heap s'.heap ∧ s'.os = s.os ∧ AllBare s'.gens) s := by
  have rv := vals_ints hi
  have sz := hi.length
  have key : ∀ H : Hp, (∀ b o, H b = some o → b = a ∧ o = .frz { cls := .type "list", data := .seq vs.toArray } (.lst (ns.map V.int))) → (H a ≠ none → K.lookup a = none) → HOk P w H s.heap → SqL K H a (ns.map V.int) → codeAny (model P w) callerA (.call (.ref fa) ⟨[.ref a], []⟩) (fun r s' => r = .ok (.ret (.bool true)) ∧ OldK s.heap s'.heap ∧ s'.os = s.os ∧ AllBare s'.gens) s :=
    fun H known free hok sq => codeAny_mono (run H sq (env_of known free hok KX hns hb hbb hlim hg ha)) fun r s2 h => after_call known hok h
  rcases hk : K.lookup a with _ | o
  · refine key (scriptH a vs ns) (fun b o h => scriptH_some h) (fun _ => hk) (fun b u h => ?_) (.inl (.inr ⟨_, scriptH_at⟩))
    obtain ⟨rfl, rfl⟩ := scriptH_some h
    exact ⟨ha, by rw [List.length_map]; exact hl, vs, _, rv, ha⟩
  · have e := KX a o hk
    rw [ha] at e
    cases e
    exact key (fun _ => none) (fun b o h => nomatch h) (fun z => absurd rfl z) (fun b u h => nomatch h) (.inr ⟨_, vs.toArray, _, hk, rfl, rfl, rfl, by rw [List.size_toArray, sz]; exact hl, by simpa using rv⟩)
end
end Ly

/-! words out of a few, displayed -/
namespace Ly
open PySem PySem.Spec PyProof.Rows L2
def menu : List W := [.text "a", .text "b", .text "aa", .text "", .num 0, .tup [.text "a"]]
def okM (F : Hp) (v : V) : Prop := ∃ k : W, k ∈ menu ∧ Wk F k v
theorem okM.up {F F2 : Hp} {v : V} (h : Same F F2) (x : okM F v) : okM F2 v := by
  obtain ⟨k, a, b⟩ := x
  exact ⟨k, a, b.up h⟩
theorem menu_all {p : W → Prop} (h1 : p (.text "a")) (h2 : p (.text "b")) (h3 : p (.text "aa")) (h4 : p (.text "")) (h5 : p (.num 0)) (h6 : p (.tup [.text "a"])) : ∀ k ∈ menu, p k := fun k hk => by
  simp only [menu, List.mem_cons, List.not_mem_nil, or_false] at hk
  rcases hk with z | z | z | z | z | z <;> (rw [z]; assumption)
theorem menu_wok : ∀ k ∈ menu, Wok k := menu_all ⟨rfl, by decide +kernel, by decide +kernel⟩ ⟨rfl, by decide +kernel, by decide +kernel⟩ ⟨rfl, by decide +kernel, by decide +kernel⟩ ⟨rfl, by decide +kernel, by decide +kernel⟩ ⟨rfl, by decide +kernel, by decide +kernel⟩ ⟨by decide +kernel, by decide +kernel, by decide +kernel⟩
theorem okMs_words {F : Hp} : ∀ {vs : List V}, (∀ v ∈ vs, okM F v) → ∃ ks : List W, Wks F ks vs ∧ ∀ k ∈ ks, k ∈ menu
  | [], _ => ⟨[], Wks.nil, by simp⟩
  | v :: vs, h => by
    obtain ⟨k, a, b⟩ := h v (by simp)
    obtain ⟨ks, c, d⟩ := okMs_words (vs := vs) fun x hx => h x (by simp [hx])
    refine ⟨k :: ks, Wks.cons b c, fun z hz => ?_⟩
    rcases List.mem_cons.mp hz with e | e
    · rw [e]; exact a
    · exact d z e
def okLM (F : Hp) (v : V) : Prop := ∃ (a : Addr) (xs : List V), v = .ref a ∧ F a = some (.lst xs) ∧ 0 < xs.length ∧ xs.length < 100 ∧ ∀ x ∈ xs, okM F x
theorem okLM.up {F F2 : Hp} {v : V} (h : Same F F2) (x : okLM F v) : okLM F2 v := by
  obtain ⟨a, xs, e, h1, h2, h3, h4⟩ := x
  exact ⟨a, xs, e, h _ _ h1, h2, h3, fun y hy => (h4 y hy).up h⟩
def EvM (te : TE) : Prop := ∀ (σ : L2.St) (F H : Hp) (Q : VK), Same F H → (∀ v F1 H1, Ex [] F H F1 H1 → okM F1 v → Q v H1) → te σ H Q
def EvMs (ts : TA) (n : Nat) : Prop := ∀ (σ : L2.St) (F H : Hp) (R : List V → Hp → Prop), Same F H → (∀ xs F1 H1, Ex [] F H F1 H1 → xs.length = n → (∀ x ∈ xs, okM F1 x) → R xs H1) → ts σ H R
def EvLMs (ts : TA) (n : Nat) : Prop := ∀ (σ : L2.St) (F H : Hp) (R : List V → Hp → Prop), Same F H → (∀ xs F1 H1, Ex [] F H F1 H1 → xs.length = n → (∀ x ∈ xs, okLM F1 x) → R xs H1) → ts σ H R
theorem em_zero : EvM (tC (.int 0)) := fun σ F H Q hF k => k _ F H (Ex.refl hF) ⟨.num 0, by simp [menu], wk_num.mpr rfl⟩
theorem em_str {s : Str} (h : NestedKey.text s ∈ menu := by simp [menu]) : EvM (tC (.str s)) := fun σ F H Q hF k => k _ F H (Ex.refl hF) ⟨.text s, h, wk_text.mpr rfl⟩
theorem em_tupa : EvM (tTup (tCons (tC (.str "a")) tNil)) := fun σ F H Q hF k =>
  ⟨by show 1 ≤ sizeLine; decide, fun p hp => k _ _ _ (Ex.newF hF hp) ⟨.tup [.text "a"], by simp [menu], wk_new (Same.free hF hp) (Wks.one (wk_text.mpr rfl)) (by decide)⟩⟩
theorem em_nil : EvMs tNil 0 := fun σ F H R hF k => k [] F H (Ex.refl hF) rfl (by simp)
theorem em_cons {te : TE} {ts : TA} {n : Nat} (h1 : EvM te) (h2 : EvMs ts n) : EvMs (tCons te ts) (n + 1) := fun σ F H R hF k =>
  r_cons (h1 σ F H _ hF fun v F1 H1 e1 w1 => h2 σ F1 H1 _ e1.fh fun xs F2 H2 e2 l2 w2 => k (v :: xs) F2 H2 (e1.trans e2) (by simp [l2]) fun x hx => by
    rcases List.mem_cons.mp hx with z | z
    · rw [z]; exact w1.up e2.ff
    · exact w2 x z)
theorem eml_nil : EvLMs tNil 0 := fun σ F H R hF k => k [] F H (Ex.refl hF) rfl (by simp)
theorem eml_cons {ts us : TA} {n m : Nat} (h1 : EvMs ts m) (h2 : EvLMs us n) (h0 : 0 < m := by decide) (hm : m < 100 := by decide) : EvLMs (tCons (tLst ts) us) (n + 1) := fun σ F H R hF k =>
  r_cons (r_lst (h1 σ F H _ hF fun xs F1 H1 e1 l1 w1 => ⟨by rw [l1, sizeLine_eq]; omega, fun p hp => by
    have e2 : Ex [] F1 H1 (upd F1 p (.lst xs)) (upd H1 p (.lst xs)) := Ex.newF e1.fh hp
    have ok : okLM (upd F1 p (.lst xs)) (.ref p) := ⟨p, xs, rfl, upd_same, by omega, by omega, fun x hx => (w1 x hx).up e2.ff⟩
    refine h2 σ _ _ _ e2.fh fun ys F3 H3 e3 l3 w3 => k (.ref p :: ys) F3 H3 (e1.trans (e2.trans e3)) (by simp [l3]) fun x hx => ?_
    rcases List.mem_cons.mp hx with z | z
    · rw [z]; exact ok.up e3.ff
    · exact w3 x z⟩))
theorem em_ll {ts : TA} {n : Nat} (h : EvLMs ts n) {σ : L2.St} {F H : Hp} {Q : VK} (hF : Same F H) (k : ∀ a xs F1 H1, Ex [] F H F1 H1 → F1 a = some (.lst xs) → xs.length = n → (∀ x ∈ xs, okLM F1 x) → Q (.ref a) H1) (hn : n < 1000 := by decide) : tLst ts σ H Q :=
  r_lst (h σ F H _ hF fun xs F1 H1 e1 l1 w1 => ⟨by rw [l1, sizeLine_eq]; omega, fun p hp => by
    have e2 : Ex [] F1 H1 (upd F1 p (.lst xs)) (upd H1 p (.lst xs)) := Ex.newF e1.fh hp
    exact k p xs _ _ (e1.trans e2) upd_same l1 fun x hx => (w1 x hx).up e2.ff⟩)
theorem em_l {ts : TA} {n : Nat} (h : EvMs ts n) {σ : L2.St} {F H : Hp} {Q : VK} (hF : Same F H) (k : ∀ a xs F1 H1, Ex [] F H F1 H1 → F1 a = some (.lst xs) → xs.length = n → (∀ x ∈ xs, okM F1 x) → Q (.ref a) H1) (hn : n < 1000 := by decide) : tLst ts σ H Q :=
  r_lst (h σ F H _ hF fun xs F1 H1 e1 l1 w1 => ⟨by rw [l1, sizeLine_eq]; omega, fun p hp => by
    have e2 : Ex [] F1 H1 (upd F1 p (.lst xs)) (upd H1 p (.lst xs)) := Ex.newF e1.fh hp
    exact k p xs _ _ (e1.trans e2) upd_same l1 fun x hx => (w1 x hx).up e2.ff⟩)
/-! ### repr of such words, loosened -/
theorem loose_show {k : W} (hk : k ∈ menu) {d : PyData} (hw : wordy d = true) (ht : toW d = k) : d.showable = true ∧ d.hasDict = false ∧ d.shown.length ≤ 20 := by
  simp only [menu, List.mem_cons, List.not_mem_nil, or_false] at hk
  have at1 : ∀ {e : PyData} {s : Str}, wordy e = true → toW e = .text s → e = .str s := fun {e s} h1 h2 => by
    cases e with
    | str x => simp only [toW] at h2; injection h2 with h2; rw [h2]
    | int i => simp [toW] at h2
    | list ds => simp [toW] at h2
    | tuple ds => simp [toW] at h2
    | none => simp [wordy] at h1
    | bool b => simp [wordy] at h1
    | dict kvs => simp [wordy] at h1
  rcases hk with z | z | z | z | z | z
  · rw [at1 hw (ht.trans z)]; exact ⟨rfl, rfl, by decide +kernel⟩
  · rw [at1 hw (ht.trans z)]; exact ⟨rfl, rfl, by decide +kernel⟩
  · rw [at1 hw (ht.trans z)]; exact ⟨rfl, rfl, by decide +kernel⟩
  · rw [at1 hw (ht.trans z)]; exact ⟨rfl, rfl, by decide +kernel⟩
  · have e := ht.trans z
    cases d with
    | int i => simp only [toW] at e; injection e with e; subst e; exact ⟨by decide +kernel, rfl, by decide +kernel⟩
    | str x => simp [toW] at e
    | list ds => simp [toW] at e
    | tuple ds => simp [toW] at e
    | none => simp [wordy] at hw
    | bool b => simp [wordy] at hw
    | dict kvs => simp [wordy] at hw
  · have e := ht.trans z
    have seq : ∀ {ds : List PyData}, wordys ds = true → toWs ds = [.text "a"] → ds = [.str "a"] := fun {ds} h1 h2 => by
      match ds, h1, h2 with
      | [], _, h2 => simp [toWs] at h2
      | [x], h1, h2 =>
        simp only [toWs] at h2
        injection h2 with h2 _
        simp only [wordys, Bool.and_true] at h1
        rw [at1 h1 h2]
      | x :: y :: r, _, h2 => simp [toWs] at h2
    cases d with
    | list ds =>
      simp only [toW] at e
      injection e with e
      rw [seq (by simpa [wordy] using hw) e]
      exact ⟨by decide +kernel, by decide +kernel, by decide +kernel⟩
    | tuple ds =>
      simp only [toW] at e
      injection e with e
      rw [seq (by simpa [wordy] using hw) e]
      exact ⟨by decide +kernel, by decide +kernel, by decide +kernel⟩
    | int i => simp [toW] at e
    | str x => simp [toW] at e
    | none => simp [wordy] at hw
    | bool b => simp [wordy] at hw
    | dict kvs => simp [wordy] at hw
end Ly

/-! loosened words, read and told -/
namespace Ly
open PySem PySem.Spec PyProof.Rows L2
section
variable {K : PySem.W.Frag} {F H : Hp}
mutual
theorem dd_dp (hF : Same F H) : ∀ {d : PyData} {v : V}, Dd F d v → wordy d = true → Dp K H v d
  | .none, v, _, w => by simp [wordy] at w
  | .bool b, v, _, w => by simp [wordy] at w
  | .dict kvs, v, _, w => by simp [wordy] at w
  | .int i, v, e, _ => by rw [dd_int.mp e]; exact .int i
  | .str s, v, e, _ => by rw [dd_str.mp e]; exact .str s
  | .list ds, v, e, w => by
    obtain ⟨a, vs, rfl, h1, h2, _⟩ := dd_list.mp e
    exact .lst (SqL.of (hF _ _ h1)) (dds_dp hF h2 (by simpa [wordy] using w))
  | .tuple ds, v, e, w => by
    obtain ⟨a, vs, rfl, h1, h2, _⟩ := dd_tuple.mp e
    exact .tup (SqT.of (hF _ _ h1)) (dds_dp hF h2 (by simpa [wordy] using w))
theorem dds_dp (hF : Same F H) : ∀ {ds : List PyData} {vs : List V}, Dds F ds vs → wordys ds = true → DpAll K H vs ds
  | [], vs, e, _ => by
    rw [dds_nil.mp e]
    exact .nil
  | d :: ds, vs, e, w => by
    simp only [Dds] at e
    obtain ⟨v, r, rfl, e2, e3⟩ := e
    simp only [wordys, Bool.and_eq_true] at w
    exact .cons (dd_dp hF e2 w.1) (dds_dp hF e3 w.2)
end
end
theorem loose_all : ∀ {ds : List PyData}, wordys ds = true → (∀ k ∈ toWs ds, k ∈ menu) → PyData.showableAll ds = true ∧ PyData.hasDictAll ds = false ∧ ((PyData.shownAll ds).map (·.length)).sum ≤ 20 * ds.length ∧ (PyData.shownAll ds).length = ds.length
  | [], _, _ => ⟨rfl, rfl, by simp [PyData.shownAll], rfl⟩
  | d :: ds, w, h => by
    simp only [wordys, Bool.and_eq_true] at w
    obtain ⟨a1, a2, a3⟩ := loose_show (h (toW d) (by simp [toWs])) w.1 rfl
    obtain ⟨b1, b2, b3, b4⟩ := loose_all w.2 fun k hk => h k (by simp [toWs, hk])
    refine ⟨by simp [PyData.showableAll, a1, b1], by simp [PyData.hasDictAll, a2, b2], ?_, by simp [PyData.shownAll, b4]⟩
    simp only [PyData.shownAll, List.map_cons, List.sum_cons, List.length_cons]
    omega
/-- a list or a tuple of loosened words, told -/
theorem loose_top {d : PyData} {ds : List PyData} (hd : d = .list ds ∨ d = .tuple ds) (w : wordys ds = true) (h : ∀ k ∈ toWs ds, k ∈ menu) (hl : ds.length ≤ 10) : d.showable = true ∧ d.hasDict = false ∧ d.shown.length ≤ sizeLine := by
  obtain ⟨b1, b2, b3, b4⟩ := loose_all w h
  have z := sizeLine_eq
  rcases hd with rfl | rfl
  · refine ⟨by simpa [PyData.showable] using b1, by simpa [PyData.hasDict] using b2, ?_⟩
    have := listText_len_le (PyData.shownAll ds)
    show (listText (PyData.shownAll ds)).length ≤ sizeLine
    omega
  · refine ⟨by simpa [PyData.showable] using b1, by simpa [PyData.hasDict] using b2, ?_⟩
    have := tupleText_len_le (PyData.shownAll ds)
    show (tupleText (PyData.shownAll ds)).length ≤ sizeLine
    omega
/-- one thing is no longer known to stand -/
def unf (F : Hp) (p : Addr) : Hp := fun b => if b = p then none else F b
theorem unf_at {F : Hp} {p : Addr} : unf F p p = none := if_pos rfl
theorem unf_ne {F : Hp} {p b : Addr} (h : b ≠ p) : unf F p b = F b := if_neg h
theorem Ex.unf {M : List Addr} {F H F' H' : Hp} {p : Addr} (e : Ex M F H F' H') (h : F p = none) : Ex M F H (unf F' p) H' where
  ff := fun b o z => by
    have : b ≠ p := fun q => by rw [q, h] at z; cases z
    rw [unf_ne this]
    exact e.ff b o z
  fh := fun b o z => by
    by_cases q : b = p
    · rw [q, unf_at] at z; cases z
    · rw [unf_ne q] at z; exact e.fh b o z
  hh := e.hh
  dm := e.dm
  fr := fun b z => by
    by_cases q : b = p
    · rw [q, unf_at] at z; exact absurd rfl z
    · rw [unf_ne q] at z; exact e.fr b z
theorem okM.unf {F : Hp} {p : Addr} {xs : List V} {v : V} (hp : F p = some (.lst xs)) (x : okM F v) : okM (unf F p) v := by
  obtain ⟨k, a, b⟩ := x
  refine ⟨k, a, b.mono fun c ys e => ?_⟩
  have : c ≠ p := fun q => by rw [q, hp] at e; cases e
  rw [unf_ne this]
  exact e
end Ly

namespace T3
open PySem PySem.Spec PyProof.Rows L2 Ly
def top (i : Nat) : Stmt := PySem.Challenge.pw_samefromhere_k47_whole_periods_of_rings.main.body.getD i (.Pass ⟨0, 0, 0, 0⟩)
abbrev s_BadRoads_init : Stmt := inClass (top 2) 0
abbrev s_BadSigns_init : Stmt := inClass (top 3) 0
abbrev s_BadTimes_init : Stmt := inClass (top 4) 0
abbrev s_is_list : Stmt := top 7
abbrev s_is_integer : Stmt := top 8
abbrev s_is_number : Stmt := top 9
abbrev s_is_word : Stmt := top 10
abbrev s_as_word : Stmt := top 11
abbrev s_order_key : Stmt := top 12
abbrev s_ascending : Stmt := top 13
abbrev s_each_once : Stmt := top 14
abbrev s_numbered : Stmt := top 15
abbrev s_checked_signs : Stmt := top 17
abbrev s_is_road : Stmt := top 18
abbrev s_checked_roads : Stmt := top 19
abbrev s_Net_init : Stmt := inClass (top 20) 0
abbrev s_Net_signs : Stmt := inClass (top 20) 1
abbrev s_Net_roads : Stmt := inClass (top 20) 2
abbrev s_Net_len : Stmt := inClass (top 20) 3
abbrev s_Net_eq : Stmt := inClass (top 20) 4
abbrev s_one_way_ring : Stmt := top 22
abbrev s_around : Stmt := top 23
abbrev s_period_of : Stmt := top 25
abbrev s_least_period : Stmt := top 26
abbrev s_ring_rounds : Stmt := top 27
abbrev s_first_ranks : Stmt := top 29
abbrev s_next_ranks : Stmt := top 30
abbrev s_ranks_behind : Stmt := top 31
abbrev s_lots_of : Stmt := top 32
abbrev s_kinds_for_ever : Stmt := top 33
abbrev s_rounds_needed : Stmt := top 34
abbrev s_law_r_period : Stmt := top 36
abbrev s_law_r_pattern : Stmt := top 37
abbrev s_law_r_stable : Stmt := top 38
abbrev s_law_start : Stmt := top 39
abbrev s_law_draw : Stmt := top 40
abbrev s_law_pick : Stmt := top 41
abbrev s_law_same : Stmt := top 42
abbrev s_law_loose : Stmt := top 43
abbrev s_law_n_key : Stmt := top 44
abbrev s_law_n_ascending : Stmt := top 45
abbrev s_law_n_in : Stmt := top 46
abbrev s_law_n_numbers : Stmt := top 47
abbrev s_law_n_classes : Stmt := top 48
abbrev s_law_longest : Stmt := top 49
abbrev s_law_one_right : Stmt := top 50
abbrev s_law_long_right : Stmt := top 51
abbrev s_law : Stmt := top 52
abbrev N_BadRoads_init : List Str := ["self", "index"]
theorem sc_BadRoads_init : FnScope N_BadRoads_init ["self", "index"] (defScope s_BadRoads_init) := ⟨rfl, rfl, rfl, by decide +kernel, rfl, by decide +kernel, by decide +kernel⟩
abbrev N_BadSigns_init : List Str := ["self", "index"]
theorem sc_BadSigns_init : FnScope N_BadSigns_init ["self", "index"] (defScope s_BadSigns_init) := ⟨rfl, rfl, rfl, by decide +kernel, rfl, by decide +kernel, by decide +kernel⟩
abbrev N_BadTimes_init : List Str := ["self", "thing"]
theorem sc_BadTimes_init : FnScope N_BadTimes_init ["self", "thing"] (defScope s_BadTimes_init) := ⟨rfl, rfl, rfl, by decide +kernel, rfl, by decide +kernel, by decide +kernel⟩
abbrev N_is_list : List Str := ["thing"]
theorem sc_is_list : FnScope N_is_list ["thing"] (defScope s_is_list) := ⟨rfl, rfl, rfl, by decide +kernel, rfl, by decide +kernel, by decide +kernel⟩
abbrev N_is_integer : List Str := ["thing"]
theorem sc_is_integer : FnScope N_is_integer ["thing"] (defScope s_is_integer) := ⟨rfl, rfl, rfl, by decide +kernel, rfl, by decide +kernel, by decide +kernel⟩
abbrev N_is_number : List Str := ["thing"]
theorem sc_is_number : FnScope N_is_number ["thing"] (defScope s_is_number) := ⟨rfl, rfl, rfl, by decide +kernel, rfl, by decide +kernel, by decide +kernel⟩
abbrev N_is_word : List Str := ["thing", "part"]
theorem sc_is_word : FnScope N_is_word ["thing"] (defScope s_is_word) := ⟨rfl, rfl, rfl, by decide +kernel, rfl, by decide +kernel, by decide +kernel⟩
abbrev N_as_word : List Str := ["thing", "part"]
theorem sc_as_word : FnScope N_as_word ["thing"] (defScope s_as_word) := ⟨rfl, rfl, rfl, by decide +kernel, rfl, by decide +kernel, by decide +kernel⟩
abbrev N_order_key : List Str := ["word", "part"]
theorem sc_order_key : FnScope N_order_key ["word"] (defScope s_order_key) := ⟨rfl, rfl, rfl, by decide +kernel, rfl, by decide +kernel, by decide +kernel⟩
abbrev N_ascending : List Str := ["words"]
theorem sc_ascending : FnScope N_ascending ["words"] (defScope s_ascending) := ⟨rfl, rfl, rfl, by decide +kernel, rfl, by decide +kernel, by decide +kernel⟩
abbrev N_each_once : List Str := ["things", "thing"]
theorem sc_each_once : FnScope N_each_once ["things"] (defScope s_each_once) := ⟨rfl, rfl, rfl, by decide +kernel, rfl, by decide +kernel, by decide +kernel⟩
abbrev N_numbered : List Str := ["words", "number", "word"]
theorem sc_numbered : FnScope N_numbered ["words"] (defScope s_numbered) := ⟨rfl, rfl, rfl, by decide +kernel, rfl, by decide +kernel, by decide +kernel⟩
abbrev N_checked_signs : List Str := ["signs", "index", "sign"]
theorem sc_checked_signs : FnScope N_checked_signs ["signs"] (defScope s_checked_signs) := ⟨rfl, rfl, rfl, by decide +kernel, rfl, by decide +kernel, by decide +kernel⟩
abbrev N_is_road : List Str := ["thing", "many", "end"]
theorem sc_is_road : FnScope N_is_road ["thing", "many"] (defScope s_is_road) := ⟨rfl, rfl, rfl, by decide +kernel, rfl, by decide +kernel, by decide +kernel⟩
abbrev N_checked_roads : List Str := ["roads", "many", "index", "thing"]
theorem sc_checked_roads : FnScope N_checked_roads ["roads", "many"] (defScope s_checked_roads) := ⟨rfl, rfl, rfl, by decide +kernel, rfl, by decide +kernel, by decide +kernel⟩
abbrev N_Net_init : List Str := ["self", "signs", "roads", "sign", "one", "other", "out", "into"]
theorem sc_Net_init : FnScope N_Net_init ["self", "signs", "roads"] (defScope s_Net_init) := ⟨rfl, rfl, rfl, by decide +kernel, rfl, by decide +kernel, by decide +kernel⟩
abbrev N_Net_signs : List Str := ["self"]
theorem sc_Net_signs : FnScope N_Net_signs ["self"] (defScope s_Net_signs) := ⟨rfl, rfl, rfl, by decide +kernel, rfl, by decide +kernel, by decide +kernel⟩
abbrev N_Net_roads : List Str := ["self"]
theorem sc_Net_roads : FnScope N_Net_roads ["self"] (defScope s_Net_roads) := ⟨rfl, rfl, rfl, by decide +kernel, rfl, by decide +kernel, by decide +kernel⟩
abbrev N_Net_len : List Str := ["self"]
theorem sc_Net_len : FnScope N_Net_len ["self"] (defScope s_Net_len) := ⟨rfl, rfl, rfl, by decide +kernel, rfl, by decide +kernel, by decide +kernel⟩
abbrev N_Net_eq : List Str := ["self", "other"]
theorem sc_Net_eq : FnScope N_Net_eq ["self", "other"] (defScope s_Net_eq) := ⟨rfl, rfl, rfl, by decide +kernel, rfl, by decide +kernel, by decide +kernel⟩
abbrev N_one_way_ring : List Str := ["signs", "words", "place"]
theorem sc_one_way_ring : FnScope N_one_way_ring ["signs"] (defScope s_one_way_ring) := ⟨rfl, rfl, rfl, by decide +kernel, rfl, by decide +kernel, by decide +kernel⟩
abbrev N_around : List Str := ["signs", "times", "words"]
theorem sc_around : FnScope N_around ["signs", "times"] (defScope s_around) := ⟨rfl, rfl, rfl, by decide +kernel, rfl, by decide +kernel, by decide +kernel⟩
abbrev N_period_of : List Str := ["row", "many", "step"]
theorem sc_period_of : FnScope N_period_of ["row"] (defScope s_period_of) := ⟨rfl, rfl, rfl, by decide +kernel, rfl, by decide +kernel, by decide +kernel⟩
abbrev N_least_period : List Str := ["signs"]
theorem sc_least_period : FnScope N_least_period ["signs"] (defScope s_least_period) := ⟨rfl, rfl, rfl, by decide +kernel, rfl, by decide +kernel, by decide +kernel⟩
abbrev N_ring_rounds : List Str := ["signs", "words", "found", "many", "one", "other", "alike"]
theorem sc_ring_rounds : FnScope N_ring_rounds ["signs"] (defScope s_ring_rounds) := ⟨rfl, rfl, rfl, by decide +kernel, rfl, by decide +kernel, by decide +kernel⟩
abbrev N_first_ranks : List Str := ["net", "numbers", "sign"]
theorem sc_first_ranks : FnScope N_first_ranks ["net"] (defScope s_first_ranks) := ⟨rfl, rfl, rfl, by decide +kernel, rfl, by decide +kernel, by decide +kernel⟩
abbrev N_next_ranks : List Str := ["net", "ranked", "lots", "rank", "coming", "one", "other", "out", "into", "numbers", "lot"]
theorem sc_next_ranks : FnScope N_next_ranks ["net", "ranked"] (defScope s_next_ranks) := ⟨rfl, rfl, rfl, by decide +kernel, rfl, by decide +kernel, by decide +kernel⟩
abbrev N_ranks_behind : List Str := ["net", "rounds", "ranked", "many", "later"]
theorem sc_ranks_behind : FnScope N_ranks_behind ["net", "rounds"] (defScope s_ranks_behind) := ⟨rfl, rfl, rfl, by decide +kernel, rfl, by decide +kernel, by decide +kernel⟩
abbrev N_lots_of : List Str := ["ranked", "found", "place", "rank"]
theorem sc_lots_of : FnScope N_lots_of ["ranked"] (defScope s_lots_of) := ⟨rfl, rfl, rfl, by decide +kernel, rfl, by decide +kernel, by decide +kernel⟩
abbrev N_kinds_for_ever : List Str := ["net"]
theorem sc_kinds_for_ever : FnScope N_kinds_for_ever ["net"] (defScope s_kinds_for_ever) := ⟨rfl, rfl, rfl, by decide +kernel, rfl, by decide +kernel, by decide +kernel⟩
abbrev N_rounds_needed : List Str := ["net"]
theorem sc_rounds_needed : FnScope N_rounds_needed ["net"] (defScope s_rounds_needed) := ⟨rfl, rfl, rfl, by decide +kernel, rfl, by decide +kernel, by decide +kernel⟩
abbrev N_law_r_period : List Str := ["_law_row", "_law_many", "_law_some", "_law_step", "_law_k"]
theorem sc_law_r_period : FnScope N_law_r_period ["_law_row"] (defScope s_law_r_period) := ⟨rfl, rfl, rfl, by decide +kernel, rfl, by decide +kernel, by decide +kernel⟩
abbrev N_law_r_pattern : List Str := ["_law_stream", "_law_most", "_law_many", "_law_way", "_law_some", "_law_signs", "_law_senses", "_law_k", "_law_step", "_law_half", "_law_sense", "_law_spot"]
theorem sc_law_r_pattern : FnScope N_law_r_pattern ["_law_stream", "_law_most"] (defScope s_law_r_pattern) := ⟨rfl, rfl, rfl, by decide +kernel, rfl, by decide +kernel, by decide +kernel⟩
abbrev N_law_r_stable : List Str := ["_law_net", "_law_signs", "_law_roads", "_law_found", "_law_rounds", "_law_later"]
theorem sc_law_r_stable : FnScope N_law_r_stable ["_law_net"] (defScope s_law_r_stable) := ⟨rfl, rfl, rfl, by decide +kernel, rfl, by decide +kernel, by decide +kernel⟩
abbrev N_law_start : List Str := ["_law_script"]
theorem sc_law_start : FnScope N_law_start ["_law_script"] (defScope s_law_start) := ⟨rfl, rfl, rfl, by decide +kernel, rfl, by decide +kernel, by decide +kernel⟩
abbrev N_law_draw : List Str := ["_law_stream", "_law_many", "_law_cell", "_law_digit", "_law_mixed"]
theorem sc_law_draw : FnScope N_law_draw ["_law_stream", "_law_many"] (defScope s_law_draw) := ⟨rfl, rfl, rfl, by decide +kernel, rfl, by decide +kernel, by decide +kernel⟩
abbrev N_law_pick : List Str := ["_law_stream", "_law_some"]
theorem sc_law_pick : FnScope N_law_pick ["_law_stream", "_law_some"] (defScope s_law_pick) := ⟨rfl, rfl, rfl, by decide +kernel, rfl, by decide +kernel, by decide +kernel⟩
abbrev N_law_same : List Str := ["_law_found", "_law_due", "_law_x", "_law_y"]
theorem sc_law_same : FnScope N_law_same ["_law_found", "_law_due"] (defScope s_law_same) := ⟨rfl, rfl, rfl, by decide +kernel, rfl, by decide +kernel, by decide +kernel⟩
abbrev N_law_loose : List Str := ["_law_stream", "_law_thing", "_law_found", "_law_part"]
theorem sc_law_loose : FnScope N_law_loose ["_law_stream", "_law_thing"] (defScope s_law_loose) := ⟨rfl, rfl, rfl, by decide +kernel, rfl, by decide +kernel, by decide +kernel⟩
abbrev N_law_n_key : List Str := ["_law_word", "_law_part"]
theorem sc_law_n_key : FnScope N_law_n_key ["_law_word"] (defScope s_law_n_key) := ⟨rfl, rfl, rfl, by decide +kernel, rfl, by decide +kernel, by decide +kernel⟩
abbrev N_law_n_ascending : List Str := ["_law_words"]
theorem sc_law_n_ascending : FnScope N_law_n_ascending ["_law_words"] (defScope s_law_n_ascending) := ⟨rfl, rfl, rfl, by decide +kernel, rfl, by decide +kernel, by decide +kernel⟩
abbrev N_law_n_in : List Str := ["_law_roads", "_law_place", "_law_road"]
theorem sc_law_n_in : FnScope N_law_n_in ["_law_roads", "_law_place"] (defScope s_law_n_in) := ⟨rfl, rfl, rfl, by decide +kernel, rfl, by decide +kernel, by decide +kernel⟩
abbrev N_law_n_numbers : List Str := ["_law_lots", "_law_known", "_law_lot"]
theorem sc_law_n_numbers : FnScope N_law_n_numbers ["_law_lots"] (defScope s_law_n_numbers) := ⟨rfl, rfl, rfl, by decide +kernel, rfl, by decide +kernel, by decide +kernel⟩
abbrev N_law_n_classes : List Str := ["_law_signs", "_law_roads", "_law_rounds", "_law_found", "_law_turn", "_law_lots", "_law_place", "_law_number", "_law_heard", "_law_one", "_law_other", "_law_out", "_law_into"]
theorem sc_law_n_classes : FnScope N_law_n_classes ["_law_signs", "_law_roads", "_law_rounds"] (defScope s_law_n_classes) := ⟨rfl, rfl, rfl, by decide +kernel, rfl, by decide +kernel, by decide +kernel⟩
abbrev N_law_longest : List Str := ["_law_signs", "_law_period", "_law_found", "_law_many", "_law_one", "_law_other", "_law_steps"]
theorem sc_law_longest : FnScope N_law_longest ["_law_signs", "_law_period"] (defScope s_law_longest) := ⟨rfl, rfl, rfl, by decide +kernel, rfl, by decide +kernel, by decide +kernel⟩
abbrev N_law_one_right : List Str := ["_law_signs", "_law_period", "_law_many", "_law_net", "_law_place", "_law_classes", "_law_rounds", "_law_one", "_law_other", "_law_made", "_law_lots"]
theorem sc_law_one_right : FnScope N_law_one_right ["_law_signs"] (defScope s_law_one_right) := ⟨rfl, rfl, rfl, by decide +kernel, rfl, by decide +kernel, by decide +kernel⟩
abbrev N_law_long_right : List Str := ["_law_stream", "_law_many", "_law_at", "_law_signs", "_law_turns"]
theorem sc_law_long_right : FnScope N_law_long_right ["_law_stream"] (defScope s_law_long_right) := ⟨rfl, rfl, rfl, by decide +kernel, rfl, by decide +kernel, by decide +kernel⟩
abbrev N_law : List Str := ["_law_script", "_law_stream", "_law_turn", "_law_signs", "_law_senses", "_law_times", "_law_more", "_law_handed", "_law_was", "_law_found"]
theorem sc_law : FnScope N_law ["_law_script"] (defScope s_law) := ⟨rfl, rfl, rfl, by decide +kernel, rfl, by decide +kernel, by decide +kernel⟩
def d_BadRoads_init : He.DefD := ⟨("BadRoads", some "__init__"), "__init__", "BadRoads.__init__", defArgs s_BadRoads_init, defBody s_BadRoads_init, defScope s_BadRoads_init, [], []⟩
def d_BadSigns_init : He.DefD := ⟨("BadSigns", some "__init__"), "__init__", "BadSigns.__init__", defArgs s_BadSigns_init, defBody s_BadSigns_init, defScope s_BadSigns_init, [], []⟩
def d_BadTimes_init : He.DefD := ⟨("BadTimes", some "__init__"), "__init__", "BadTimes.__init__", defArgs s_BadTimes_init, defBody s_BadTimes_init, defScope s_BadTimes_init, [], []⟩
def d_is_list : He.DefD := ⟨("is_list", none), "is_list", "is_list", defArgs s_is_list, defBody s_is_list, defScope s_is_list, [], []⟩
def d_is_integer : He.DefD := ⟨("is_integer", none), "is_integer", "is_integer", defArgs s_is_integer, defBody s_is_integer, defScope s_is_integer, [], []⟩
def d_is_number : He.DefD := ⟨("is_number", none), "is_number", "is_number", defArgs s_is_number, defBody s_is_number, defScope s_is_number, [], []⟩
def d_is_word : He.DefD := ⟨("is_word", none), "is_word", "is_word", defArgs s_is_word, defBody s_is_word, defScope s_is_word, [], []⟩
def d_as_word : He.DefD := ⟨("as_word", none), "as_word", "as_word", defArgs s_as_word, defBody s_as_word, defScope s_as_word, [], []⟩
def d_order_key : He.DefD := ⟨("order_key", none), "order_key", "order_key", defArgs s_order_key, defBody s_order_key, defScope s_order_key, [], []⟩
def d_ascending : He.DefD := ⟨("ascending", none), "ascending", "ascending", defArgs s_ascending, defBody s_ascending, defScope s_ascending, [], []⟩
def d_each_once : He.DefD := ⟨("each_once", none), "each_once", "each_once", defArgs s_each_once, defBody s_each_once, defScope s_each_once, [], []⟩
def d_numbered : He.DefD := ⟨("numbered", none), "numbered", "numbered", defArgs s_numbered, defBody s_numbered, defScope s_numbered, [], []⟩
def d_checked_signs : He.DefD := ⟨("checked_signs", none), "checked_signs", "checked_signs", defArgs s_checked_signs, defBody s_checked_signs, defScope s_checked_signs, [], []⟩
def d_is_road : He.DefD := ⟨("is_road", none), "is_road", "is_road", defArgs s_is_road, defBody s_is_road, defScope s_is_road, [], []⟩
def d_checked_roads : He.DefD := ⟨("checked_roads", none), "checked_roads", "checked_roads", defArgs s_checked_roads, defBody s_checked_roads, defScope s_checked_roads, [], []⟩
def d_Net_init : He.DefD := ⟨("Net", some "__init__"), "__init__", "Net.__init__", defArgs s_Net_init, defBody s_Net_init, defScope s_Net_init, [], []⟩
def d_Net_signs : He.DefD := ⟨("Net", some "signs"), "signs", "Net.signs", defArgs s_Net_signs, defBody s_Net_signs, defScope s_Net_signs, [], []⟩
def d_Net_roads : He.DefD := ⟨("Net", some "roads"), "roads", "Net.roads", defArgs s_Net_roads, defBody s_Net_roads, defScope s_Net_roads, [], []⟩
def d_Net_len : He.DefD := ⟨("Net", some "__len__"), "__len__", "Net.__len__", defArgs s_Net_len, defBody s_Net_len, defScope s_Net_len, [], []⟩
def d_Net_eq : He.DefD := ⟨("Net", some "__eq__"), "__eq__", "Net.__eq__", defArgs s_Net_eq, defBody s_Net_eq, defScope s_Net_eq, [], []⟩
def d_one_way_ring : He.DefD := ⟨("one_way_ring", none), "one_way_ring", "one_way_ring", defArgs s_one_way_ring, defBody s_one_way_ring, defScope s_one_way_ring, [], []⟩
def d_around : He.DefD := ⟨("around", none), "around", "around", defArgs s_around, defBody s_around, defScope s_around, [], []⟩
def d_period_of : He.DefD := ⟨("period_of", none), "period_of", "period_of", defArgs s_period_of, defBody s_period_of, defScope s_period_of, [], []⟩
def d_least_period : He.DefD := ⟨("least_period", none), "least_period", "least_period", defArgs s_least_period, defBody s_least_period, defScope s_least_period, [], []⟩
def d_ring_rounds : He.DefD := ⟨("ring_rounds", none), "ring_rounds", "ring_rounds", defArgs s_ring_rounds, defBody s_ring_rounds, defScope s_ring_rounds, [], []⟩
def d_first_ranks : He.DefD := ⟨("first_ranks", none), "first_ranks", "first_ranks", defArgs s_first_ranks, defBody s_first_ranks, defScope s_first_ranks, [], []⟩
def d_next_ranks : He.DefD := ⟨("next_ranks", none), "next_ranks", "next_ranks", defArgs s_next_ranks, defBody s_next_ranks, defScope s_next_ranks, [], []⟩
def d_ranks_behind : He.DefD := ⟨("ranks_behind", none), "ranks_behind", "ranks_behind", defArgs s_ranks_behind, defBody s_ranks_behind, defScope s_ranks_behind, [], []⟩
def d_lots_of : He.DefD := ⟨("lots_of", none), "lots_of", "lots_of", defArgs s_lots_of, defBody s_lots_of, defScope s_lots_of, [], []⟩
def d_kinds_for_ever : He.DefD := ⟨("kinds_for_ever", none), "kinds_for_ever", "kinds_for_ever", defArgs s_kinds_for_ever, defBody s_kinds_for_ever, defScope s_kinds_for_ever, [], []⟩
def d_rounds_needed : He.DefD := ⟨("rounds_needed", none), "rounds_needed", "rounds_needed", defArgs s_rounds_needed, defBody s_rounds_needed, defScope s_rounds_needed, [], []⟩
def d_law_r_period : He.DefD := ⟨("_law_r_period", none), "_law_r_period", "_law_r_period", defArgs s_law_r_period, defBody s_law_r_period, defScope s_law_r_period, [], []⟩
def d_law_r_pattern : He.DefD := ⟨("_law_r_pattern", none), "_law_r_pattern", "_law_r_pattern", defArgs s_law_r_pattern, defBody s_law_r_pattern, defScope s_law_r_pattern, [], []⟩
def d_law_r_stable : He.DefD := ⟨("_law_r_stable", none), "_law_r_stable", "_law_r_stable", defArgs s_law_r_stable, defBody s_law_r_stable, defScope s_law_r_stable, [], []⟩
def d_law_start : He.DefD := ⟨("_law_start", none), "_law_start", "_law_start", defArgs s_law_start, defBody s_law_start, defScope s_law_start, [], []⟩
def d_law_draw : He.DefD := ⟨("_law_draw", none), "_law_draw", "_law_draw", defArgs s_law_draw, defBody s_law_draw, defScope s_law_draw, [], []⟩
def d_law_pick : He.DefD := ⟨("_law_pick", none), "_law_pick", "_law_pick", defArgs s_law_pick, defBody s_law_pick, defScope s_law_pick, [], []⟩
def d_law_same : He.DefD := ⟨("_law_same", none), "_law_same", "_law_same", defArgs s_law_same, defBody s_law_same, defScope s_law_same, [], []⟩
def d_law_loose : He.DefD := ⟨("_law_loose", none), "_law_loose", "_law_loose", defArgs s_law_loose, defBody s_law_loose, defScope s_law_loose, [], []⟩
def d_law_n_key : He.DefD := ⟨("_law_n_key", none), "_law_n_key", "_law_n_key", defArgs s_law_n_key, defBody s_law_n_key, defScope s_law_n_key, [], []⟩
def d_law_n_ascending : He.DefD := ⟨("_law_n_ascending", none), "_law_n_ascending", "_law_n_ascending", defArgs s_law_n_ascending, defBody s_law_n_ascending, defScope s_law_n_ascending, [], []⟩
def d_law_n_in : He.DefD := ⟨("_law_n_in", none), "_law_n_in", "_law_n_in", defArgs s_law_n_in, defBody s_law_n_in, defScope s_law_n_in, [], []⟩
def d_law_n_numbers : He.DefD := ⟨("_law_n_numbers", none), "_law_n_numbers", "_law_n_numbers", defArgs s_law_n_numbers, defBody s_law_n_numbers, defScope s_law_n_numbers, [], []⟩
def d_law_n_classes : He.DefD := ⟨("_law_n_classes", none), "_law_n_classes", "_law_n_classes", defArgs s_law_n_classes, defBody s_law_n_classes, defScope s_law_n_classes, [], []⟩
def d_law_longest : He.DefD := ⟨("_law_longest", none), "_law_longest", "_law_longest", defArgs s_law_longest, defBody s_law_longest, defScope s_law_longest, [], []⟩
def d_law_one_right : He.DefD := ⟨("_law_one_right", none), "_law_one_right", "_law_one_right", defArgs s_law_one_right, defBody s_law_one_right, defScope s_law_one_right, [], []⟩
def d_law_long_right : He.DefD := ⟨("_law_long_right", none), "_law_long_right", "_law_long_right", defArgs s_law_long_right, defBody s_law_long_right, defScope s_law_long_right, [], []⟩
def d_law : He.DefD := ⟨("law", none), "law", "law", defArgs s_law, defBody s_law, defScope s_law, [], []⟩
def fn : List He.DefD := [d_BadRoads_init, d_BadSigns_init, d_BadTimes_init, d_is_list, d_is_integer, d_is_number, d_is_word, d_as_word, d_order_key, d_ascending, d_each_once, d_numbered, d_checked_signs, d_is_road, d_checked_roads, d_Net_init, d_Net_signs, d_Net_roads, d_Net_len, d_Net_eq, d_one_way_ring, d_around, d_period_of, d_least_period, d_ring_rounds, d_first_ranks, d_next_ranks, d_ranks_behind, d_lots_of, d_kinds_for_ever, d_rounds_needed, d_law_r_period, d_law_r_pattern, d_law_r_stable, d_law_start, d_law_draw, d_law_pick, d_law_same, d_law_loose, d_law_n_key, d_law_n_ascending, d_law_n_in, d_law_n_numbers, d_law_n_classes, d_law_longest, d_law_one_right, d_law_long_right, d_law]
def fa : List He.Fa := [.glo "is_list",
  .glo "is_integer",
  .glo "is_number",
  .glo "is_word",
  .glo "as_word",
  .glo "order_key",
  .glo "ascending",
  .glo "each_once",
  .glo "numbered",
  .glo "checked_signs",
  .glo "is_road",
  .glo "checked_roads",
  .glo "one_way_ring",
  .glo "around",
  .glo "period_of",
  .glo "least_period",
  .glo "ring_rounds",
  .glo "first_ranks",
  .glo "next_ranks",
  .glo "ranks_behind",
  .glo "lots_of",
  .glo "kinds_for_ever",
  .glo "rounds_needed",
  .glo "_law_r_period",
  .glo "_law_r_pattern",
  .glo "_law_r_stable",
  .glo "_law_start",
  .glo "_law_draw",
  .glo "_law_pick",
  .glo "_law_same",
  .glo "_law_loose",
  .glo "_law_n_key",
  .glo "_law_n_ascending",
  .glo "_law_n_in",
  .glo "_law_n_numbers",
  .glo "_law_n_classes",
  .glo "_law_longest",
  .glo "_law_one_right",
  .glo "_law_long_right",
  .glo "law",
  .glo "NetError",
  .glo "BadRoads",
  .glo "BadSigns",
  .glo "BadTimes",
  .glo "Made",
  .glo "Net",
  .free "ValueError",
  .free "all",
  .free "bool",
  .free "dict",
  .free "enumerate",
  .free "int",
  .free "isinstance",
  .free "len",
  .free "list",
  .free "max",
  .free "range",
  .free "repr",
  .free "sorted",
  .free "str",
  .free "tuple",
  .free "zip",
  .cls "Net",
  .noat "Net" "own_in",
  .noat "Net" "own_out",
  .noat "Net" "own_roads",
  .noat "Net" "own_signs",
  .meth "Net" "__init__",
  .meth "Net" "signs",
  .meth "Net" "roads",
  .meth "Net" "__len__",
  .meth "Net" "__eq__",
  .mkr "Net"]
def xs : PySem.W.Frag → Bool := fun K => (decide (PySem.W.kitOne K (.ref (He.ga K "Net")) (.ref (He.ga K "Net")) = some true)) && ((decide (PySem.W.findIn K (.ref (He.ga K "Net")) "__class__" = some (some (.builtin "object.__class__")))) && ((decide (PySem.W.specialIn K (.builtin "object.__class__") "__get__" = some (some (.builtin "getset_descriptor.__get__")))) && ((decide (PySem.W.takesIn K (.builtin "object.__class__") = some true)) && ((decide (PySem.W.mroIn K (He.ga K "Net") (.type "object") = some true))))))
structure Top (K : PySem.W.Frag) (mg : Str → Option Value) : Prop where
  g_is_list : mg "is_list" = some (.ref (He.ga K "is_list"))
  g_is_integer : mg "is_integer" = some (.ref (He.ga K "is_integer"))
  g_is_number : mg "is_number" = some (.ref (He.ga K "is_number"))
  g_is_word : mg "is_word" = some (.ref (He.ga K "is_word"))
  g_as_word : mg "as_word" = some (.ref (He.ga K "as_word"))
  g_order_key : mg "order_key" = some (.ref (He.ga K "order_key"))
  g_ascending : mg "ascending" = some (.ref (He.ga K "ascending"))
  g_each_once : mg "each_once" = some (.ref (He.ga K "each_once"))
  g_numbered : mg "numbered" = some (.ref (He.ga K "numbered"))
  g_checked_signs : mg "checked_signs" = some (.ref (He.ga K "checked_signs"))
  g_is_road : mg "is_road" = some (.ref (He.ga K "is_road"))
  g_checked_roads : mg "checked_roads" = some (.ref (He.ga K "checked_roads"))
  g_one_way_ring : mg "one_way_ring" = some (.ref (He.ga K "one_way_ring"))
  g_around : mg "around" = some (.ref (He.ga K "around"))
  g_period_of : mg "period_of" = some (.ref (He.ga K "period_of"))
  g_least_period : mg "least_period" = some (.ref (He.ga K "least_period"))
  g_ring_rounds : mg "ring_rounds" = some (.ref (He.ga K "ring_rounds"))
  g_first_ranks : mg "first_ranks" = some (.ref (He.ga K "first_ranks"))
  g_next_ranks : mg "next_ranks" = some (.ref (He.ga K "next_ranks"))
  g_ranks_behind : mg "ranks_behind" = some (.ref (He.ga K "ranks_behind"))
  g_lots_of : mg "lots_of" = some (.ref (He.ga K "lots_of"))
  g_kinds_for_ever : mg "kinds_for_ever" = some (.ref (He.ga K "kinds_for_ever"))
  g_rounds_needed : mg "rounds_needed" = some (.ref (He.ga K "rounds_needed"))
  g__law_r_period : mg "_law_r_period" = some (.ref (He.ga K "_law_r_period"))
  g__law_r_pattern : mg "_law_r_pattern" = some (.ref (He.ga K "_law_r_pattern"))
  g__law_r_stable : mg "_law_r_stable" = some (.ref (He.ga K "_law_r_stable"))
  g__law_start : mg "_law_start" = some (.ref (He.ga K "_law_start"))
  g__law_draw : mg "_law_draw" = some (.ref (He.ga K "_law_draw"))
  g__law_pick : mg "_law_pick" = some (.ref (He.ga K "_law_pick"))
  g__law_same : mg "_law_same" = some (.ref (He.ga K "_law_same"))
  g__law_loose : mg "_law_loose" = some (.ref (He.ga K "_law_loose"))
  g__law_n_key : mg "_law_n_key" = some (.ref (He.ga K "_law_n_key"))
  g__law_n_ascending : mg "_law_n_ascending" = some (.ref (He.ga K "_law_n_ascending"))
  g__law_n_in : mg "_law_n_in" = some (.ref (He.ga K "_law_n_in"))
  g__law_n_numbers : mg "_law_n_numbers" = some (.ref (He.ga K "_law_n_numbers"))
  g__law_n_classes : mg "_law_n_classes" = some (.ref (He.ga K "_law_n_classes"))
  g__law_longest : mg "_law_longest" = some (.ref (He.ga K "_law_longest"))
  g__law_one_right : mg "_law_one_right" = some (.ref (He.ga K "_law_one_right"))
  g__law_long_right : mg "_law_long_right" = some (.ref (He.ga K "_law_long_right"))
  g_law : mg "law" = some (.ref (He.ga K "law"))
  g_NetError : mg "NetError" = some (.ref (He.ga K "NetError"))
  g_BadRoads : mg "BadRoads" = some (.ref (He.ga K "BadRoads"))
  g_BadSigns : mg "BadSigns" = some (.ref (He.ga K "BadSigns"))
  g_BadTimes : mg "BadTimes" = some (.ref (He.ga K "BadTimes"))
  g_Made : mg "Made" = some (.ref (He.ga K "Made"))
  g_Net : mg "Net" = some (.ref (He.ga K "Net"))
  b_ValueError : mg "ValueError" = none
  b_all : mg "all" = none
  b_bool : mg "bool" = none
  b_dict : mg "dict" = none
  b_enumerate : mg "enumerate" = none
  b_int : mg "int" = none
  b_isinstance : mg "isinstance" = none
  b_len : mg "len" = none
  b_list : mg "list" = none
  b_max : mg "max" = none
  b_range : mg "range" = none
  b_repr : mg "repr" = none
  b_sorted : mg "sorted" = none
  b_str : mg "str" = none
  b_tuple : mg "tuple" = none
  b_zip : mg "zip" = none
  cl_Net : Cls K (He.ga K "Net")
  na_Net_own_in : NoAttr K (He.ga K "Net") "own_in"
  na_Net_own_out : NoAttr K (He.ga K "Net") "own_out"
  na_Net_own_roads : NoAttr K (He.ga K "Net") "own_roads"
  na_Net_own_signs : NoAttr K (He.ga K "Net") "own_signs"
  me_Net_init : Meth K (He.ga K "Net") "__init__" (He.ma K (He.ga K "Net") "__init__")
  me_Net_signs : Meth K (He.ga K "Net") "signs" (He.ma K (He.ga K "Net") "signs")
  me_Net_roads : Meth K (He.ga K "Net") "roads" (He.ma K (He.ga K "Net") "roads")
  me_Net_len : Meth K (He.ga K "Net") "__len__" (He.ma K (He.ga K "Net") "__len__")
  me_Net_eq : Meth K (He.ga K "Net") "__eq__" (He.ma K (He.ga K "Net") "__eq__")
  mk_Net : Mk K (He.ga K "Net") (He.ma K (He.ga K "Net") "__init__")
  F_BadRoads_init : ∃ fd, FunD K "__init__" "BadRoads.__init__" (defArgs s_BadRoads_init) (defBody s_BadRoads_init) (defScope s_BadRoads_init) [] [] (He.fAd K ("BadRoads", some "__init__")) fd
  F_BadSigns_init : ∃ fd, FunD K "__init__" "BadSigns.__init__" (defArgs s_BadSigns_init) (defBody s_BadSigns_init) (defScope s_BadSigns_init) [] [] (He.fAd K ("BadSigns", some "__init__")) fd
  F_BadTimes_init : ∃ fd, FunD K "__init__" "BadTimes.__init__" (defArgs s_BadTimes_init) (defBody s_BadTimes_init) (defScope s_BadTimes_init) [] [] (He.fAd K ("BadTimes", some "__init__")) fd
  F_is_list : ∃ fd, FunD K "is_list" "is_list" (defArgs s_is_list) (defBody s_is_list) (defScope s_is_list) [] [] (He.fAd K ("is_list", none)) fd
  F_is_integer : ∃ fd, FunD K "is_integer" "is_integer" (defArgs s_is_integer) (defBody s_is_integer) (defScope s_is_integer) [] [] (He.fAd K ("is_integer", none)) fd
  F_is_number : ∃ fd, FunD K "is_number" "is_number" (defArgs s_is_number) (defBody s_is_number) (defScope s_is_number) [] [] (He.fAd K ("is_number", none)) fd
  F_is_word : ∃ fd, FunD K "is_word" "is_word" (defArgs s_is_word) (defBody s_is_word) (defScope s_is_word) [] [] (He.fAd K ("is_word", none)) fd
  F_as_word : ∃ fd, FunD K "as_word" "as_word" (defArgs s_as_word) (defBody s_as_word) (defScope s_as_word) [] [] (He.fAd K ("as_word", none)) fd
  F_order_key : ∃ fd, FunD K "order_key" "order_key" (defArgs s_order_key) (defBody s_order_key) (defScope s_order_key) [] [] (He.fAd K ("order_key", none)) fd
  F_ascending : ∃ fd, FunD K "ascending" "ascending" (defArgs s_ascending) (defBody s_ascending) (defScope s_ascending) [] [] (He.fAd K ("ascending", none)) fd
  F_each_once : ∃ fd, FunD K "each_once" "each_once" (defArgs s_each_once) (defBody s_each_once) (defScope s_each_once) [] [] (He.fAd K ("each_once", none)) fd
  F_numbered : ∃ fd, FunD K "numbered" "numbered" (defArgs s_numbered) (defBody s_numbered) (defScope s_numbered) [] [] (He.fAd K ("numbered", none)) fd
  F_checked_signs : ∃ fd, FunD K "checked_signs" "checked_signs" (defArgs s_checked_signs) (defBody s_checked_signs) (defScope s_checked_signs) [] [] (He.fAd K ("checked_signs", none)) fd
  F_is_road : ∃ fd, FunD K "is_road" "is_road" (defArgs s_is_road) (defBody s_is_road) (defScope s_is_road) [] [] (He.fAd K ("is_road", none)) fd
  F_checked_roads : ∃ fd, FunD K "checked_roads" "checked_roads" (defArgs s_checked_roads) (defBody s_checked_roads) (defScope s_checked_roads) [] [] (He.fAd K ("checked_roads", none)) fd
  F_Net_init : ∃ fd, FunD K "__init__" "Net.__init__" (defArgs s_Net_init) (defBody s_Net_init) (defScope s_Net_init) [] [] (He.fAd K ("Net", some "__init__")) fd
  F_Net_signs : ∃ fd, FunD K "signs" "Net.signs" (defArgs s_Net_signs) (defBody s_Net_signs) (defScope s_Net_signs) [] [] (He.fAd K ("Net", some "signs")) fd
  F_Net_roads : ∃ fd, FunD K "roads" "Net.roads" (defArgs s_Net_roads) (defBody s_Net_roads) (defScope s_Net_roads) [] [] (He.fAd K ("Net", some "roads")) fd
  F_Net_len : ∃ fd, FunD K "__len__" "Net.__len__" (defArgs s_Net_len) (defBody s_Net_len) (defScope s_Net_len) [] [] (He.fAd K ("Net", some "__len__")) fd
  F_Net_eq : ∃ fd, FunD K "__eq__" "Net.__eq__" (defArgs s_Net_eq) (defBody s_Net_eq) (defScope s_Net_eq) [] [] (He.fAd K ("Net", some "__eq__")) fd
  F_one_way_ring : ∃ fd, FunD K "one_way_ring" "one_way_ring" (defArgs s_one_way_ring) (defBody s_one_way_ring) (defScope s_one_way_ring) [] [] (He.fAd K ("one_way_ring", none)) fd
  F_around : ∃ fd, FunD K "around" "around" (defArgs s_around) (defBody s_around) (defScope s_around) [] [] (He.fAd K ("around", none)) fd
  F_period_of : ∃ fd, FunD K "period_of" "period_of" (defArgs s_period_of) (defBody s_period_of) (defScope s_period_of) [] [] (He.fAd K ("period_of", none)) fd
  F_least_period : ∃ fd, FunD K "least_period" "least_period" (defArgs s_least_period) (defBody s_least_period) (defScope s_least_period) [] [] (He.fAd K ("least_period", none)) fd
  F_ring_rounds : ∃ fd, FunD K "ring_rounds" "ring_rounds" (defArgs s_ring_rounds) (defBody s_ring_rounds) (defScope s_ring_rounds) [] [] (He.fAd K ("ring_rounds", none)) fd
  F_first_ranks : ∃ fd, FunD K "first_ranks" "first_ranks" (defArgs s_first_ranks) (defBody s_first_ranks) (defScope s_first_ranks) [] [] (He.fAd K ("first_ranks", none)) fd
  F_next_ranks : ∃ fd, FunD K "next_ranks" "next_ranks" (defArgs s_next_ranks) (defBody s_next_ranks) (defScope s_next_ranks) [] [] (He.fAd K ("next_ranks", none)) fd
  F_ranks_behind : ∃ fd, FunD K "ranks_behind" "ranks_behind" (defArgs s_ranks_behind) (defBody s_ranks_behind) (defScope s_ranks_behind) [] [] (He.fAd K ("ranks_behind", none)) fd
  F_lots_of : ∃ fd, FunD K "lots_of" "lots_of" (defArgs s_lots_of) (defBody s_lots_of) (defScope s_lots_of) [] [] (He.fAd K ("lots_of", none)) fd
  F_kinds_for_ever : ∃ fd, FunD K "kinds_for_ever" "kinds_for_ever" (defArgs s_kinds_for_ever) (defBody s_kinds_for_ever) (defScope s_kinds_for_ever) [] [] (He.fAd K ("kinds_for_ever", none)) fd
  F_rounds_needed : ∃ fd, FunD K "rounds_needed" "rounds_needed" (defArgs s_rounds_needed) (defBody s_rounds_needed) (defScope s_rounds_needed) [] [] (He.fAd K ("rounds_needed", none)) fd
  F_law_r_period : ∃ fd, FunD K "_law_r_period" "_law_r_period" (defArgs s_law_r_period) (defBody s_law_r_period) (defScope s_law_r_period) [] [] (He.fAd K ("_law_r_period", none)) fd
  F_law_r_pattern : ∃ fd, FunD K "_law_r_pattern" "_law_r_pattern" (defArgs s_law_r_pattern) (defBody s_law_r_pattern) (defScope s_law_r_pattern) [] [] (He.fAd K ("_law_r_pattern", none)) fd
  F_law_r_stable : ∃ fd, FunD K "_law_r_stable" "_law_r_stable" (defArgs s_law_r_stable) (defBody s_law_r_stable) (defScope s_law_r_stable) [] [] (He.fAd K ("_law_r_stable", none)) fd
  F_law_start : ∃ fd, FunD K "_law_start" "_law_start" (defArgs s_law_start) (defBody s_law_start) (defScope s_law_start) [] [] (He.fAd K ("_law_start", none)) fd
  F_law_draw : ∃ fd, FunD K "_law_draw" "_law_draw" (defArgs s_law_draw) (defBody s_law_draw) (defScope s_law_draw) [] [] (He.fAd K ("_law_draw", none)) fd
  F_law_pick : ∃ fd, FunD K "_law_pick" "_law_pick" (defArgs s_law_pick) (defBody s_law_pick) (defScope s_law_pick) [] [] (He.fAd K ("_law_pick", none)) fd
  F_law_same : ∃ fd, FunD K "_law_same" "_law_same" (defArgs s_law_same) (defBody s_law_same) (defScope s_law_same) [] [] (He.fAd K ("_law_same", none)) fd
  F_law_loose : ∃ fd, FunD K "_law_loose" "_law_loose" (defArgs s_law_loose) (defBody s_law_loose) (defScope s_law_loose) [] [] (He.fAd K ("_law_loose", none)) fd
  F_law_n_key : ∃ fd, FunD K "_law_n_key" "_law_n_key" (defArgs s_law_n_key) (defBody s_law_n_key) (defScope s_law_n_key) [] [] (He.fAd K ("_law_n_key", none)) fd
  F_law_n_ascending : ∃ fd, FunD K "_law_n_ascending" "_law_n_ascending" (defArgs s_law_n_ascending) (defBody s_law_n_ascending) (defScope s_law_n_ascending) [] [] (He.fAd K ("_law_n_ascending", none)) fd
  F_law_n_in : ∃ fd, FunD K "_law_n_in" "_law_n_in" (defArgs s_law_n_in) (defBody s_law_n_in) (defScope s_law_n_in) [] [] (He.fAd K ("_law_n_in", none)) fd
  F_law_n_numbers : ∃ fd, FunD K "_law_n_numbers" "_law_n_numbers" (defArgs s_law_n_numbers) (defBody s_law_n_numbers) (defScope s_law_n_numbers) [] [] (He.fAd K ("_law_n_numbers", none)) fd
  F_law_n_classes : ∃ fd, FunD K "_law_n_classes" "_law_n_classes" (defArgs s_law_n_classes) (defBody s_law_n_classes) (defScope s_law_n_classes) [] [] (He.fAd K ("_law_n_classes", none)) fd
  F_law_longest : ∃ fd, FunD K "_law_longest" "_law_longest" (defArgs s_law_longest) (defBody s_law_longest) (defScope s_law_longest) [] [] (He.fAd K ("_law_longest", none)) fd
  F_law_one_right : ∃ fd, FunD K "_law_one_right" "_law_one_right" (defArgs s_law_one_right) (defBody s_law_one_right) (defScope s_law_one_right) [] [] (He.fAd K ("_law_one_right", none)) fd
  F_law_long_right : ∃ fd, FunD K "_law_long_right" "_law_long_right" (defArgs s_law_long_right) (defBody s_law_long_right) (defScope s_law_long_right) [] [] (He.fAd K ("_law_long_right", none)) fd
  F_law : ∃ fd, FunD K "law" "law" (defArgs s_law) (defBody s_law) (defScope s_law) [] [] (He.fAd K ("law", none)) fd
  kNN : PySem.W.kitOne K (.ref (He.ga K "Net")) (.ref (He.ga K "Net")) = some true
  kCl : PySem.W.findIn K (.ref (He.ga K "Net")) "__class__" = some (some (.builtin "object.__class__"))
  kGet : PySem.W.specialIn K (.builtin "object.__class__") "__get__" = some (some (.builtin "getset_descriptor.__get__"))
  kTk : PySem.W.takesIn K (.builtin "object.__class__") = some true
  kMro : PySem.W.mroIn K (He.ga K "Net") (.type "object") = some true
theorem top_of {K : PySem.W.Frag} {h : Heap} {mg : Str → Option Value} (X : K.In h) (G : h.Ns mainGlobals mg) (c : He.SaysD fa fn K) (hx : xs K = true) : Top K mg := by
  have hx0 := hx
  obtain ⟨e0, hx1⟩ := He.ba hx0
  obtain ⟨e1, hx2⟩ := He.ba hx1
  obtain ⟨e2, hx3⟩ := He.ba hx2
  obtain ⟨e3, hx4⟩ := He.ba hx3
  have e4 := hx4
  exact {
    g_is_list := He.glo_ok X G (c.fact 0 (f := .glo "is_list") rfl)
    g_is_integer := He.glo_ok X G (c.fact 1 (f := .glo "is_integer") rfl)
    g_is_number := He.glo_ok X G (c.fact 2 (f := .glo "is_number") rfl)
    g_is_word := He.glo_ok X G (c.fact 3 (f := .glo "is_word") rfl)
    g_as_word := He.glo_ok X G (c.fact 4 (f := .glo "as_word") rfl)
    g_order_key := He.glo_ok X G (c.fact 5 (f := .glo "order_key") rfl)
    g_ascending := He.glo_ok X G (c.fact 6 (f := .glo "ascending") rfl)
    g_each_once := He.glo_ok X G (c.fact 7 (f := .glo "each_once") rfl)
    g_numbered := He.glo_ok X G (c.fact 8 (f := .glo "numbered") rfl)
    g_checked_signs := He.glo_ok X G (c.fact 9 (f := .glo "checked_signs") rfl)
    g_is_road := He.glo_ok X G (c.fact 10 (f := .glo "is_road") rfl)
    g_checked_roads := He.glo_ok X G (c.fact 11 (f := .glo "checked_roads") rfl)
    g_one_way_ring := He.glo_ok X G (c.fact 12 (f := .glo "one_way_ring") rfl)
    g_around := He.glo_ok X G (c.fact 13 (f := .glo "around") rfl)
    g_period_of := He.glo_ok X G (c.fact 14 (f := .glo "period_of") rfl)
    g_least_period := He.glo_ok X G (c.fact 15 (f := .glo "least_period") rfl)
    g_ring_rounds := He.glo_ok X G (c.fact 16 (f := .glo "ring_rounds") rfl)
    g_first_ranks := He.glo_ok X G (c.fact 17 (f := .glo "first_ranks") rfl)
    g_next_ranks := He.glo_ok X G (c.fact 18 (f := .glo "next_ranks") rfl)
    g_ranks_behind := He.glo_ok X G (c.fact 19 (f := .glo "ranks_behind") rfl)
    g_lots_of := He.glo_ok X G (c.fact 20 (f := .glo "lots_of") rfl)
    g_kinds_for_ever := He.glo_ok X G (c.fact 21 (f := .glo "kinds_for_ever") rfl)
    g_rounds_needed := He.glo_ok X G (c.fact 22 (f := .glo "rounds_needed") rfl)
    g__law_r_period := He.glo_ok X G (c.fact 23 (f := .glo "_law_r_period") rfl)
    g__law_r_pattern := He.glo_ok X G (c.fact 24 (f := .glo "_law_r_pattern") rfl)
    g__law_r_stable := He.glo_ok X G (c.fact 25 (f := .glo "_law_r_stable") rfl)
    g__law_start := He.glo_ok X G (c.fact 26 (f := .glo "_law_start") rfl)
    g__law_draw := He.glo_ok X G (c.fact 27 (f := .glo "_law_draw") rfl)
    g__law_pick := He.glo_ok X G (c.fact 28 (f := .glo "_law_pick") rfl)
    g__law_same := He.glo_ok X G (c.fact 29 (f := .glo "_law_same") rfl)
    g__law_loose := He.glo_ok X G (c.fact 30 (f := .glo "_law_loose") rfl)
    g__law_n_key := He.glo_ok X G (c.fact 31 (f := .glo "_law_n_key") rfl)
    g__law_n_ascending := He.glo_ok X G (c.fact 32 (f := .glo "_law_n_ascending") rfl)
    g__law_n_in := He.glo_ok X G (c.fact 33 (f := .glo "_law_n_in") rfl)
    g__law_n_numbers := He.glo_ok X G (c.fact 34 (f := .glo "_law_n_numbers") rfl)
    g__law_n_classes := He.glo_ok X G (c.fact 35 (f := .glo "_law_n_classes") rfl)
    g__law_longest := He.glo_ok X G (c.fact 36 (f := .glo "_law_longest") rfl)
    g__law_one_right := He.glo_ok X G (c.fact 37 (f := .glo "_law_one_right") rfl)
    g__law_long_right := He.glo_ok X G (c.fact 38 (f := .glo "_law_long_right") rfl)
    g_law := He.glo_ok X G (c.fact 39 (f := .glo "law") rfl)
    g_NetError := He.glo_ok X G (c.fact 40 (f := .glo "NetError") rfl)
    g_BadRoads := He.glo_ok X G (c.fact 41 (f := .glo "BadRoads") rfl)
    g_BadSigns := He.glo_ok X G (c.fact 42 (f := .glo "BadSigns") rfl)
    g_BadTimes := He.glo_ok X G (c.fact 43 (f := .glo "BadTimes") rfl)
    g_Made := He.glo_ok X G (c.fact 44 (f := .glo "Made") rfl)
    g_Net := He.glo_ok X G (c.fact 45 (f := .glo "Net") rfl)
    b_ValueError := He.free_ok X G (c.fact 46 (f := .free "ValueError") rfl)
    b_all := He.free_ok X G (c.fact 47 (f := .free "all") rfl)
    b_bool := He.free_ok X G (c.fact 48 (f := .free "bool") rfl)
    b_dict := He.free_ok X G (c.fact 49 (f := .free "dict") rfl)
    b_enumerate := He.free_ok X G (c.fact 50 (f := .free "enumerate") rfl)
    b_int := He.free_ok X G (c.fact 51 (f := .free "int") rfl)
    b_isinstance := He.free_ok X G (c.fact 52 (f := .free "isinstance") rfl)
    b_len := He.free_ok X G (c.fact 53 (f := .free "len") rfl)
    b_list := He.free_ok X G (c.fact 54 (f := .free "list") rfl)
    b_max := He.free_ok X G (c.fact 55 (f := .free "max") rfl)
    b_range := He.free_ok X G (c.fact 56 (f := .free "range") rfl)
    b_repr := He.free_ok X G (c.fact 57 (f := .free "repr") rfl)
    b_sorted := He.free_ok X G (c.fact 58 (f := .free "sorted") rfl)
    b_str := He.free_ok X G (c.fact 59 (f := .free "str") rfl)
    b_tuple := He.free_ok X G (c.fact 60 (f := .free "tuple") rfl)
    b_zip := He.free_ok X G (c.fact 61 (f := .free "zip") rfl)
    cl_Net := He.cls_ok (c.fact 62 (f := .cls "Net") rfl)
    na_Net_own_in := He.noat_ok (c.fact 63 (f := .noat "Net" "own_in") rfl)
    na_Net_own_out := He.noat_ok (c.fact 64 (f := .noat "Net" "own_out") rfl)
    na_Net_own_roads := He.noat_ok (c.fact 65 (f := .noat "Net" "own_roads") rfl)
    na_Net_own_signs := He.noat_ok (c.fact 66 (f := .noat "Net" "own_signs") rfl)
    me_Net_init := He.meth_ok (c.fact 67 (f := .meth "Net" "__init__") rfl)
    me_Net_signs := He.meth_ok (c.fact 68 (f := .meth "Net" "signs") rfl)
    me_Net_roads := He.meth_ok (c.fact 69 (f := .meth "Net" "roads") rfl)
    me_Net_len := He.meth_ok (c.fact 70 (f := .meth "Net" "__len__") rfl)
    me_Net_eq := He.meth_ok (c.fact 71 (f := .meth "Net" "__eq__") rfl)
    mk_Net := He.mkr_ok (c.fact 72 (f := .mkr "Net") rfl)
    F_BadRoads_init := c.def_ 0 (d := d_BadRoads_init) rfl
    F_BadSigns_init := c.def_ 1 (d := d_BadSigns_init) rfl
    F_BadTimes_init := c.def_ 2 (d := d_BadTimes_init) rfl
    F_is_list := c.def_ 3 (d := d_is_list) rfl
    F_is_integer := c.def_ 4 (d := d_is_integer) rfl
    F_is_number := c.def_ 5 (d := d_is_number) rfl
    F_is_word := c.def_ 6 (d := d_is_word) rfl
    F_as_word := c.def_ 7 (d := d_as_word) rfl
    F_order_key := c.def_ 8 (d := d_order_key) rfl
    F_ascending := c.def_ 9 (d := d_ascending) rfl
    F_each_once := c.def_ 10 (d := d_each_once) rfl
    F_numbered := c.def_ 11 (d := d_numbered) rfl
    F_checked_signs := c.def_ 12 (d := d_checked_signs) rfl
    F_is_road := c.def_ 13 (d := d_is_road) rfl
    F_checked_roads := c.def_ 14 (d := d_checked_roads) rfl
    F_Net_init := c.def_ 15 (d := d_Net_init) rfl
    F_Net_signs := c.def_ 16 (d := d_Net_signs) rfl
    F_Net_roads := c.def_ 17 (d := d_Net_roads) rfl
    F_Net_len := c.def_ 18 (d := d_Net_len) rfl
    F_Net_eq := c.def_ 19 (d := d_Net_eq) rfl
    F_one_way_ring := c.def_ 20 (d := d_one_way_ring) rfl
    F_around := c.def_ 21 (d := d_around) rfl
    F_period_of := c.def_ 22 (d := d_period_of) rfl
    F_least_period := c.def_ 23 (d := d_least_period) rfl
    F_ring_rounds := c.def_ 24 (d := d_ring_rounds) rfl
    F_first_ranks := c.def_ 25 (d := d_first_ranks) rfl
    F_next_ranks := c.def_ 26 (d := d_next_ranks) rfl
    F_ranks_behind := c.def_ 27 (d := d_ranks_behind) rfl
    F_lots_of := c.def_ 28 (d := d_lots_of) rfl
    F_kinds_for_ever := c.def_ 29 (d := d_kinds_for_ever) rfl
    F_rounds_needed := c.def_ 30 (d := d_rounds_needed) rfl
    F_law_r_period := c.def_ 31 (d := d_law_r_period) rfl
    F_law_r_pattern := c.def_ 32 (d := d_law_r_pattern) rfl
    F_law_r_stable := c.def_ 33 (d := d_law_r_stable) rfl
    F_law_start := c.def_ 34 (d := d_law_start) rfl
    F_law_draw := c.def_ 35 (d := d_law_draw) rfl
    F_law_pick := c.def_ 36 (d := d_law_pick) rfl
    F_law_same := c.def_ 37 (d := d_law_same) rfl
    F_law_loose := c.def_ 38 (d := d_law_loose) rfl
    F_law_n_key := c.def_ 39 (d := d_law_n_key) rfl
    F_law_n_ascending := c.def_ 40 (d := d_law_n_ascending) rfl
    F_law_n_in := c.def_ 41 (d := d_law_n_in) rfl
    F_law_n_numbers := c.def_ 42 (d := d_law_n_numbers) rfl
    F_law_n_classes := c.def_ 43 (d := d_law_n_classes) rfl
    F_law_longest := c.def_ 44 (d := d_law_longest) rfl
    F_law_one_right := c.def_ 45 (d := d_law_one_right) rfl
    F_law_long_right := c.def_ 46 (d := d_law_long_right) rfl
    F_law := c.def_ 47 (d := d_law) rfl
    kNN := of_decide_eq_true e0
    kCl := of_decide_eq_true e1
    kGet := of_decide_eq_true e2
    kTk := of_decide_eq_true e3
    kMro := of_decide_eq_true e4
  }
end T3

namespace T3
open PySem PySem.Spec PyProof.Rows L2 Ly
def nm0 : List PySem.Str := ["NetError", "BadRoads", "BadSigns", "BadTimes", "Made", "is_list", "is_integer", "is_number", "is_word", "as_word", "order_key", "ascending", "each_once", "numbered", "checked_signs", "is_road", "checked_roads", "Net", "one_way_ring", "around", "period_of", "least_period", "ring_rounds", "first_ranks", "next_ranks", "ranks_behind", "lots_of", "kinds_for_ever", "rounds_needed", "_law_r_period"]
def nm1 : List PySem.Str := ["_law_r_pattern", "_law_r_stable", "_law_start", "_law_draw", "_law_pick", "_law_same", "_law_loose", "_law_n_key", "_law_n_ascending", "_law_n_in", "_law_n_numbers", "_law_n_classes", "_law_longest", "_law_one_right", "_law_long_right"]
def names : List PySem.Str := nm0 ++ nm1
abbrev R : PySem.W.OpenRow := PySem.W.OpenLaw.row PySem.Challenge.rw_samefromhere_k47_whole_periods_of_rings
abbrev hk : PySem.W.Hook := hookX 5 fa fn xs
def ob (s : PySem.W.SharedT) : AlX := obsXG 5 fa fn xs (HandSHeadRun.getT s)
theorem ob_eq (s : PySem.W.SharedT) : ob s = hk.obs s.abs := obsXG_eq (HandSHeadRun.getT_eq s)
theorem run (w : PySem.World) : HandSHeadRun.RunEq R (PySem.W.view R.prog [52]) hk ob 3000 names w := by
  intro os
  kernel_rfl
end T3

namespace T3
open PySem PySem.Spec PyProof.Rows L2 Ly
section
variable {P : Program} {w : World} {K : PySem.W.Frag} {mg : Str → Option Value} {base : Heap}
/-- the spring's own list -/
abbrev sO (q : Addr) (l k m : Int) : HO := .lst [V.ref q, V.int l, V.int k, V.int m]
def Strm (F H : Hp) (st q : Addr) (c : Int) : Prop := ∃ (ns : List Int) (l k m : Int), H st = some (.lst [.ref q, .int l, .int k, .int m]) ∧ H q = some (.lst (ns.map V.int)) ∧ 0 ≤ l ∧ 0 ≤ m ∧ m < 2147483647 ∧ 0 ≤ k ∧ k ≤ c ∧ F st = none ∧ F q = none ∧ st ≠ q
theorem dp_ints {K : PySem.W.Frag} {H : Hp} : ∀ ns : List Int, DpAll K H (ns.map V.int) (ns.map PyData.int)
  | [] => .nil
  | n :: ns => .cons (.int n) (dp_ints ns)
theorem lay_ints : ∀ ns : List Int, PyData.canLayAll0 (ns.map PyData.int) = true
  | [] => by simp [PyData.canLayAll0]
  | n :: ns => by simp [PyData.canLayAll0, PyData.canLay0, lay_ints ns]
theorem dep_ints : ∀ ns : List Int, PyData.depthAll (ns.map PyData.int) = 0
  | [] => by simp [PyData.depthAll]
  | n :: ns => by simp [PyData.depthAll, PyData.depth, dep_ints ns]
theorem shaped_ints (ns : List Int) : SeqAt.shaped (.list (ns.map PyData.int)) = true := by
  simp [SeqAt.shaped, PyData.canLay0, PyData.depth, lay_ints, dep_ints]
def spStart (K : PySem.W.Frag) : Sp := fun vs H Q _ => ∃ (a : Addr) (ns : List Int) (F : Hp), vs = [.ref a] ∧ SqL K H a (ns.map V.int) ∧ Same F H ∧
  ∀ st q H', Ex [] F H F H' → Strm F H' st q 0 → H st = none → H q = none → Q (.ref st) H'
theorem ok_law_start (T : Top K mg) : Ok P w K mg base "_law_start" 1 ["_law_script"] (spStart K) := by
  refine ok_of T.g__law_start T.F_law_start sc_law_start (fun _ _ _ _ _ _ us hl => match us, hl with | [_], _ => rfl) (fun vs H Q E h => ?_) (fun cdv A outer s H vs Q E hr h => ?_)
  · obtain ⟨a, ns, F, rfl, _⟩ := h
    rfl
  obtain ⟨a, ns, F, rfl, hS, hF, k⟩ := h
  refine ⟨_, (pss_one (ps_ret (pe_lst (pa_cons (pe_callTy call_list_of rfl T.b_list (by decide +kernel) (pa_cons (pv 0) pa_nil)) (pa_cons pe_int (pa_cons pe_int (pa_cons pe_int pa_nil))))))), ?_⟩
  refine ⟨_, rfl, _, _, rfl, .inl hS, fun q hq => ?_⟩
  refine ⟨by show 4 ≤ sizeLine; decide, fun st hst => ?_⟩
  obtain ⟨hst0, hne⟩ := Ly.upd_none hst
  have e1 : Ex [] F H F (upd H q (.lst (ns.map V.int))) := Ex.new hF hq
  refine k st q _ (e1.trans (Ex.new e1.fh hst)) ⟨ns, 0, 0, 11, upd_same, ?_, by decide, by decide, by decide, by decide, by decide, Same.free hF hst0, Same.free hF hq, hne⟩ hst0 hq
  rw [upd_ne hne.symm]; exact upd_same
/-- a draw: a number from 0 to many - 1 -/
def spDraw : Sp := fun vs H Q _ => ∃ (st q : Addr) (many : Int) (F : Hp) (c : Int), vs = [.ref st, .int many] ∧ Same F H ∧ Strm F H st q c ∧ 0 < many ∧ many < 1000000 ∧ c < 1000000000 ∧
  ∀ d H', 0 ≤ d → d < many → Ex [st, q] F H F H' → Strm F H' st q (c + 1) → Q (.int d) H'
theorem ok_law_draw (T : Top K mg) : Ok P w K mg base "_law_draw" 1 ["_law_stream", "_law_many"] spDraw := by
  refine ok_of T.g__law_draw T.F_law_draw sc_law_draw (fun _ _ _ _ _ _ us hl => match us, hl with | [_, _], _ => rfl) (fun vs H Q E h => ?_) (fun cdv A outer s H vs Q E hr h => ?_)
  · obtain ⟨st, q, many, F, c, rfl, _⟩ := h
    rfl
  obtain ⟨st, q, many, F, c, rfl, hF, ⟨ns, l, k, m, h1, h2, hl, hm1, hm2, hk1, hk2, f1, f2, hne⟩, hmany, hmany2, hc, kk⟩ := h
  refine ⟨_, (pss_cons (ps_asg (pe_op op_add (pe_ix ix_list (pv 0) pe_int (fun _ _ => rfl)) pe_int) (pg_sub (pv 0) pe_int set_list))
    (pss_cons (ps_while PassesOwn.never (PW.pt (pw_and (pt_cmpR op_eq (pe_ix ix_list (pv 0) pe_int (fun _ _ => rfl)) pe_int (nomark _)) (pw_and1 (pt_cmpR (op_neD (hu64 hr)) (pe_ix ix_list (pv 0) pe_int (fun _ _ => rfl)) (pe_lst pa_nil) (nomark _))))) (pss_cons (ps_set (i := 2) sc_law_draw.nd rfl (Or.inl rfl) (pe_bm PySem.F.plainAttrs_list PySem.F.slot_list_pop PySem.F.type_list_pop mt_popAt (pe_ix ix_list (pv 0) pe_int (fun _ _ => rfl)) (pa_cons pe_int pa_nil)))
    (pss_cons (ps_asg (pe_op op_modN (pe_callTy call_int1 rfl T.b_int (by decide +kernel) (pa_cons (pe_op op_add (pe_op op_add (pe_op op_mul (pe_ix ix_list (pv 0) pe_int (fun _ _ => rfl)) pe_int) (pv 2)) pe_int) pa_nil)) pe_int) (pg_sub (pv 0) pe_int set_list))
    (pss_one (ps_asg (pe_ifExp (pt_cmpR op_ge (pv 2) (pe_op op_pow pe_int pe_int) (nomark _)) (pv 2) pe_int) (pg_sub (pv 0) pe_int set_list))))))
    (pss_cons (ps_if (pt_cmpR op_gt (pe_ix ix_list (pv 0) pe_int (fun _ _ => rfl)) pe_int (nomark _)) (pss_cons (ps_set (i := 3) sc_law_draw.nd rfl (Or.inl rfl) (pe_op op_modN (pe_callTy call_int1 rfl T.b_int (by decide +kernel) (pa_cons (pe_ix ix_list (pv 0) pe_int (fun _ _ => rfl)) pa_nil)) (pv 1)))
    (pss_cons (ps_asg (pe_op op_fdivN (pe_ix ix_list (pv 0) pe_int (fun _ _ => rfl)) (pv 1)) (pg_sub (pv 0) pe_int set_list))
    (pss_one (ps_ret (pv 3))))) pss_nil)
    (pss_cons (ps_set (i := 4) sc_law_draw.nd rfl (Or.inl rfl) (pe_op op_modN (pe_callTy call_int1 rfl T.b_int (by decide +kernel) (pa_cons (pe_op op_pow (pe_op op_add (pe_op op_add (pe_ix ix_list (pv 0) pe_int (fun _ _ => rfl)) (pe_op op_mul pe_int (pe_ix ix_list (pv 0) pe_int (fun _ _ => rfl)))) pe_int) pe_int) pa_nil)) pe_int))
    (pss_one (ps_ret (pe_op op_modN (pe_op op_modN (pe_callTy call_int1 rfl T.b_int (by decide +kernel) (pa_cons (pe_op op_pow (pe_op op_add (pe_op op_add (pe_op op_mul (pv 4) pe_int) (pe_op op_mul pe_int (pe_ix ix_list (pv 0) pe_int (fun _ _ => rfl)))) pe_int) pe_int) pa_nil)) pe_int) (pv 1)))))))), ?_⟩
  have s3 : ∀ (H : Hp) (q : Addr) (a b c : Int), atI [V.ref q, .int a, .int b, .int c] 0 = some (.ref q) ∧ atI [V.ref q, .int a, .int b, .int c] 1 = some (.int a) ∧ atI [V.ref q, .int a, .int b, .int c] 2 = some (.int b) ∧ atI [V.ref q, .int a, .int b, .int c] 3 = some (.int c) := fun _ _ _ _ _ => ⟨rfl, rfl, rfl, rfl⟩
  -- stream[2] = stream[2] + 1
  refine ⟨_, rfl, st, _, 2, _, rfl, rfl, SqL.of h1, rfl, _, _, rfl, rfl, _, rfl, st, _, 2, 2, rfl, rfl, h1, rfl, ?_⟩
  have g1 : Ex [st, q] F H F (upd H st (.lst [.ref q, .int l, .int (k + 1), .int m])) := Ex.put hF f1 (by simp)
  have g2 : (upd H st (.lst [.ref q, .int l, .int (k + 1), .int m])) st = some (.lst [.ref q, .int l, .int (k + 1), .int m]) := upd_same
  have g3 : (upd H st (.lst [.ref q, .int l, .int (k + 1), .int m])) q = some (.lst (ns.map V.int)) := by rw [upd_ne hne.symm]; exact h2
  show tWhile _ _ _ _ (upd H st (.lst [.ref q, .int l, .int (k + 1), .int m]))
  generalize (upd H st (.lst [.ref q, .int l, .int (k + 1), .int m])) = H1 at g1 g2 g3
  have f1_ := f1
  have after : ∀ (H2 : Hp) (ns : List Int) (l m : Int) (v : Option V), Ex [st, q] F H F H2 → H2 st = some (.lst [.ref q, .int l, .int (k + 1), .int m]) → H2 q = some (.lst (ns.map V.int)) → 0 ≤ l → 0 ≤ m → m < 2147483647 →
      tSeq (tIfS (tTest (tOp RGt (tOp (rIxL K) (tVar 0) (tC (.int 1))) (tC (.int 0)))) (tSeq (tAsg (tOp RMod (tCB RInt (tCons (tOp (rIxL K) (tVar 0) (tC (.int 1))) tNil)) (tVar 1)) (gName 3)) (tSeq (tAsg (tOp RFdiv (tOp (rIxL K) (tVar 0) (tC (.int 1))) (tVar 1)) (gSub (tVar 0) (tC (.int 1)) rSetL)) (tRet (tVar 3)))) tNext)
        (tSeq (tAsg (tOp RMod (tCB RInt (tCons (tOp RPow (tOp RAdd (tOp RAdd (tOp (rIxL K) (tVar 0) (tC (.int 3))) (tOp RMul (tC (.int 7919)) (tOp (rIxL K) (tVar 0) (tC (.int 2))))) (tC (.int 104729))) (tC (.int 5))) tNil)) (tC (.int 2147483629))) (gName 4))
          (tRet (tOp RMod (tOp RMod (tCB RInt (tCons (tOp RPow (tOp RAdd (tOp RAdd (tOp RMul (tVar 4) (tC (.int 48271))) (tOp RMul (tC (.int 30011)) (tOp (rIxL K) (tVar 0) (tC (.int 2))))) (tC (.int 29))) (tC (.int 3))) tNil)) (tC (.int 1000000007))) (tVar 1))))
        { nx := fun _ H' => Q .non H', rt := Q } [some (V.ref st), some (V.int many), v, none, none] H2 := by
    intro H2 ns l m v e e1 e2 hl hm1 hm2
    refine ⟨_, rfl, _, _, _, _, rfl, rfl, SqL.of e1, rfl, _, _, rfl, rfl, _, rfl, ?_⟩
    refine ite2 (fun h0 => ?_) (fun h0 => ?_)
    · have l0 : 0 < l := by simpa using h0
      refine ⟨_, rfl, _, _, _, _, rfl, rfl, SqL.of e1, rfl, .inl ⟨_, rfl, _, rfl, _, _, rfl, rfl, by omega, ?_⟩⟩
      refine ⟨_, rfl, _, _, _, _, rfl, rfl, SqL.of e1, rfl, _, rfl, _, _, rfl, rfl, ⟨by omega, by omega⟩, _, rfl, st, _, 1, 1, rfl, rfl, e1, rfl, ?_⟩
      refine ⟨_, rfl, kk _ _ (Int.fmod_nonneg_of_pos _ hmany) (Int.fmod_lt_of_pos _ hmany) (e.trans (Ex.put e.fh f1 (by simp))) ⟨ns, l.fdiv many, k + 1, m, upd_same, by rw [upd_ne hne.symm]; exact e2, ?_, hm1, hm2, by omega, by omega, f1, f2, hne⟩⟩
      exact Int.fdiv_nonneg hl (by omega)
    · have l0 : l = 0 := by
        have : ¬ 0 < l := by simpa using h0
        omega
      refine ⟨_, rfl, _, _, _, _, rfl, rfl, SqL.of e1, rfl, _, rfl, _, _, _, _, rfl, rfl, SqL.of e1, rfl, _, _, rfl, rfl, .inl ⟨by decide, by decide⟩, _, _, rfl, rfl, _, _, rfl, rfl, _, _, rfl, rfl, ⟨by decide, by decide, by omega⟩, .inl ⟨_, rfl, _, _, rfl, rfl, (show (2147483629 : Int) ≠ 0 by decide), ?_⟩⟩
      have r1 := Int.fmod_nonneg_of_pos ((m + 7919 * (k + 1) + 104729) ^ (5 : Int).toNat) (show (0 : Int) < 2147483629 by decide)
      have r2 := Int.fmod_lt_of_pos ((m + 7919 * (k + 1) + 104729) ^ (5 : Int).toNat) (show (0 : Int) < 2147483629 by decide)
      refine ⟨_, rfl, _, _, rfl, rfl, .inl ⟨by omega, by omega⟩, _, rfl, _, _, _, _, rfl, rfl, SqL.of e1, rfl, _, _, rfl, rfl, .inl ⟨by decide, by decide⟩, _, _, rfl, rfl, _, _, rfl, rfl, _, _, rfl, rfl, ⟨by decide, by decide, by omega⟩, .inl ⟨_, rfl, _, _, rfl, rfl, (show (1000000007 : Int) ≠ 0 by decide), _, rfl, _, _, rfl, rfl, by omega, ?_⟩⟩
      exact kk _ _ (Int.fmod_nonneg_of_pos _ hmany) (Int.fmod_lt_of_pos _ hmany) e ⟨ns, l, k + 1, m, e1, e2, hl, hm1, hm2, by omega, by omega, f1, f2, hne⟩
  refine while_by (fun σ H2 => ∃ ns l m v, σ = [some (V.ref st), some (V.int many), v, none, none] ∧ Ex [st, q] F H F H2 ∧ H2 st = some (.lst [.ref q, .int l, .int (k + 1), .int m]) ∧ H2 q = some (.lst (ns.map V.int)) ∧ 0 ≤ l ∧ 0 ≤ m ∧ m < 2147483647) (fun σ H2 => match H2 q with | some (.lst xs) => xs.length | _ => 0) ⟨ns, l, m, none, rfl, g1, g2, g3, hl, hm1, hm2⟩ ?_ ?_
  · rintro σ H2 ⟨ns, l, m, v, rfl, e, e1, e2, hl, hm1, hm2⟩
    refine ⟨_, rfl, _, _, _, _, rfl, rfl, SqL.of e1, rfl, rfl, _, rfl, ?_⟩
    refine ite2 (fun hc1 => ?_) (fun hc1 => ?_)
    · -- the rest may be drawn from
      have l0 : l = 0 := by simpa using hc1
      subst l0
      refine ⟨_, rfl, _, _, _, _, rfl, rfl, SqL.of e1, rfl, Nat.zero_le _, fun p hp => ?_⟩
      have e' : Ex [st, q] F H F (upd H2 p (.lst [])) := e.trans (Ex.new e.fh hp)
      have d1 : (upd H2 p (.lst [])) st = some (.lst [.ref q, .int 0, .int (k + 1), .int m]) := by rw [upd_ne (ne_of_none e1 hp)]; exact e1
      have d2 : (upd H2 p (.lst [])) q = some (.lst (ns.map V.int)) := by rw [upd_ne (ne_of_none e2 hp)]; exact e2
      refine ⟨.list (ns.map .int), .list [], .lst (SqL.of d2) (dp_ints ns), .lst (SqL.of upd_same) .nil, shaped_ints ns, by decide, _, rfl, ?_⟩
      generalize (upd H2 p (.lst [])) = H3 at e' d1 d2
      refine ite2 (fun hn => ?_) (fun hn => ?_)
      · cases ns with
        | nil => simp [PyData.eqv, PyData.eqvAll] at hn
        | cons z ns =>
          refine ⟨_, rfl, _, _, _, _, rfl, rfl, SqL.of d1, rfl, .inl ⟨rfl, _, SqL.of d2⟩, _, _, _, 0, _, rfl, rfl, d2, by decide, by decide, (by simp [seqIndex?]), rfl, ?_⟩
          have f1 : (upd H3 q (.lst (ns.map V.int))) st = some (.lst [.ref q, .int 0, .int (k + 1), .int m]) := by rw [upd_ne hne]; exact d1
          have e3 : Ex [st, q] F H F (upd H3 q (.lst (ns.map V.int))) := e'.trans (Ex.put e'.fh f2 (by simp))
          have f2' : (upd H3 q (.lst (ns.map V.int))) q = some (.lst (ns.map V.int)) := upd_same
          show tSeq _ _ _ _ (upd H3 q (.lst (ns.map V.int)))
          generalize (upd H3 q (.lst (ns.map V.int))) = H4 at e3 f1 f2'
          refine ⟨_, rfl, _, _, _, _, rfl, rfl, SqL.of f1, rfl, _, _, rfl, rfl, .inl ⟨by omega, by omega⟩, _, rfl, _, _, rfl, rfl, _, _, rfl, rfl, .inl ⟨_, rfl, _, _, rfl, rfl, (show (2147483647 : Int) ≠ 0 by decide), _, rfl, st, _, 3, 3, rfl, rfl, f1, rfl, ?_⟩⟩
          have r1 := Int.fmod_nonneg_of_pos (m * 8191 + z + 3) (show (0 : Int) < 2147483647 by decide)
          have r2 := Int.fmod_lt_of_pos (m * 8191 + z + 3) (show (0 : Int) < 2147483647 by decide)
          have e4 : Ex [st, q] F H F (upd H4 st (sO q 0 (k + 1) ((m * 8191 + z + 3).fmod 2147483647))) := e3.trans (Ex.put e3.fh f1_ (by simp))
          have g1 : (upd H4 st (sO q 0 (k + 1) ((m * 8191 + z + 3).fmod 2147483647))) st = some (sO q 0 (k + 1) ((m * 8191 + z + 3).fmod 2147483647)) := upd_same
          have g2 : (upd H4 st (sO q 0 (k + 1) ((m * 8191 + z + 3).fmod 2147483647))) q = some (.lst (ns.map V.int)) := by rw [upd_ne hne.symm]; exact f2'
          refine ⟨_, rfl, _, _, rfl, rfl, ⟨by decide, by decide, by decide⟩, _, _, rfl, rfl, _, rfl, ?_⟩
          have done_ : ∀ l' : Int, 0 ≤ l' → (fun (σ' : L2.St) (H' : Hp) => (∃ (ns : List Int) (l m : Int) (v : Option V), σ' = [some (V.ref st), some (V.int many), v, none, none] ∧ Ex [st, q] F H F H' ∧ H' st = some (.lst [.ref q, .int l, .int (k + 1), .int m]) ∧ H' q = some (.lst (ns.map V.int)) ∧ 0 ≤ l ∧ 0 ≤ m ∧ m < 2147483647) ∧ (match H' q with | some (.lst xs) => xs.length | _ => 0) < (match H2 q with | some (.lst xs) => xs.length | _ => 0))
              [some (V.ref st), some (V.int many), some (.int z), none, none] (upd (upd H4 st (sO q 0 (k + 1) ((m * 8191 + z + 3).fmod 2147483647))) st (sO q l' (k + 1) ((m * 8191 + z + 3).fmod 2147483647))) := fun l' hl' => by
            have y : (upd (upd H4 st (sO q 0 (k + 1) ((m * 8191 + z + 3).fmod 2147483647))) st (sO q l' (k + 1) ((m * 8191 + z + 3).fmod 2147483647))) q = some (.lst (ns.map V.int)) := by rw [upd_ne hne.symm]; exact g2
            refine ⟨⟨ns, l', _, _, rfl, e4.trans (Ex.put e4.fh f1_ (by simp)), upd_same, y, hl', r1, r2⟩, ?_⟩
            show (match (upd (upd H4 st (sO q 0 (k + 1) ((m * 8191 + z + 3).fmod 2147483647))) st _) q with | some (.lst xs) => xs.length | _ => 0) < _
            rw [y, e2]
            simp
          refine ite2 (fun hz => ?_) (fun hz => ?_)
          · refine ⟨_, rfl, _, rfl, st, _, 1, 1, rfl, rfl, g1, rfl, done_ z ?_⟩
            have : (10 : Int) ^ (18 : Int).toNat ≤ z := by simpa using hz
            have h10 : (10 : Int) ^ (18 : Int).toNat = 1000000000000000000 := by decide
            omega
          · exact ⟨_, rfl, st, _, 1, 1, rfl, rfl, g1, rfl, done_ 0 (by decide)⟩
      · exact after _ _ _ _ _ e' d1 d2 (by decide) hm1 hm2
    · exact after _ _ _ _ _ e e1 e2 hl hm1 hm2
  · intro σ H Q Q' hQ hq
    obtain ⟨v, h1, p, xs, i, v2, h2, h3, h4, h5, h6, k1, h7, h8⟩ := hq
    refine ⟨v, h1, p, xs, i, v2, h2, h3, h4, h5, h6, k1, h7, ?_⟩
    revert h8
    cases k1
    · intro h8; exact hQ _ _ h8
    · intro h8
      obtain ⟨v, h1, p, xs, i, v2, h2, h3, h4, h5, h6, h7⟩ := h8
      refine ⟨v, h1, p, xs, i, v2, h2, h3, h4, h5, h6, fun p hp => ?_⟩
      obtain ⟨d, e, q1, q2, q3, q4, k2, q5, q6⟩ := h7 p hp
      exact ⟨d, e, q1, q2, q3, q4, k2, q5, hQ _ _ q6⟩
end
end T3

namespace T3
open PySem PySem.Spec PyProof.Rows L2 Ly
section
variable {P : Program} {w : World} {K : PySem.W.Frag} {mg : Str → Option Value} {base : Heap}
theorem Strm.up {F F' H : Hp} {st q : Addr} {c : Int} (s : Strm F H st q c) (h1 : F' st = none) (h2 : F' q = none) : Strm F' H st q c := by
  obtain ⟨ns, l, k, m, a, b, c1, c2, c3, c4, c5, _, _, d⟩ := s
  exact ⟨ns, l, k, m, a, b, c1, c2, c3, c4, c5, h1, h2, d⟩
/-- what leaves the spring alone keeps it -/
theorem Strm.ex {M : List Addr} {F H F' H' : Hp} {st q : Addr} {c : Int} (s : Strm F H st q c) (e : Ex M F H F' H') (h1 : st ∉ M) (h2 : q ∉ M) : Strm F' H' st q c := by
  obtain ⟨ns, l, k, m, a, b, c1, c2, c3, c4, c5, d1, d2, d⟩ := s
  exact ⟨ns, l, k, m, e.at a h1, e.at b h2, c1, c2, c3, c4, c5, e.nf d1 (ne_none a), e.nf d2 (ne_none b), d⟩
theorem Strm.ex0 {F H F' H' : Hp} {st q : Addr} {c : Int} (s : Strm F H st q c) (e : Ex [] F H F' H') : Strm F' H' st q c := s.ex e (by simp) (by simp)
theorem Strm.le {F H : Hp} {st q : Addr} {c c' : Int} (s : Strm F H st q c) (h : c ≤ c') : Strm F H st q c' := by
  obtain ⟨ns, l, k, m, a, b, c1, c2, c3, c4, c5, d⟩ := s
  exact ⟨ns, l, k, m, a, b, c1, c2, c3, c4, by omega, d⟩
theorem Strm.hs {F H : Hp} {st q : Addr} {c : Int} (s : Strm F H st q c) : H st ≠ none ∧ H q ≠ none ∧ F st = none ∧ F q = none := by
  obtain ⟨ns, l, k, m, a, b, c1, c2, c3, c4, c5, d1, d2, d⟩ := s
  exact ⟨ne_none a, ne_none b, d1, d2⟩
/-- what is no part of the spring stands behind a draw -/
theorem Strm.ne {F H : Hp} {st q p : Addr} {c : Int} (s : Strm F H st q c) (h : F p ≠ none ∨ H p = none) : p ∉ [st, q] := by
  obtain ⟨a, b, c, d⟩ := s.hs
  intro z
  simp only [List.mem_cons, List.not_mem_nil, or_false] at z
  rcases h with h | h
  · rcases z with z | z
    · rw [z] at h; exact h c
    · rw [z] at h; exact h d
  · rcases z with z | z
    · rw [z] at h; exact a h
    · rw [z] at h; exact b h
/-- one of some things -/
def spPick : Sp := fun vs H Q _ => ∃ (st q a : Addr) (xs : List V) (F : Hp) (c : Int), vs = [.ref st, .ref a] ∧ Same F H ∧ Strm F H st q c ∧ F a = some (.lst xs) ∧ 0 < xs.length ∧ xs.length < 1000000 ∧ c < 1000000000 ∧
  ∀ v H', v ∈ xs → Ex [st, q] F H F H' → Strm F H' st q (c + 1) → Q v H'
theorem ok_law_pick (T : Top K mg) : Ok P w K mg base "_law_pick" 2 ["_law_stream", "_law_some"] spPick := by
  have G : Ok P w K mg base "_law_draw" 1 ["_law_stream", "_law_many"] spDraw := ok_law_draw T
  refine ok_of T.g__law_pick T.F_law_pick sc_law_pick (fun _ _ _ _ _ _ us hl => match us, hl with | [_, _], _ => rfl) (fun vs H Q E h => ?_) (fun cdv A outer s H vs Q E hr h => ?_)
  · obtain ⟨st, q, a, xs, F, c, rfl, _⟩ := h
    rfl
  obtain ⟨st, q, a, xs, F, c, rfl, hF, hS, ha, hl0, hl1, hc, kk⟩ := h
  refine ⟨_, (pss_one (ps_ret (pe_ix ix_list (pv 1) (pe_ok G hr (pa_cons (pv 0) (pa_cons (pe_callB call_len_seq rfl T.b_len (by decide +kernel) (pa_cons (pv 1) pa_nil)) pa_nil))) (fun _ _ => rfl)))), ?_⟩
  refine ⟨_, rfl, _, rfl, _, rfl, _, _, rfl, .inl (SqL.of (hF _ _ ha)), st, q, _, F, c, rfl, hF, hS, (by omega), (by omega), hc, fun d H1 d0 d1 e1 s1 => ?_⟩
  have hd : d.toNat < xs.length := by omega
  refine ⟨a, xs, d, xs[d.toNat], rfl, rfl, SqL.of (e1.fh _ _ ha), ?_, kk _ _ (List.getElem_mem hd) e1 s1⟩
  exact at_toNat d0 hd
end
end T3

namespace T3
open PySem PySem.Spec PyProof.Rows L2 Ly
section
variable {P : Program} {w : World} {K : PySem.W.Frag} {mg : Str → Option Value} {base : Heap}
def spIsList : Sp := fun vs H Q _ => ∃ (x : V) (d : PyData) (F : Hp), vs = [x] ∧ Same F H ∧ Dd F d x ∧ ∀ H', Ex [] F H F H' → Q (.bl (seqy d)) H'
theorem ok_is_list (T : Top K mg) : Ok P w K mg base "is_list" 1 ["thing"] spIsList := by
  refine ok_of T.g_is_list T.F_is_list sc_is_list (fun _ _ _ _ _ _ us hl => match us, hl with | [_], _ => rfl) (fun vs H Q E h => ?_) (fun cdv A outer s H vs Q E hr h => ?_)
  · first | (obtain ⟨rfl, _⟩ := h; rfl) | (obtain ⟨_, rfl, _⟩ := h; rfl) | (obtain ⟨_, _, rfl, _⟩ := h; rfl) | (obtain ⟨_, _, _, rfl, _⟩ := h; rfl) | (obtain ⟨_, _, _, _, rfl, _⟩ := h; rfl) | (obtain ⟨_, _, _, _, _, rfl, _⟩ := h; rfl) | (obtain ⟨_, _, _, _, _, _, rfl, _⟩ := h; rfl) | (obtain ⟨_, _, _, _, _, _, _, rfl, _⟩ := h; rfl) | (obtain ⟨_, _, _, _, _, _, _, _, rfl, _⟩ := h; rfl) | (obtain ⟨_, _, _, _, _, _, _, _, _, rfl, _⟩ := h; rfl) | (obtain ⟨_, _, _, _, _, _, _, _, _, _, rfl, _⟩ := h; rfl) | (obtain ⟨_, _, _, _, _, _, _, _, _, _, _, rfl, _⟩ := h; rfl)
  obtain ⟨x, d, F, rfl, hF, hd, kk⟩ := h
  refine ⟨_, (pss_one (ps_ret (pe_callB call_isiT rfl T.b_isinstance (by decide +kernel) (pa_cons (pv 0) (pa_cons (pe_tup (pa_cons (pe_bltn rfl T.b_list (by decide +kernel) (show RelV (.ty "list") _ from rfl)) (pa_cons (pe_bltn rfl T.b_tuple (by decide +kernel) (show RelV (.ty "tuple") _ from rfl)) pa_nil))) pa_nil))))), ?_⟩
  refine ⟨_, rfl, by show 2 ≤ sizeLine; decide, fun p hp => ?_⟩
  have e : Ex [] F H F (upd H p (.tup [.ty "list", .ty "tuple"])) := Ex.new hF hp
  exact ⟨x, p, _, .type (tyN d), [.type "list", .type "tuple"], seqy d, rfl, upd_same, .cons (.ty _) (.cons (.ty _) .nil), dd_tyx hd e.fh, kit_seq d, kk _ e⟩
def spIsInteger : Sp := fun vs H Q _ => ∃ (x : V) (d : PyData) (F : Hp), vs = [x] ∧ Same F H ∧ Dd F d x ∧ Q (.bl (inty d)) H
theorem ok_is_integer (T : Top K mg) : Ok P w K mg base "is_integer" 1 ["thing"] spIsInteger := by
  refine ok_of T.g_is_integer T.F_is_integer sc_is_integer (fun _ _ _ _ _ _ us hl => match us, hl with | [_], _ => rfl) (fun vs H Q E h => ?_) (fun cdv A outer s H vs Q E hr h => ?_)
  · first | (obtain ⟨rfl, _⟩ := h; rfl) | (obtain ⟨_, rfl, _⟩ := h; rfl) | (obtain ⟨_, _, rfl, _⟩ := h; rfl) | (obtain ⟨_, _, _, rfl, _⟩ := h; rfl) | (obtain ⟨_, _, _, _, rfl, _⟩ := h; rfl) | (obtain ⟨_, _, _, _, _, rfl, _⟩ := h; rfl) | (obtain ⟨_, _, _, _, _, _, rfl, _⟩ := h; rfl) | (obtain ⟨_, _, _, _, _, _, _, rfl, _⟩ := h; rfl) | (obtain ⟨_, _, _, _, _, _, _, _, rfl, _⟩ := h; rfl) | (obtain ⟨_, _, _, _, _, _, _, _, _, rfl, _⟩ := h; rfl) | (obtain ⟨_, _, _, _, _, _, _, _, _, _, rfl, _⟩ := h; rfl) | (obtain ⟨_, _, _, _, _, _, _, _, _, _, _, rfl, _⟩ := h; rfl)
  obtain ⟨x, d, F, rfl, hF, hd, kk⟩ := h
  refine ⟨_, (pss_one (ps_ret (pe_and (pe_callB call_isi rfl T.b_isinstance (by decide +kernel) (pa_cons (pv 0) (pa_cons (pe_bltn rfl T.b_int (by decide +kernel) (show RelV (.ty "int") _ from rfl)) pa_nil))) (pe_one (pe_not (pe_callB call_isi rfl T.b_isinstance (by decide +kernel) (pa_cons (pv 0) (pa_cons (pe_bltn rfl T.b_bool (by decide +kernel) (show RelV (.ty "bool") _ from rfl)) pa_nil)))))))), ?_⟩
  refine ⟨_, rfl, x, .ty "int", _, _, _, rfl, .ty _, dd_tyx hd hF, kit_int d, _, rfl, ?_⟩
  cases hi : intb d with
  | false =>
    refine iteF ?_
    have : inty d = false := by cases d <;> simp_all [inty, intb]
    rw [this] at kk; exact kk
  | true =>
    refine iteT ⟨_, rfl, x, .ty "bool", _, _, _, rfl, .ty _, dd_tyx hd hF, kit_bool d, _, rfl, ?_⟩
    have : inty d = !boolb d := by cases d <;> simp_all [inty, intb, boolb]
    rw [this] at kk; exact kk
def numy : PyData → Bool
  | .int i => decide (0 ≤ i)
  | _ => false
def spIsNumber : Sp := fun vs H Q _ => ∃ (x : V) (d : PyData) (F : Hp), vs = [x] ∧ Same F H ∧ Dd F d x ∧ Q (.bl (numy d)) H
theorem ok_is_number (T : Top K mg) : Ok P w K mg base "is_number" 2 ["thing"] spIsNumber := by
  have G_is_integer : Ok P w K mg base "is_integer" 1 ["thing"] spIsInteger := ok_is_integer T
  refine ok_of T.g_is_number T.F_is_number sc_is_number (fun _ _ _ _ _ _ us hl => match us, hl with | [_], _ => rfl) (fun vs H Q E h => ?_) (fun cdv A outer s H vs Q E hr h => ?_)
  · first | (obtain ⟨rfl, _⟩ := h; rfl) | (obtain ⟨_, rfl, _⟩ := h; rfl) | (obtain ⟨_, _, rfl, _⟩ := h; rfl) | (obtain ⟨_, _, _, rfl, _⟩ := h; rfl) | (obtain ⟨_, _, _, _, rfl, _⟩ := h; rfl) | (obtain ⟨_, _, _, _, _, rfl, _⟩ := h; rfl) | (obtain ⟨_, _, _, _, _, _, rfl, _⟩ := h; rfl) | (obtain ⟨_, _, _, _, _, _, _, rfl, _⟩ := h; rfl) | (obtain ⟨_, _, _, _, _, _, _, _, rfl, _⟩ := h; rfl) | (obtain ⟨_, _, _, _, _, _, _, _, _, rfl, _⟩ := h; rfl) | (obtain ⟨_, _, _, _, _, _, _, _, _, _, rfl, _⟩ := h; rfl) | (obtain ⟨_, _, _, _, _, _, _, _, _, _, _, rfl, _⟩ := h; rfl)
  obtain ⟨x, d, F, rfl, hF, hd, kk⟩ := h
  refine ⟨_, (pss_one (ps_ret (pe_and (pe_ok G_is_integer hr (pa_cons (pv 0) pa_nil)) (pe_one (pe_cmpR op_ge (pv 0) pe_int (nomark _)))))), ?_⟩
  refine ⟨_, rfl, x, d, F, rfl, hF, hd, _, rfl, ?_⟩
  cases d with
  | int i =>
    have := dd_int.mp hd
    subst this
    exact iteT ⟨_, rfl, _, _, rfl, rfl, kk⟩
  | _ => exact iteF kk
theorem ok_never {x : Str} {params : Arguments} {body : List Stmt} {scope : Scope} {ps : List Str} {k : Nat} (hm : mg x = some (.ref (He.ga K x)))
    (F : ∃ fd, FunD K x x params body scope [] [] (He.ga K x) fd)
    (hb : ∀ (kV doc pm : Value) (an : Option Addr) (cdv ct : Value) (us : List Value), us.length = ps.length → bindArgs (PySem.W.fnOf x x params body scope .none kV doc pm an cdv ct) ⟨us, []⟩ = pure (ps.zip us))
    {sp : Sp} (no : ∀ vs H Q E, sp vs H Q E → False) : Ok P w K mg base x k ps sp := by
  obtain ⟨fd, F⟩ := F
  exact ⟨fd, hm, F.kp, F.bindsN hb, ⟨fun vs H Q E h => (no _ _ _ _ h).elim, fun A outer s H args us vs Q E _ _ _ _ h => (no _ _ _ _ h).elim⟩⟩
def spIsWord (n : Nat) : Sp := fun vs H Q _ => ∃ (x : V) (d : PyData) (F : Hp), vs = [x] ∧ Same F H ∧ Dd F d x ∧ d.depth < n ∧ ∀ H', Ex [] F H F H' → Q (.bl (wordy d)) H'
theorem bools_take {ds : List PyData} {k : Nat} {d : PyData} (h : ds[k]? = some d) (f : PyData → V) : (ds.take (k + 1)).map f = (ds.take k).map f ++ [f d] := by
  rw [List.take_add_one, h]; simp
theorem wordys_all : ∀ ds : List PyData, (ds.map wordy).all id = wordys ds
  | [] => by simp [wordys]
  | d :: ds => by simp only [List.map_cons, List.all_cons, wordys, id]; rw [wordys_all ds]
theorem dds_small {F H : Hp} {a : Addr} {vs : List V} : True := trivial
theorem ok_is_word (T : Top K mg) : ∀ n : Nat, Ok P w K mg base "is_word" (n + 3) ["thing"] (spIsWord n)
  | 0 => ok_never T.g_is_word T.F_is_word (fun _ _ _ _ _ _ us hl => match us, hl with | [_], _ => rfl) fun vs H Q E h => by
    obtain ⟨x, d, F, _, _, _, h, _⟩ := h
    omega
  | n + 1 => by
    have G_is_list : Ok P w K mg base "is_list" 1 ["thing"] spIsList := ok_is_list T
    have G_is_integer : Ok P w K mg base "is_integer" 1 ["thing"] spIsInteger := ok_is_integer T
    have G_is_word : Ok P w K mg base "is_word" (n + 3) ["thing"] (spIsWord n) := ok_is_word T n
    refine ok_of T.g_is_word T.F_is_word sc_is_word (fun _ _ _ _ _ _ us hl => match us, hl with | [_], _ => rfl) (fun vs H Q E h => ?_) (fun cdv A outer s H vs Q E hr h => ?_)
    · first | (obtain ⟨rfl, _⟩ := h; rfl) | (obtain ⟨_, rfl, _⟩ := h; rfl) | (obtain ⟨_, _, rfl, _⟩ := h; rfl) | (obtain ⟨_, _, _, rfl, _⟩ := h; rfl) | (obtain ⟨_, _, _, _, rfl, _⟩ := h; rfl) | (obtain ⟨_, _, _, _, _, rfl, _⟩ := h; rfl) | (obtain ⟨_, _, _, _, _, _, rfl, _⟩ := h; rfl) | (obtain ⟨_, _, _, _, _, _, _, rfl, _⟩ := h; rfl) | (obtain ⟨_, _, _, _, _, _, _, _, rfl, _⟩ := h; rfl) | (obtain ⟨_, _, _, _, _, _, _, _, _, rfl, _⟩ := h; rfl) | (obtain ⟨_, _, _, _, _, _, _, _, _, _, rfl, _⟩ := h; rfl) | (obtain ⟨_, _, _, _, _, _, _, _, _, _, _, rfl, _⟩ := h; rfl)
    obtain ⟨x, d, F, rfl, hF, hd, hn, kk⟩ := h
    refine ⟨_, (pss_cons (ps_if (pt_val (pe_ok G_is_list hr (pa_cons (pv 0) pa_nil))) (pss_one (ps_ret (pe_callB (cr_all rfl) rfl T.b_all (by decide +kernel) (pa_cons (pe_lc (own := [("part", 1)]) (g := (gName 1)) (tt := tYes) (te := (tCall (spIsWord n) [] E0 (tCons (tVar 1) tNil))) rfl sc_is_word.nd (pi_seqV (pv 0)) (blkOk_by (own := [("part", 1)]) (N := N_is_word) (sc := defScope s_is_word) (by decide +kernel)) (fun _ _ _ _ _ => (pg_name (i := 1) sc_is_word.nd rfl (Or.inl rfl))) (fun _ _ _ _ _ => pts_nil) (fun _ _ _ _ _ => (pe_ok G_is_word hr (pa_cons (pv 1) pa_nil)))) pa_nil)))) pss_nil)
    (pss_one (ps_ret (pe_or (pe_ok G_is_integer hr (pa_cons (pv 0) pa_nil)) (pe_one (pe_callB call_isi rfl T.b_isinstance (by decide +kernel) (pa_cons (pv 0) (pa_cons (pe_bltn rfl T.b_str (by decide +kernel) (show RelV (.ty "str") _ from rfl)) pa_nil)))))))), ?_⟩
    refine ⟨_, rfl, x, d, F, rfl, hF, hd, fun H1 e1 => ⟨_, rfl, ?_⟩⟩
    have seq : ∀ (ds : List PyData) (a : Addr) (vs : List V), (F a = some (.lst vs) ∨ F a = some (.tup vs)) → x = .ref a → Dds F ds vs → wordy d = wordys ds → PyData.depthAll ds < n → vs.length < sizeLine →
        tRet (tCB (rAll K) (tCons (tLc (iSeqV K 0) (gName 1) tYes (tCall (spIsWord n) [] E0 (tCons (tVar 1) tNil)) [1]) tNil)) { nx := fun _ H' => Q .non H', rt := Q } [some x, none] H1 := by
      intro ds a vs ha hx hds hw hdn hvs
      subst hx
      refine r_ret (r_cb (r_cons (lcg_seqV [] rfl ha e1.fh (by simp) hvs (fun k acc _ => acc = (ds.take k).map fun d => .bl (wordy d)) (fun _ _ _ => True) (fun _ _ _ _ _ h => h) (fun _ _ _ _ _ _ _ _ _ => trivial) rfl trivial ?_ ?_)))
      · intro k y acc F' H' Kk Nk hk hy e p _ _ k1 _
        refine ⟨rfl, _, rfl, ?_⟩
        obtain ⟨d', hd', dd'⟩ := hds.get hy
        refine ⟨y, d', F', rfl, e.fh, dd'.up e.ff, ?_, fun H4 e4 => k1 _ F' H4 e4 ?_ trivial⟩
        · have := depth_mem (List.mem_of_getElem? hd'); omega
        · rw [bools_take hd', p]
      · intro D acc F' H' e hD fD hd' p _ _
        have l1 := hds.len
        refine ⟨D, ds.map wordy, rfl, SqL.of (by rw [hd', p, List.take_of_length_le (by omega)]; simp), ?_⟩
        rw [wordys_all, ← hw]
        exact kk H' (by
          have := e1.trans (e.mono (M' := []) (by simp))
          exact ⟨Same.refl F, fun b o z => this.fh b o (this.ff b o z), this.hh, this.dm, fun b z => .inl z⟩)
    cases d with
    | list ds =>
      obtain ⟨a, vs, h1, h2, h3, h4⟩ := dd_list.mp hd
      exact iteT (seq ds a vs (.inl h2) h1 h3 (by simp [wordy]) (by simp [PyData.depth] at hn; omega) (by rw [h3.len]; exact Nat.lt_trans h4 (by decide)))
    | tuple ds =>
      obtain ⟨a, vs, h1, h2, h3, h4⟩ := dd_tuple.mp hd
      exact iteT (seq ds a vs (.inr h2) h1 h3 (by simp [wordy]) (by simp [PyData.depth] at hn; omega) (by rw [h3.len]; exact Nat.lt_trans h4 (by decide)))
    | int i => exact iteF ⟨_, rfl, x, _, F, rfl, e1.fh, hd, _, rfl, iteT (kk _ e1)⟩
    | none => exact iteF ⟨_, rfl, x, _, F, rfl, e1.fh, hd, _, rfl, iteF ⟨_, rfl, x, .ty "str", _, _, _, rfl, .ty _, dd_tyx hd e1.fh, kit_str _, kk _ e1⟩⟩
    | bool b => exact iteF ⟨_, rfl, x, _, F, rfl, e1.fh, hd, _, rfl, iteF ⟨_, rfl, x, .ty "str", _, _, _, rfl, .ty _, dd_tyx hd e1.fh, kit_str _, kk _ e1⟩⟩
    | str s => exact iteF ⟨_, rfl, x, _, F, rfl, e1.fh, hd, _, rfl, iteF ⟨_, rfl, x, .ty "str", _, _, _, rfl, .ty _, dd_tyx hd e1.fh, kit_str _, kk _ e1⟩⟩
    | dict kvs => exact iteF ⟨_, rfl, x, _, F, rfl, e1.fh, hd, _, rfl, iteF ⟨_, rfl, x, .ty "str", _, _, _, rfl, .ty _, dd_tyx hd e1.fh, kit_str _, kk _ e1⟩⟩
end
end T3

namespace T3
open PySem PySem.Spec PyProof.Rows L2 Ly
section
variable {P : Program} {w : World} {K : PySem.W.Frag} {mg : Str → Option Value} {base : Heap}
theorem toWs_at : ∀ {ds : List PyData} {k : Nat} {d : PyData}, ds[k]? = some d → (toWs ds).take (k + 1) = (toWs ds).take k ++ [toW d]
  | [], k, d, h => by simp at h
  | e :: ds, 0, d, h => by simp at h; subst h; simp [toWs]
  | e :: ds, k + 1, d, h => by
    simp at h
    simp only [toWs, List.take_succ_cons, List.cons_append]
    rw [toWs_at h]
theorem toWs_len : ∀ ds : List PyData, (toWs ds).length = ds.length
  | [] => rfl
  | _ :: ds => by simp only [toWs, List.length_cons, toWs_len ds]
theorem wordys_mem {d : PyData} : ∀ {ds : List PyData}, wordys ds = true → d ∈ ds → wordy d = true
  | [], _, h => by simp at h
  | e :: ds, h, hm => by
    simp only [wordys, Bool.and_eq_true] at h
    rcases List.mem_cons.mp hm with q | q
    · rw [q]; exact h.1
    · exact wordys_mem h.2 q
def spAsWord (n : Nat) : Sp := fun vs H Q _ => ∃ (x : V) (d : PyData) (F : Hp), vs = [x] ∧ Same F H ∧ Dd F d x ∧ wordy d = true ∧ d.depth < n ∧ ∀ v F' H', Ex [] F H F' H' → Wk F' (toW d) v → Q v H'
theorem ok_as_word (T : Top K mg) : ∀ n : Nat, Ok P w K mg base "as_word" (n + 3) ["thing"] (spAsWord n)
  | 0 => ok_never T.g_as_word T.F_as_word (fun _ _ _ _ _ _ us hl => match us, hl with | [_], _ => rfl) fun vs H Q E h => by
    obtain ⟨x, d, F, _, _, _, _, h, _⟩ := h
    omega
  | n + 1 => by
    have G_is_list : Ok P w K mg base "is_list" 1 ["thing"] spIsList := ok_is_list T
    have G_as_word : Ok P w K mg base "as_word" (n + 3) ["thing"] (spAsWord n) := ok_as_word T n
    refine ok_of T.g_as_word T.F_as_word sc_as_word (fun _ _ _ _ _ _ us hl => match us, hl with | [_], _ => rfl) (fun vs H Q E h => ?_) (fun cdv A outer s H vs Q E hr h => ?_)
    · first | (obtain ⟨rfl, _⟩ := h; rfl) | (obtain ⟨_, rfl, _⟩ := h; rfl) | (obtain ⟨_, _, rfl, _⟩ := h; rfl) | (obtain ⟨_, _, _, rfl, _⟩ := h; rfl) | (obtain ⟨_, _, _, _, rfl, _⟩ := h; rfl) | (obtain ⟨_, _, _, _, _, rfl, _⟩ := h; rfl) | (obtain ⟨_, _, _, _, _, _, rfl, _⟩ := h; rfl) | (obtain ⟨_, _, _, _, _, _, _, rfl, _⟩ := h; rfl) | (obtain ⟨_, _, _, _, _, _, _, _, rfl, _⟩ := h; rfl) | (obtain ⟨_, _, _, _, _, _, _, _, _, rfl, _⟩ := h; rfl) | (obtain ⟨_, _, _, _, _, _, _, _, _, _, rfl, _⟩ := h; rfl) | (obtain ⟨_, _, _, _, _, _, _, _, _, _, _, rfl, _⟩ := h; rfl)
    obtain ⟨x, d, F, rfl, hF, hd, hw, hn, kk⟩ := h
    refine ⟨_, (pss_one (ps_ret (pe_ifExp (pt_val (pe_ok G_is_list hr (pa_cons (pv 0) pa_nil))) (pe_callTy call_tuple_of rfl T.b_tuple (by decide +kernel) (pa_cons (pe_lc (own := [("part", 1)]) (g := (gName 1)) (tt := tYes) (te := (tCall (spAsWord n) [] E0 (tCons (tVar 1) tNil))) rfl sc_as_word.nd (pi_seqV (pv 0)) (blkOk_by (own := [("part", 1)]) (N := N_as_word) (sc := defScope s_as_word) (by decide +kernel)) (fun _ _ _ _ _ => (pg_name (i := 1) sc_as_word.nd rfl (Or.inl rfl))) (fun _ _ _ _ _ => pts_nil) (fun _ _ _ _ _ => (pe_ok G_as_word hr (pa_cons (pv 1) pa_nil)))) pa_nil)) (pv 0)))), ?_⟩
    refine r_ret (r_if (r_b ⟨_, rfl, x, d, F, rfl, hF, hd, fun H1 e1 => ⟨_, rfl, ?_⟩⟩))
    have seq : ∀ (ds : List PyData) (a : Addr) (vs : List V), (F a = some (.lst vs) ∨ F a = some (.tup vs)) → x = .ref a → Dds F ds vs → ds.length < 1000000 → wordys ds = true → toW d = .tup (toWs ds) → PyData.depthAll ds < n →
        tCB (RTuple K) (tCons (tLc (iSeqV K 0) (gName 1) tYes (tCall (spAsWord n) [] E0 (tCons (tVar 1) tNil)) [1]) tNil) [some x, none] H1 Q := by
      intro ds a vs ha hx hds hl hws htw hdn
      subst hx
      have l1 := hds.len
      refine r_cb (r_cons (lcg_seqV [] rfl ha e1.fh (by simp) (by rw [l1]; exact Nat.lt_trans hl (by decide)) (fun k acc F => Wks F ((toWs ds).take k) acc) (fun _ _ _ => True) (fun _ _ _ _ h q => q.up h) (fun _ _ _ _ _ _ _ _ _ => trivial) (by simp; exact Wks.nil) trivial ?_ ?_))
      · intro k y acc F' H' Kk Nk hk hy e p _ _ k1 _
        refine ⟨rfl, _, rfl, ?_⟩
        obtain ⟨d', hd', dd'⟩ := hds.get hy
        refine ⟨y, d', F', rfl, e.fh, dd'.up e.ff, wordys_mem hws (List.mem_of_getElem? hd'), ?_, fun v F4 H4 e4 wv => k1 v F4 H4 e4 ?_ trivial⟩
        · have := depth_mem (List.mem_of_getElem? hd'); omega
        · rw [toWs_at hd']
          exact (p.up e4.ff).app (Wks.one wv)
      · intro D acc F' H' e hD fD hd' p _ _
        rw [List.take_of_length_le (by rw [toWs_len, l1]; exact Nat.le_refl _)] at p
        refine ⟨D, acc, rfl, .inl ⟨SqL.of hd', fun q hq => ?_⟩⟩
        have e2 : Ex [] F H (upd F' q (.tup acc)) (upd H' q (.tup acc)) := (e1.trans e).trans (Ex.newF e.fh hq)
        refine kk _ _ _ e2 ?_
        rw [htw]
        exact wk_new (Same.free e.fh hq) p (by rw [toWs_len]; exact hl)
    cases d with
    | list ds =>
      obtain ⟨a, vs, h1, h2, h3, h4⟩ := dd_list.mp hd
      exact iteT (seq ds a vs (.inl h2) h1 h3 h4 (by simpa [wordy] using hw) (by simp [toW]) (by simp [PyData.depth] at hn; omega))
    | tuple ds =>
      obtain ⟨a, vs, h1, h2, h3, h4⟩ := dd_tuple.mp hd
      exact iteT (seq ds a vs (.inr h2) h1 h3 h4 (by simpa [wordy] using hw) (by simp [toW]) (by simp [PyData.depth] at hn; omega))
    | int i => exact iteF ⟨_, rfl, kk _ _ _ e1 (by simpa [toW, Wk, Dd] using hd)⟩
    | str s => exact iteF ⟨_, rfl, kk _ _ _ e1 (by simpa [toW, Wk, Dd] using hd)⟩
    | none => simp [wordy] at hw
    | bool b => simp [wordy] at hw
    | dict kvs => simp [wordy] at hw
/-! ### the key of a word -/
theorem okeys_at : ∀ {ks : List W} {i : Nat} {k : W}, ks[i]? = some k → (okeys ks).take (i + 1) = (okeys ks).take i ++ [okey k]
  | [], i, k, h => by simp at h
  | e :: ks, 0, k, h => by simp at h; subst h; simp [okeys]
  | e :: ks, i + 1, k, h => by
    simp at h
    simp only [okeys, List.take_succ_cons, List.cons_append]
    rw [okeys_at h]
theorem fulls_mem {k : W} : ∀ {ks : List W}, fulls ks = true → k ∈ ks → full k = true
  | [], _, h => by simp at h
  | e :: ks, h, hm => by
    simp only [fulls, Bool.and_eq_true] at h
    rcases List.mem_cons.mp hm with q | q
    · rw [q]; exact h.1
    · exact fulls_mem h.2 q
theorem wdepth_mem {k : W} : ∀ {ks : List W}, k ∈ ks → k.depth ≤ NestedKey.depthAll ks
  | [], h => by simp at h
  | e :: ks, h => by
    simp only [NestedKey.depthAll]
    rcases List.mem_cons.mp h with h | h
    · rw [h]; omega
    · have := wdepth_mem h; omega
theorem ok_order_key (T : Top K mg) : ∀ n : Nat, Ok P w K mg base "order_key" (n + 3) ["word"] (spOrderKey n)
  | 0 => ok_never T.g_order_key T.F_order_key (fun _ _ _ _ _ _ us hl => match us, hl with | [_], _ => rfl) fun vs H Q E h => by
    obtain ⟨x, d, F, _, _, _, _, h, _⟩ := h
    omega
  | n + 1 => by
    have G_order_key : Ok P w K mg base "order_key" (n + 3) ["word"] (spOrderKey n) := ok_order_key T n
    refine ok_of T.g_order_key T.F_order_key sc_order_key (fun _ _ _ _ _ _ us hl => match us, hl with | [_], _ => rfl) (fun vs H Q E h => ?_) (fun cdv A outer s H vs Q E hr h => ?_)
    · first | (obtain ⟨rfl, _⟩ := h; rfl) | (obtain ⟨_, rfl, _⟩ := h; rfl) | (obtain ⟨_, _, rfl, _⟩ := h; rfl) | (obtain ⟨_, _, _, rfl, _⟩ := h; rfl) | (obtain ⟨_, _, _, _, rfl, _⟩ := h; rfl) | (obtain ⟨_, _, _, _, _, rfl, _⟩ := h; rfl) | (obtain ⟨_, _, _, _, _, _, rfl, _⟩ := h; rfl) | (obtain ⟨_, _, _, _, _, _, _, rfl, _⟩ := h; rfl) | (obtain ⟨_, _, _, _, _, _, _, _, rfl, _⟩ := h; rfl) | (obtain ⟨_, _, _, _, _, _, _, _, _, rfl, _⟩ := h; rfl) | (obtain ⟨_, _, _, _, _, _, _, _, _, _, rfl, _⟩ := h; rfl) | (obtain ⟨_, _, _, _, _, _, _, _, _, _, _, rfl, _⟩ := h; rfl)
    obtain ⟨x, k, F, rfl, hF, hk, hf, hn, kk⟩ := h
    refine ⟨_, (pss_cons (ps_if (pt_val (pe_callB call_isi rfl T.b_isinstance (by decide +kernel) (pa_cons (pv 0) (pa_cons (pe_bltn rfl T.b_tuple (by decide +kernel) (show RelV (.ty "tuple") _ from rfl)) pa_nil)))) (pss_one (ps_ret (pe_tup (pa_cons pe_int (pa_cons (pe_callTy call_tuple_of rfl T.b_tuple (by decide +kernel) (pa_cons (pe_lc (own := [("part", 1)]) (g := (gName 1)) (tt := tYes) (te := (tCall (spOrderKey n) [] E0 (tCons (tVar 1) tNil))) rfl sc_order_key.nd (pi_tup (pv 0)) (blkOk_by (own := [("part", 1)]) (N := N_order_key) (sc := defScope s_order_key) (by decide +kernel)) (fun _ _ _ _ _ => (pg_name (i := 1) sc_order_key.nd rfl (Or.inl rfl))) (fun _ _ _ _ _ => pts_nil) (fun _ _ _ _ _ => (pe_ok G_order_key hr (pa_cons (pv 1) pa_nil)))) pa_nil)) pa_nil))))) pss_nil)
    (pss_one (ps_ret (pe_ifExp (pt_val (pe_callB call_isi rfl T.b_isinstance (by decide +kernel) (pa_cons (pv 0) (pa_cons (pe_bltn rfl T.b_str (by decide +kernel) (show RelV (.ty "str") _ from rfl)) pa_nil)))) (pe_tup (pa_cons pe_int (pa_cons (pv 0) pa_nil))) (pe_tup (pa_cons pe_int (pa_cons (pv 0) pa_nil))))))), ?_⟩
    refine r_seq (r_ifS (r_b ⟨_, rfl, x, .ty "tuple", _, _, _, rfl, .ty _, dd_tyx (wk_dd hk) hF, kit_tup _, _, rfl, ?_⟩))
    have two : ∀ (i : Int) (v : V) (k' : W) (F1 H1 : Hp), Ex [] F H F1 H1 → Wk F1 k' v → ∀ p, H1 p = none → okey k = .tup [.num i, k'] → Q (.ref p) (upd H1 p (.tup [.int i, v])) := fun i v k' F1 H1 e wv p hp ek =>
      kk _ _ _ (e.trans (Ex.newF e.fh hp)) (by rw [ek]; exact wk_new (Same.free e.fh hp) (Wks.cons (wk_num.mpr rfl) (Wks.one wv)))
    cases k with
    | tup ks =>
      obtain ⟨a, vs, rfl, h2, h3, h4⟩ := wk_tup.mp hk
      have l1 := h3.len
      refine iteT (r_ret (r_tup (r_cons (r_c (r_cons (r_cb (r_cons (lcg_tup [] (fun R h => ⟨_, rfl, h⟩) h2 hF (by simp) (by rw [l1]; exact Nat.lt_trans h4 (by decide)) (fun k acc F => Wks F ((okeys ks).take k) acc) (fun _ _ _ => True) (fun _ _ _ _ h q => q.up h) (fun _ _ _ _ _ _ _ _ _ => trivial) (by simp; exact Wks.nil) trivial ?_ ?_))))))))
      · intro i y acc F' H' Kk Nk hi hy e p _ _ k1 _
        refine ⟨rfl, _, rfl, ?_⟩
        obtain ⟨k', hk', wk'⟩ := h3.get hy
        refine ⟨y, k', F', rfl, e.fh, wk'.up e.ff, fulls_mem (by simpa [full] using hf) (List.mem_of_getElem? hk'), ?_, fun v F4 H4 e4 wv => k1 v F4 H4 e4 ?_ trivial⟩
        · have := wdepth_mem (List.mem_of_getElem? hk')
          simp [NestedKey.depth] at hn; omega
        · rw [okeys_at hk']
          exact (p.up e4.ff).app (Wks.one wv)
      · intro D acc F' H' e hD fD hd' p _ _
        rw [List.take_of_length_le (by rw [okeys_len, l1]; exact Nat.le_refl _)] at p
        refine ⟨D, acc, rfl, .inl ⟨SqL.of hd', fun q hq => ?_⟩⟩
        have e2 : Ex [] F H (upd F' q (.tup acc)) (upd H' q (.tup acc)) := e.trans (Ex.newF e.fh hq)
        refine ⟨by show 2 ≤ sizeLine; decide, fun z hz => two 2 _ _ _ _ e2 (wk_new (Same.free e.fh hq) p (by rw [okeys_len]; exact h4)) z hz (by simp [okey])⟩
    | text s =>
      have := wk_text.mp hk
      subst this
      refine iteF (r_next ?_)
      dsimp only
      refine r_ret (r_if (r_b ?_))
      exact ⟨_, rfl, _, .ty "str", _, _, _, rfl, .ty _, dd_tyx (wk_dd hk) hF, kit_str _, _, rfl, iteT ⟨_, rfl, by show 2 ≤ sizeLine; decide, fun p hp => two 1 _ _ _ _ (Ex.refl hF) hk p hp (by simp [okey])⟩⟩
    | num i =>
      have := wk_num.mp hk
      subst this
      refine iteF (r_next ?_)
      dsimp only
      refine r_ret (r_if (r_b ?_))
      exact ⟨_, rfl, _, .ty "str", _, _, _, rfl, .ty _, dd_tyx (wk_dd hk) hF, kit_str _, _, rfl, iteF ⟨_, rfl, by show 2 ≤ sizeLine; decide, fun p hp => two 0 _ _ _ _ (Ex.refl hF) hk p hp (by simp [okey])⟩⟩
    | none => simp [full] at hf
end
end T3

namespace T3
open PySem PySem.Spec PyProof.Rows L2 Ly
section
variable {P : Program} {w : World} {K : PySem.W.Frag} {mg : Str → Option Value} {base : Heap}
def spAscending : Sp := fun vs H Q _ => ∃ (a : Addr) (xs : List V) (ws : List W) (F : Hp), vs = [.ref a] ∧ Same F H ∧ H a = some (.lst xs) ∧ Wks F ws xs ∧ (∀ k ∈ ws, full k = true ∧ k.depth ≤ 5) ∧
  ∀ p ys F' H', Ex [] F H F' H' → H p = none → F' p = none → H' p = some (.lst ys) → Wks F' (wsort ws) ys → Q (.ref p) H'
theorem ok_ascending (T : Top K mg) : Ok P w K mg base "ascending" 12 ["words"] spAscending := by
  have G_order_key : Ok P w K mg base "order_key" 9 ["word"] (spOrderKey 6) := ok_order_key T 6
  refine ok_of T.g_ascending T.F_ascending sc_ascending (fun _ _ _ _ _ _ us hl => match us, hl with | [_], _ => rfl) (fun vs H Q E h => ?_) (fun cdv A outer s H vs Q E hr h => ?_)
  · first | (obtain ⟨rfl, _⟩ := h; rfl) | (obtain ⟨_, rfl, _⟩ := h; rfl) | (obtain ⟨_, _, rfl, _⟩ := h; rfl) | (obtain ⟨_, _, _, rfl, _⟩ := h; rfl) | (obtain ⟨_, _, _, _, rfl, _⟩ := h; rfl) | (obtain ⟨_, _, _, _, _, rfl, _⟩ := h; rfl) | (obtain ⟨_, _, _, _, _, _, rfl, _⟩ := h; rfl) | (obtain ⟨_, _, _, _, _, _, _, rfl, _⟩ := h; rfl) | (obtain ⟨_, _, _, _, _, _, _, _, rfl, _⟩ := h; rfl) | (obtain ⟨_, _, _, _, _, _, _, _, _, rfl, _⟩ := h; rfl) | (obtain ⟨_, _, _, _, _, _, _, _, _, _, rfl, _⟩ := h; rfl) | (obtain ⟨_, _, _, _, _, _, _, _, _, _, _, rfl, _⟩ := h; rfl)
  obtain ⟨a, xs, ws, F, rfl, hF, ha, hw, ho, kk⟩ := h
  refine ⟨_, (pss_one (ps_ret (pe_sortedK G_order_key (hr.mono (by omega)) (by decide) T.b_sorted (pa_cons (pv 0) pa_nil)))), ?_⟩
  refine ⟨_, rfl, a, xs, ws, F, rfl, rfl, SqL.of ha, hF, hw, fulls_of fun k hk => (ho k hk).1, ?_, kk⟩
  have := dall_le (n := 5) fun k hk => (ho k hk).2
  omega
def spCheckedSigns : Sp := fun vs H Q _ => ∃ (a : Addr) (xs : List V) (sg : List W) (F : Hp), vs = [.ref a] ∧ Same F H ∧ F a = some (.lst xs) ∧ Wks F sg xs ∧ (∀ k ∈ sg, Wok k) ∧ 0 < sg.length ∧ sg.length < 1000000 ∧
  ∀ p ys F' H', Ex [] F H F' H' → H p = none → F' p = none → H' p = some (.lst ys) → Wks F' sg ys → Q (.ref p) H'
theorem wks_take_snoc {F : Hp} {ks : List W} {vs : List V} {i : Nat} {k : W} {v : V} (h : Wks F (ks.take i) vs) (e : ks[i]? = some k) (q : Wk F k v) : Wks F (ks.take (i + 1)) (vs ++ [v]) := by
  rw [List.take_add_one, e]
  exact Wks.app h (Wks.one q)
theorem ok_checked_signs (T : Top K mg) : Ok P w K mg base "checked_signs" 11 ["signs"] spCheckedSigns := by
  have G_is_list : Ok P w K mg base "is_list" 1 ["thing"] spIsList := ok_is_list T
  have G_is_word : Ok P w K mg base "is_word" 9 ["thing"] (spIsWord 6) := ok_is_word T 6
  have G_as_word : Ok P w K mg base "as_word" 9 ["thing"] (spAsWord 6) := ok_as_word T 6
  refine ok_of T.g_checked_signs T.F_checked_signs sc_checked_signs (fun _ _ _ _ _ _ us hl => match us, hl with | [_], _ => rfl) (fun vs H Q E h => ?_) (fun cdv A outer s H vs Q E hr h => ?_)
  · first | (obtain ⟨rfl, _⟩ := h; rfl) | (obtain ⟨_, rfl, _⟩ := h; rfl) | (obtain ⟨_, _, rfl, _⟩ := h; rfl) | (obtain ⟨_, _, _, rfl, _⟩ := h; rfl) | (obtain ⟨_, _, _, _, rfl, _⟩ := h; rfl) | (obtain ⟨_, _, _, _, _, rfl, _⟩ := h; rfl) | (obtain ⟨_, _, _, _, _, _, rfl, _⟩ := h; rfl) | (obtain ⟨_, _, _, _, _, _, _, rfl, _⟩ := h; rfl) | (obtain ⟨_, _, _, _, _, _, _, _, rfl, _⟩ := h; rfl) | (obtain ⟨_, _, _, _, _, _, _, _, _, rfl, _⟩ := h; rfl) | (obtain ⟨_, _, _, _, _, _, _, _, _, _, rfl, _⟩ := h; rfl) | (obtain ⟨_, _, _, _, _, _, _, _, _, _, _, rfl, _⟩ := h; rfl)
  obtain ⟨a, xs, sg, F, rfl, hF, ha, hw, ho, h0, h1, kk⟩ := h
  refine ⟨_, (pss_cons (ps_if (PW.pt (pw_or (pt_not (pt_val (pe_ok G_is_list hr (pa_cons (pv 0) pa_nil)))) (pw_or1 (pt_cmpR op_eq (pe_callB call_len_seq rfl T.b_len (by decide +kernel) (pa_cons (pv 0) pa_nil)) pe_int (nomark _))))) (pss_one ps_never) pss_nil)
    (pss_cons (ps_for PassesOwn.never rfl (pi_enum rfl T.b_enumerate (pa_cons (pv 0) pa_nil)) (pg_tup rfl (pgs_cons (pg_name (i := 1) sc_checked_signs.nd rfl (Or.inl rfl)) (pgs_cons (pg_name (i := 2) sc_checked_signs.nd rfl (Or.inl rfl)) pgs_nil))) (pss_one (ps_if (pt_not (pt_val (pe_ok G_is_word hr (pa_cons (pv 2) pa_nil)))) (pss_one ps_never) pss_nil)))
    (pss_one (ps_ret (pe_lc (own := [("sign", 2)]) (g := (gName 2)) (tt := tYes) (te := (tCall (spAsWord 6) [] E0 (tCons (tVar 2) tNil))) rfl sc_checked_signs.nd (pi_list (pv 0)) (blkOk_by (own := [("sign", 2)]) (N := N_checked_signs) (sc := defScope s_checked_signs) (by decide +kernel)) (fun _ _ _ _ _ => (pg_name (i := 2) sc_checked_signs.nd rfl (Or.inl rfl))) (fun _ _ _ _ _ => pts_nil) (fun _ _ _ _ _ => (pe_ok G_as_word hr (pa_cons (pv 2) pa_nil)))))))), ?_⟩
  have l1 := hw.len
  have z1 := sizeLine_eq
  have hd : Dd F (.list (NestedKey.datas sg)) (.ref a) := dd_list.mpr ⟨a, xs, rfl, ha, wks_dds hw, by rw [datas_len]; exact h1⟩
  refine ⟨_, rfl, _, _, F, rfl, hF, hd, fun H1 e1 => ⟨_, rfl, ?_⟩⟩
  refine iteF ⟨_, rfl, _, _, rfl, .inl (SqL.of (e1.fh _ _ ha)), rfl, _, rfl, ?_⟩
  refine iteF' (by
    have : ¬ xs = [] := fun z => by
      rw [z] at l1
      simp at l1
      omega
    simpa using this) ?_
  refine r_next ?_
  dsimp only
  refine r_seq (forg_enum [] (fun R h => ⟨_, rfl, h⟩) ha e1.fh (fun i σ1 F1 H2 => ∃ u v, σ1 = [some (.ref a), u, v]) ⟨_, _, rfl⟩ ?_ ?_)
  · rintro i x t σ1 F1 H2 Nk hi hx e ⟨u, v, rfl⟩ ht nk
    obtain ⟨k, hk, wk⟩ := hw.get hx
    have wo := ho k (List.mem_of_getElem? hk)
    refine ⟨t, _, rfl, SqT.of upd_same, rfl, _, _, rfl, _, _, rfl, rfl, ?_⟩
    have et : Ex [] F1 H2 F1 (upd H2 t (.tup [.int (i : Nat), x])) := Ex.new e.fh ht
    refine ⟨_, rfl, x, k.data, F1, rfl, et.fh, (wk_dd wk).up e.ff, ?_, fun H3 e3 => ⟨_, rfl, ?_⟩⟩
    · rw [depth_data]
      have := wo.dp
      omega
    · rw [wordy_data, wo.fl]
      exact iteF (nk _ F1 H3 e3 ⟨_, _, rfl⟩)
  · rintro σ1 F1 H2 e ⟨u, v, rfl⟩
    dsimp only
    refine r_ret (lcg_list [] (fun R h => ⟨_, rfl, h⟩) (e.ff _ _ ha) e.fh (by simp) (by omega) (fun k acc F => Wks F (sg.take k) acc) (fun _ _ _ => True) (fun _ _ _ _ h q => q.up h) (fun _ _ _ _ _ _ _ _ _ => trivial) (by simp; exact Wks.nil) trivial ?_ ?_)
    · intro i y acc F' H' Kk Nk hi hy e4 p _ _ k1 _
      refine ⟨rfl, _, rfl, ?_⟩
      obtain ⟨k', hk', wk'⟩ := hw.get hy
      have wo := ho k' (List.mem_of_getElem? hk')
      refine ⟨y, k'.data, F', rfl, e4.fh, (wk_dd wk').up (Same.trans e.ff e4.ff), ?_, ?_, fun v F5 H5 e5 wv => k1 v F5 H5 e5 ?_ trivial⟩
      · rw [wordy_data, wo.fl]
      · rw [depth_data]
        have := wo.dp
        omega
      · rw [toW_data] at wv
        exact wks_take_snoc (p.up e5.ff) hk' wv
    · intro D acc F' H' e4 hD fD hd' p _ _
      rw [List.take_of_length_le (by omega)] at p
      have e5 : Ex [] F H F' H' := e1.trans (e.trans e4)
      refine kk D acc F' H' e5 ?_ fD hd' p
      cases z : H D with
      | none => rfl
      | some o =>
        have := (e1.trans e).dm D (ne_none z)
        exact absurd hD this
def spIsRoad : Sp := fun vs H Q _ => ∃ (x : V) (r : Rd) (n : Nat) (F : Hp), vs = [x, .int n] ∧ Same F H ∧ Wk F r.w x ∧ r.OkN n ∧ ∀ H', Ex [] F H F H' → Q (.bl true) H'
theorem ok_is_road (T : Top K mg) : Ok P w K mg base "is_road" 10 ["thing", "many"] spIsRoad := by
  have G_is_list : Ok P w K mg base "is_list" 1 ["thing"] spIsList := ok_is_list T
  have G_is_word : Ok P w K mg base "is_word" 9 ["thing"] (spIsWord 6) := ok_is_word T 6
  have G_is_number : Ok P w K mg base "is_number" 2 ["thing"] spIsNumber := ok_is_number T
  refine ok_of T.g_is_road T.F_is_road sc_is_road (fun _ _ _ _ _ _ us hl => match us, hl with | [_, _], _ => rfl) (fun vs H Q E h => ?_) (fun cdv A outer s H vs Q E hr h => ?_)
  · first | (obtain ⟨rfl, _⟩ := h; rfl) | (obtain ⟨_, rfl, _⟩ := h; rfl) | (obtain ⟨_, _, rfl, _⟩ := h; rfl) | (obtain ⟨_, _, _, rfl, _⟩ := h; rfl) | (obtain ⟨_, _, _, _, rfl, _⟩ := h; rfl) | (obtain ⟨_, _, _, _, _, rfl, _⟩ := h; rfl) | (obtain ⟨_, _, _, _, _, _, rfl, _⟩ := h; rfl) | (obtain ⟨_, _, _, _, _, _, _, rfl, _⟩ := h; rfl) | (obtain ⟨_, _, _, _, _, _, _, _, rfl, _⟩ := h; rfl) | (obtain ⟨_, _, _, _, _, _, _, _, _, rfl, _⟩ := h; rfl) | (obtain ⟨_, _, _, _, _, _, _, _, _, _, rfl, _⟩ := h; rfl) | (obtain ⟨_, _, _, _, _, _, _, _, _, _, _, rfl, _⟩ := h; rfl)
  obtain ⟨x, r, n, F, rfl, hF, hw, ho, kk⟩ := h
  refine ⟨_, (pss_cons (ps_if (PW.pt (pw_or (pt_not (pt_val (pe_ok G_is_list hr (pa_cons (pv 0) pa_nil)))) (pw_or (pt_cmpR op_ne (pe_callB call_len_seq rfl T.b_len (by decide +kernel) (pa_cons (pv 0) pa_nil)) pe_int (nomark _)) (pw_or (pt_not (pt_val (pe_ok G_is_word hr (pa_cons (pe_ix ix_tup (pv 0) pe_int (fun _ _ => rfl)) pa_nil)))) (pw_or1 (pt_not (pt_val (pe_ok G_is_word hr (pa_cons (pe_ix ix_tup (pv 0) pe_int (fun _ _ => rfl)) pa_nil))))))))) (pss_one (ps_ret pe_bl)) pss_nil)
    (pss_one (ps_ret (pe_callB (cr_all rfl) rfl T.b_all (by decide +kernel) (pa_cons (pe_lc (own := [("end", 2)]) (g := (gName 2)) (tt := tYes) (te := (tAndV (tCall spIsNumber [] E0 (tCons (tVar 2) tNil)) (tOp RLt (tVar 2) (tVar 1)))) rfl sc_is_road.nd (pi_tup (pe_slice sl_tup (pv 0) po_none (po_some pe_int))) (blkOk_by (own := [("end", 2)]) (N := N_is_road) (sc := defScope s_is_road) (by decide +kernel)) (fun _ _ _ _ _ => (pg_name (i := 2) sc_is_road.nd rfl (Or.inl rfl))) (fun _ _ _ _ _ => pts_nil) (fun _ _ _ _ _ => (pe_and (pe_ok G_is_number hr (pa_cons (pv 2) pa_nil)) (pe_one (pe_cmpR op_lt (pv 2) (pv 1) (nomark _)))))) pa_nil))))), ?_⟩
  have hd := wk_dd hw
  obtain ⟨p, vo, vi, rfl, ha, wo, wi⟩ := Rd.wk hw
  refine ⟨_, rfl, _, _, F, rfl, hF, hd, fun H1 e1 => ⟨_, rfl, ?_⟩⟩
  have sq : ∀ {H2 : Hp}, Ex [] F H F H2 → SqT K H2 p [.int r.a, .int r.b, vo, vi] := fun e => SqT.of (e.fh _ _ ha)
  refine iteF ⟨_, rfl, _, _, rfl, .inr (sq e1), rfl, _, rfl, ?_⟩
  refine iteF' rfl ⟨_, rfl, p, _, 2, vo, rfl, rfl, sq e1, rfl, vo, r.o.data, F, rfl, e1.fh, wk_dd wo, ?_, fun H2 e2 => ⟨_, rfl, ?_⟩⟩
  · rw [depth_data]
    have := ho.ho.dp
    omega
  have e12 := e1.trans e2
  refine iteF' (by rw [wordy_data, ho.ho.fl]; rfl) ⟨_, rfl, p, _, 3, vi, rfl, rfl, sq e12, rfl, vi, r.i.data, F, rfl, e2.fh, wk_dd wi, ?_, fun H3 e3 => ⟨_, rfl, ?_⟩⟩
  · rw [depth_data]
    have := ho.hi.dp
    omega
  have e13 := e12.trans e3
  refine iteF' (by rw [wordy_data, ho.hi.fl]; rfl) (r_next ?_)
  dsimp only
  refine r_ret (r_cb (r_cons ?_))
  have cut : cutV [V.int r.a, .int r.b, vo, vi] none (some 2) = [.int r.a, .int r.b] := rfl
  have core : ∀ (R : VK) (tl : TE), (∀ R' : VK, (∀ q, H3 q = none → R' (.ref q) (upd H3 q (.tup [.int r.a, .int r.b]))) → tl [some (.ref p), some (.int n), none] H3 R') → (∀ D H4, Ex [] F H F H4 ∨ True → (∃ F4, Ex [] F H F4 H4) → H4 D = some (.lst [.bl true, .bl true]) → R (.ref D) H4) →
      tLc (iTup K tl) (gName 2) tYes (tAndV (tCall spIsNumber [] E0 (tCons (tVar 2) tNil)) (tOp RLt (tVar 2) (tVar 1))) [2] [some (.ref p), some (.int n), none] H3 R := by
    intro R tl htl hR
    refine htl _ fun q hq => ?_
    have e4 : Ex [] F H (upd F q (.tup [.int r.a, .int r.b])) (upd H3 q (.tup [.int r.a, .int r.b])) := e13.trans (Ex.newF e13.fh hq)
    refine lcg_tup (tl := tC (.ref q)) [] (fun R h => h) upd_same e4.fh (by simp) (by simp [sizeLine_eq]) (fun k acc _ => acc = List.replicate k (.bl true)) (fun _ _ _ => True) (fun _ _ _ _ _ q => q) (fun _ _ _ _ _ _ _ _ _ => trivial) rfl trivial ?_ ?_
    · intro i y acc F' H' Kk Nk hi hy e pp _ _ k1 _
      refine ⟨rfl, ?_⟩
      have num : ∀ m : Nat, m < n → y = .int m → Kk (.bl true) H' → tAndV (tCall spIsNumber [] E0 (tCons (tVar 2) tNil)) (tOp RLt (tVar 2) (tVar 1)) [some (.ref p), some (.int n), some y] H' Kk := by
        intro m hm ey kk2
        subst ey
        refine ⟨_, rfl, .int m, .int m, F', rfl, e.fh, dd_int.mpr rfl, _, rfl, ?_⟩
        refine iteT' (by simp [numy]) ⟨_, rfl, _, rfl, _, _, rfl, rfl, ?_⟩
        have : decide ((m : Int) < n) = true := by simp; omega
        show Kk (.bl (decide ((m : Int) < n))) H'
        rw [this]
        exact kk2
      have go : Kk (.bl true) H' := k1 _ _ _ (Ex.refl e.fh) (by rw [pp, List.replicate_succ']) trivial
      have e01 : y = .int r.a ∨ y = .int r.b := by
        match i, hi, hy with
        | 0, _, hy => exact .inl (by simpa using hy.symm)
        | 1, _, hy => exact .inr (by simpa using hy.symm)
      rcases e01 with e0 | e0
      · exact num r.a ho.ha e0 go
      · exact num r.b ho.hb e0 go
    · intro D acc F' H' e hD fD hd' pp _ _
      refine hR D H' (.inr trivial) ⟨F', e4.trans e⟩ ?_
      rw [hd', pp]
      rfl
  refine core _ _ (fun R' h => ⟨_, rfl, 2, rfl, p, _, rfl, sq e13, (by show ¬ (HT.sIx 4 0 none = 0 ∧ HT.sIx 4 4 (some 2) = 4); decide), ?_⟩) fun D H4 _ ⟨F4, e4⟩ hD => ?_
  · intro q hq
    rw [cut]
    exact h q hq
  · refine ⟨D, [true, true], rfl, SqL.of hD, kk H4 ?_⟩
    exact ⟨Same.refl F, fun b o z => e4.fh b o (e4.ff b o z), e4.hh, e4.dm, fun b z => .inl z⟩
def spCheckedRoads : Sp := fun vs H Q _ => ∃ (a : Addr) (xs : List V) (rs : List Rd) (n : Nat) (F : Hp), vs = [.ref a, .int n] ∧ Same F H ∧ F a = some (.lst xs) ∧ Rds F rs xs ∧ (∀ r ∈ rs, r.OkN n) ∧ rs.length < 100000 ∧
  ∀ p ys rs' F' H', rs'.Perm rs → Ex [] F H F' H' → H p = none → F' p = none → H' p = some (.lst ys) → Rds F' rs' ys → Q (.ref p) H'
theorem ok_checked_roads (T : Top K mg) : Ok P w K mg base "checked_roads" 13 ["roads", "many"] spCheckedRoads := by
  have G_is_list : Ok P w K mg base "is_list" 1 ["thing"] spIsList := ok_is_list T
  have G_is_road : Ok P w K mg base "is_road" 10 ["thing", "many"] spIsRoad := ok_is_road T
  have G_as_word : Ok P w K mg base "as_word" 9 ["thing"] (spAsWord 6) := ok_as_word T 6
  have G_ascending : Ok P w K mg base "ascending" 12 ["words"] spAscending := ok_ascending T
  refine ok_of T.g_checked_roads T.F_checked_roads sc_checked_roads (fun _ _ _ _ _ _ us hl => match us, hl with | [_, _], _ => rfl) (fun vs H Q E h => ?_) (fun cdv A outer s H vs Q E hr h => ?_)
  · first | (obtain ⟨rfl, _⟩ := h; rfl) | (obtain ⟨_, rfl, _⟩ := h; rfl) | (obtain ⟨_, _, rfl, _⟩ := h; rfl) | (obtain ⟨_, _, _, rfl, _⟩ := h; rfl) | (obtain ⟨_, _, _, _, rfl, _⟩ := h; rfl) | (obtain ⟨_, _, _, _, _, rfl, _⟩ := h; rfl) | (obtain ⟨_, _, _, _, _, _, rfl, _⟩ := h; rfl) | (obtain ⟨_, _, _, _, _, _, _, rfl, _⟩ := h; rfl) | (obtain ⟨_, _, _, _, _, _, _, _, rfl, _⟩ := h; rfl) | (obtain ⟨_, _, _, _, _, _, _, _, _, rfl, _⟩ := h; rfl) | (obtain ⟨_, _, _, _, _, _, _, _, _, _, rfl, _⟩ := h; rfl) | (obtain ⟨_, _, _, _, _, _, _, _, _, _, _, rfl, _⟩ := h; rfl)
  obtain ⟨a, xs, rs, n, F, rfl, hF, ha, hw, ho, h1, kk⟩ := h
  refine ⟨_, (pss_cons (ps_if (pt_not (pt_val (pe_ok G_is_list hr (pa_cons (pv 0) pa_nil)))) (pss_one ps_never) pss_nil)
    (pss_cons (ps_for PassesOwn.never rfl (pi_enum rfl T.b_enumerate (pa_cons (pv 0) pa_nil)) (pg_tup rfl (pgs_cons (pg_name (i := 2) sc_checked_roads.nd rfl (Or.inl rfl)) (pgs_cons (pg_name (i := 3) sc_checked_roads.nd rfl (Or.inl rfl)) pgs_nil))) (pss_one (ps_if (pt_not (pt_val (pe_ok G_is_road hr (pa_cons (pv 3) (pa_cons (pv 1) pa_nil))))) (pss_one ps_never) pss_nil)))
    (pss_one (ps_ret (pe_ok G_ascending hr (pa_cons (pe_lc (own := [("thing", 3)]) (g := (gName 3)) (tt := tYes) (te := (tCall (spAsWord 6) [] E0 (tCons (tVar 3) tNil))) rfl sc_checked_roads.nd (pi_list (pv 0)) (blkOk_by (own := [("thing", 3)]) (N := N_checked_roads) (sc := defScope s_checked_roads) (by decide +kernel)) (fun _ _ _ _ _ => (pg_name (i := 3) sc_checked_roads.nd rfl (Or.inl rfl))) (fun _ _ _ _ _ => pts_nil) (fun _ _ _ _ _ => (pe_ok G_as_word hr (pa_cons (pv 3) pa_nil)))) pa_nil)))))), ?_⟩
  have l1 := hw.len
  have z1 := sizeLine_eq
  have hd : Dd F (.list (NestedKey.datas (rs.map Rd.w))) (.ref a) := dd_list.mpr ⟨a, xs, rfl, ha, wks_dds hw, by rw [datas_len, List.length_map]; omega⟩
  refine ⟨_, rfl, _, _, F, rfl, hF, hd, fun H1 e1 => ⟨_, rfl, ?_⟩⟩
  refine iteF (r_next ?_)
  dsimp only
  refine r_seq (forg_enum [] (fun R h => ⟨_, rfl, h⟩) ha e1.fh (fun i σ1 F1 H2 => ∃ u v, σ1 = [some (.ref a), some (.int n), u, v]) ⟨_, _, rfl⟩ ?_ ?_)
  · rintro i x t σ1 F1 H2 Nk hi hx e ⟨u, v, rfl⟩ ht nk
    obtain ⟨r, hr', wk⟩ := hw.get hx
    have wo := ho r (List.mem_of_getElem? hr')
    refine ⟨t, _, rfl, SqT.of upd_same, rfl, _, _, rfl, _, _, rfl, rfl, ?_⟩
    have et : Ex [] F1 H2 F1 (upd H2 t (.tup [.int (i : Nat), x])) := Ex.new e.fh ht
    refine ⟨_, rfl, _, rfl, x, r, n, F1, rfl, et.fh, wk.up e.ff, wo, fun H3 e3 => ⟨_, rfl, ?_⟩⟩
    exact iteF (nk _ F1 H3 e3 ⟨_, _, rfl⟩)
  · rintro σ1 F1 H2 e ⟨u, v, rfl⟩
    dsimp only
    refine r_ret (r_call (r_cons (lcg_list [] (fun R h => ⟨_, rfl, h⟩) (e.ff _ _ ha) e.fh (by simp) (by omega) (fun k acc F => Wks F ((rs.map Rd.w).take k) acc) (fun _ _ _ => True) (fun _ _ _ _ h q => q.up h) (fun _ _ _ _ _ _ _ _ _ => trivial) (by simp; exact Wks.nil) trivial ?_ ?_)))
    · intro i y acc F' H' Kk Nk hi hy e4 p _ _ k1 _
      refine ⟨rfl, _, rfl, ?_⟩
      obtain ⟨k', hk', wk'⟩ := Wks.get hw hy
      obtain ⟨f1, f2, _⟩ := mem_rds ho (List.mem_of_getElem? hk')
      refine ⟨y, k'.data, F', rfl, e4.fh, (wk_dd wk').up (Same.trans e.ff e4.ff), ?_, ?_, fun v F5 H5 e5 wv => k1 v F5 H5 e5 ?_ trivial⟩
      · rw [wordy_data, f1]
      · rw [depth_data]
        omega
      · rw [toW_data] at wv
        exact wks_take_snoc (p.up e5.ff) hk' wv
    · intro D acc F' H' e4 hD fD hd' p _ _
      rw [List.take_of_length_le (by rw [List.length_map]; omega)] at p
      have e5 : Ex [] F H F' H' := e1.trans (e.trans e4)
      refine ⟨D, acc, rs.map Rd.w, F', rfl, e4.fh, hd', p, fun k hk => ?_, fun q ys F6 H6 e6 hq fq hq' wq => ?_⟩
      · obtain ⟨f1, f2, _⟩ := mem_rds ho hk
        exact ⟨f1, by omega⟩
      · obtain ⟨rs', q1, q2⟩ := perm_un (List.mergeSort_perm (rs.map Rd.w) wle)
        have wq' : Wks F6 ((rs.map Rd.w).mergeSort wle) ys := wq
        rw [q2] at wq'
        refine kk q ys rs' F6 H6 q1 (e5.trans e6) ?_ fq hq' wq'
        cases z : H q with
        | none => rfl
        | some o => exact absurd hq (e5.dm q (ne_none z))
end
end T3

namespace T3
open PySem PySem.Spec PyProof.Rows L2 Ly
section
variable {P : Program} {w : World} {K : PySem.W.Frag} {mg : Str → Option Value} {base : Heap}
theorem lot_push {qs : List Addr} {F1 H1 : Hp} {R R2 : Nat → List V → Prop} {q p2 : Addr} {t us us2 : List V} {j : Nat} (lo : LotG qs F1 H1 R) (hs : Same F1 H1) (hq : qs[j]? = some q) (hu : H1 q = some (.lst us)) (hp : H1 p2 = none)
    (h1 : R2 j us2) (h2 : ∀ k us, k ≠ j → R k us → R2 k us) : LotG qs (upd F1 p2 (.tup t)) (upd (upd H1 p2 (.tup t)) q (.lst us2)) R2 ∧ Ex qs F1 H1 (upd F1 p2 (.tup t)) (upd (upd H1 p2 (.tup t)) q (.lst us2)) := by
  have e1 : Ex [] F1 H1 (upd F1 p2 (.tup t)) (upd H1 p2 (.tup t)) := Ex.newF hs hp
  have l1 : LotG qs (upd F1 p2 (.tup t)) (upd H1 p2 (.tup t)) R := lo.ex e1 (by simp) fun _ _ h => h
  obtain ⟨fq, _⟩ := l1.at' j q hq
  exact ⟨l1.put hq h1 h2, (e1.mono (by simp)).trans (Ex.put e1.fh fq (List.mem_of_getElem? hq))⟩
def spInit (K : PySem.W.Frag) : Sp := fun vs H Q _ => ∃ (x sa ra dx : Addr) (svs rvs : List V) (sg : List W) (rs : List Rd) (F : Hp), vs = [.ref x, .ref sa, .ref ra] ∧ Same F H ∧ F x = none ∧ H x = some (.ins (He.ga K "Net") dx []) ∧
  F sa = some (.lst svs) ∧ Wks F sg svs ∧ (∀ k ∈ sg, Wok k) ∧ 0 < sg.length ∧ sg.length < 100000 ∧ F ra = some (.lst rvs) ∧ Rds F rs rvs ∧ (∀ r ∈ rs, r.OkN sg.length) ∧ rs.length < 100000 ∧
  ∀ rs' l1 l2 l3 l4 svs' rvs' F' H', rs'.Perm rs → Ex [x] F H F' H' → F' x = none → H' x = some (.ins (He.ga K "Net") dx (netFs l1 l2 l3 l4)) → F' l1 = some (.lst svs') → Wks F' sg svs' → F' l2 = some (.lst rvs') → Rds F' rs' rvs' →
    Lots F' l3 sg.length (fun k => rs'.filter fun r => decide (r.b = k)) → Lots F' l4 sg.length (fun k => rs'.filter fun r => decide (r.a = k)) → Q .non H'
def lotR (n : Nat) (rs : List Rd) (F : Hp) (i : Nat) (j : Nat) (us : List V) : Prop := Rds F (if j < n then (rs.take i).filter (fun r => decide (r.b = j)) else (rs.take i).filter (fun r => decide (r.a = j - n))) us ∧ us.length ≤ i
theorem take_filter {rs : List Rd} {i : Nat} {r : Rd} (h : rs[i]? = some r) (f : Rd → Bool) : (rs.take (i + 1)).filter f = if f r = true then (rs.take i).filter f ++ [r] else (rs.take i).filter f := by
  rw [List.take_add_one, h, List.filter_append]
  by_cases e : f r = true
  · simp [e]
  · simp [e]
theorem ok_init (T : Top K mg) : OkM P w K mg base (He.ma K (He.ga K "Net") "__init__") 14 ["self", "signs", "roads"] (spInit K) := by
  have G_checked_signs : Ok P w K mg base "checked_signs" 11 ["signs"] spCheckedSigns := ok_checked_signs T
  have G_checked_roads : Ok P w K mg base "checked_roads" 13 ["roads", "many"] spCheckedRoads := ok_checked_roads T
  refine okm_of T.F_Net_init sc_Net_init (fun _ _ _ _ _ _ us hl => match us, hl with | [_, _, _], _ => rfl) (fun vs H Q E h => ?_) (fun cdv A outer s H vs Q E hr h => ?_)
  · first | (obtain ⟨rfl, _⟩ := h; rfl) | (obtain ⟨_, rfl, _⟩ := h; rfl) | (obtain ⟨_, _, rfl, _⟩ := h; rfl) | (obtain ⟨_, _, _, rfl, _⟩ := h; rfl) | (obtain ⟨_, _, _, _, rfl, _⟩ := h; rfl) | (obtain ⟨_, _, _, _, _, rfl, _⟩ := h; rfl) | (obtain ⟨_, _, _, _, _, _, rfl, _⟩ := h; rfl) | (obtain ⟨_, _, _, _, _, _, _, rfl, _⟩ := h; rfl) | (obtain ⟨_, _, _, _, _, _, _, _, rfl, _⟩ := h; rfl) | (obtain ⟨_, _, _, _, _, _, _, _, _, rfl, _⟩ := h; rfl) | (obtain ⟨_, _, _, _, _, _, _, _, _, _, rfl, _⟩ := h; rfl) | (obtain ⟨_, _, _, _, _, _, _, _, _, _, _, rfl, _⟩ := h; rfl)
  obtain ⟨x, sa, ra, dx, svs, rvs, sg, rs, F, rfl, hF, fx, hx, hsa, hsg, hok, h0, h1, hra, hrs, hro, h2, kk⟩ := h
  refine ⟨_, (pss_cons (ps_fld (pv 0) (pe_ok G_checked_signs hr (pa_cons (pv 1) pa_nil)) rfl)
    (pss_cons (ps_fld (pv 0) (pe_ok G_checked_roads hr (pa_cons (pv 2) (pa_cons (pe_callB call_len_seq rfl T.b_len (by decide +kernel) (pa_cons (pe_fld (pv 0) rfl) pa_nil)) pa_nil))) rfl)
    (pss_cons (ps_fld (pv 0) (pe_lc (own := [("sign", 3)]) (g := (gName 3)) (tt := tYes) (te := (tLst tNil)) rfl sc_Net_init.nd (pi_list (pe_fld (pv 0) rfl)) (blkOk_by (own := [("sign", 3)]) (N := N_Net_init) (sc := defScope s_Net_init) (by decide +kernel)) (fun _ _ _ _ _ => (pg_name (i := 3) sc_Net_init.nd rfl (Or.inl rfl))) (fun _ _ _ _ _ => pts_nil) (fun _ _ _ _ _ => (pe_lst pa_nil))) rfl)
    (pss_cons (ps_fld (pv 0) (pe_lc (own := [("sign", 3)]) (g := (gName 3)) (tt := tYes) (te := (tLst tNil)) rfl sc_Net_init.nd (pi_list (pe_fld (pv 0) rfl)) (blkOk_by (own := [("sign", 3)]) (N := N_Net_init) (sc := defScope s_Net_init) (by decide +kernel)) (fun _ _ _ _ _ => (pg_name (i := 3) sc_Net_init.nd rfl (Or.inl rfl))) (fun _ _ _ _ _ => pts_nil) (fun _ _ _ _ _ => (pe_lst pa_nil))) rfl)
    (pss_one (ps_for PassesOwn.never rfl (pi_list (pe_fld (pv 0) rfl)) (pg_tup rfl (pgs_cons (pg_name (i := 4) sc_Net_init.nd rfl (Or.inl rfl)) (pgs_cons (pg_name (i := 5) sc_Net_init.nd rfl (Or.inl rfl)) (pgs_cons (pg_name (i := 6) sc_Net_init.nd rfl (Or.inl rfl)) (pgs_cons (pg_name (i := 7) sc_Net_init.nd rfl (Or.inl rfl)) pgs_nil))))) (pss_cons (ps_expr (pe_bm PySem.F.plainAttrs_list PySem.F.slot_list_append PySem.F.type_list_append mt_append (pe_ix ix_list (pe_fld (pv 0) rfl) (pv 4) (fun _ _ => rfl)) (pa_cons (pe_tup (pa_cons (pv 4) (pa_cons (pv 5) (pa_cons (pv 6) (pa_cons (pv 7) pa_nil))))) pa_nil)))
    (pss_one (ps_expr (pe_bm PySem.F.plainAttrs_list PySem.F.slot_list_append PySem.F.type_list_append mt_append (pe_ix ix_list (pe_fld (pv 0) rfl) (pv 5) (fun _ _ => rfl)) (pa_cons (pe_tup (pa_cons (pv 4) (pa_cons (pv 5) (pa_cons (pv 6) (pa_cons (pv 7) pa_nil))))) pa_nil))))))))))), ?_⟩
  have z1 := sizeLine_eq
  have C := T.cl_Net
  refine r_seq ⟨_, rfl, sa, svs, sg, F, rfl, hF, hsa, hsg, hok, h0, by omega, fun D1 ys1 F1 H1 e1 hD1 fD1 hd1 w1 => ⟨_, rfl, x, _, dx, [], rfl, e1.at hx, T.cl_Net, T.na_Net_own_signs, by decide, ?_⟩⟩
  have n1 := w1.len
  -- own_signs stand
  have a1 : Ex [] F H (upd F1 D1 (.lst ys1)) H1 := e1.frz hD1 hd1 fD1
  have fx1 : (upd F1 D1 (.lst ys1)) x = none := a1.nf fx (ne_none hx)
  have b1 : Ex [x] F H (upd F1 D1 (.lst ys1)) (upd H1 x (.ins (He.ga K "Net") dx [("own_signs", .ref D1)])) := (a1.mono (by simp)).trans (Ex.put a1.fh fx1 (by simp))
  have c1 : (upd H1 x (.ins (He.ga K "Net") dx [("own_signs", V.ref D1)])) x = some (.ins (He.ga K "Net") dx [("own_signs", V.ref D1)]) := upd_same
  have d1 : (upd F1 D1 (.lst ys1)) D1 = some (.lst ys1) := upd_same
  have w1' : Wks (upd F1 D1 (.lst ys1)) sg ys1 := w1.up (Same.upd fD1)
  dsimp only
  show tSeq _ _ _ _ (upd H1 x (.ins (He.ga K "Net") dx [("own_signs", V.ref D1)]))
  generalize upd F1 D1 (.lst ys1) = F2 at a1 fx1 b1 c1 d1 w1'
  generalize upd H1 x (.ins (He.ga K "Net") dx [("own_signs", V.ref D1)]) = H2 at b1 c1
  refine r_seq ⟨_, rfl, _, rfl, x, _, dx, _, .ref D1, rfl, c1, C, T.na_Net_own_signs, rfl, _, _, rfl, .inl (SqL.of (b1.fh _ _ d1)), ra, rvs, rs, ys1.length, F2, rfl, b1.fh, b1.fz hra, Wks.up b1.ff hrs, (by rw [n1]; exact hro), h2, fun D2 ys2 rs' F3 H3 pm e3 hD2 fD2 hd2 w2 => ⟨_, rfl, x, _, dx, _, rfl, e3.at c1, T.cl_Net, T.na_Net_own_roads, by simp, ?_⟩⟩
  have n2 := Rds.len w2
  have n2' := pm.length_eq
  have a3 : Ex [] F2 H2 (upd F3 D2 (.lst ys2)) H3 := e3.frz hD2 hd2 fD2
  have fx3 : (upd F3 D2 (.lst ys2)) x = none := a3.nf fx1 (ne_none c1)
  have b3 : Ex [x] F H (upd F3 D2 (.lst ys2)) (upd H3 x (.ins (He.ga K "Net") dx [("own_signs", .ref D1), ("own_roads", .ref D2)])) := b1.trans ((a3.mono (by simp)).trans (Ex.put a3.fh fx3 (by simp)))
  have c3 : (upd H3 x (.ins (He.ga K "Net") dx [("own_signs", V.ref D1), ("own_roads", .ref D2)])) x = some (.ins (He.ga K "Net") dx [("own_signs", V.ref D1), ("own_roads", .ref D2)]) := upd_same
  have d3 : (upd F3 D2 (.lst ys2)) D1 = some (.lst ys1) := a3.fz d1
  have d3' : (upd F3 D2 (.lst ys2)) D2 = some (.lst ys2) := upd_same
  have w3 : Rds (upd F3 D2 (.lst ys2)) rs' ys2 := Wks.up (Same.upd fD2) w2
  have w1'' : Wks (upd F3 D2 (.lst ys2)) sg ys1 := w1'.up a3.ff
  dsimp only
  show tSeq _ _ _ _ (upd H3 x (.ins (He.ga K "Net") dx [("own_signs", V.ref D1), ("own_roads", .ref D2)]))
  generalize upd F3 D2 (.lst ys2) = F4 at a3 fx3 b3 c3 d3 d3' w3 w1''
  generalize upd H3 x (.ins (He.ga K "Net") dx [("own_signs", V.ref D1), ("own_roads", .ref D2)]) = H4 at b3 c3
  -- own_in
  refine r_seq (lcg_nils (fun R h => ⟨_, rfl, x, _, dx, _, .ref D1, rfl, c3, C, T.na_Net_own_signs, rfl, h⟩) d3 b3.fh (by omega) (fun _ => rfl) fun D3 q3 H5 e5 hD3 hd3 m3 dn3 nn3 lo3 => ⟨_, rfl, x, _, dx, _, rfl, e5.at c3, T.cl_Net, T.na_Net_own_in, by simp, ?_⟩)
  have fx5 : F4 x = none := fx3
  have p5 : Ex [x] F4 H5 F4 (upd H5 x (.ins (He.ga K "Net") dx [("own_signs", .ref D1), ("own_roads", .ref D2), ("own_in", .ref D3)])) := Ex.put e5.fh fx5 (by simp)
  have b5 : Ex [x] F H F4 (upd H5 x (.ins (He.ga K "Net") dx [("own_signs", .ref D1), ("own_roads", .ref D2), ("own_in", .ref D3)])) := b3.trans ((e5.mono (by simp)).trans p5)
  have c5 : (upd H5 x (.ins (He.ga K "Net") dx [("own_signs", V.ref D1), ("own_roads", .ref D2), ("own_in", .ref D3)])) x = some (.ins (He.ga K "Net") dx [("own_signs", V.ref D1), ("own_roads", .ref D2), ("own_in", .ref D3)]) := upd_same
  have new : ∀ {q : Addr} {H' F' : Hp}, Ex [x] F H F' H' → H' q = none → H q = none := fun {q H' F'} e z => by
    cases y : H q with
    | none => rfl
    | some o => exact absurd z (e.dm q (ne_none y))
  have qx3 : ∀ q ∈ q3, q ∉ [x] := fun q hq z => by
    have := nn3 q hq
    rw [List.mem_singleton.mp z, c3] at this
    cases this
  have D3x : D3 ∉ [x] := fun z => by
    rw [List.mem_singleton.mp z, c3] at hD3
    cases hD3
  have lo5 := lo3.ex p5 qx3 (R2 := fun _ us => us = []) fun _ _ h => h
  have hd5 := p5.at hd3 D3x
  have q3H : ∀ q ∈ q3, H q = none := fun q hq => new b3 (nn3 q hq)
  have D3H : H D3 = none := new b3 hD3
  dsimp only
  show tSeq _ _ _ _ (upd H5 x (.ins (He.ga K "Net") dx [("own_signs", V.ref D1), ("own_roads", .ref D2), ("own_in", .ref D3)]))
  generalize upd H5 x (.ins (He.ga K "Net") dx [("own_signs", V.ref D1), ("own_roads", .ref D2), ("own_in", .ref D3)]) = H6 at p5 b5 c5 lo5 hd5
  -- own_out
  refine r_seq (lcg_nils (fun R h => ⟨_, rfl, x, _, dx, _, .ref D1, rfl, c5, C, T.na_Net_own_signs, rfl, h⟩) d3 b5.fh (by omega) (fun _ => rfl) fun D4 q4 H7 e7 hD4 hd4 m4 dn4 nn4 lo4 => ⟨_, rfl, x, _, dx, _, rfl, e7.at c5, T.cl_Net, T.na_Net_own_out, by simp, ?_⟩)
  have p7 : Ex [x] F4 H7 F4 (upd H7 x (.ins (He.ga K "Net") dx (netFs D1 D2 D3 D4))) := Ex.put e7.fh fx5 (by simp)
  have b7 : Ex [x] F H F4 (upd H7 x (.ins (He.ga K "Net") dx (netFs D1 D2 D3 D4))) := b5.trans ((e7.mono (by simp)).trans p7)
  have c7 : (upd H7 x (.ins (He.ga K "Net") dx (netFs D1 D2 D3 D4))) x = some (.ins (He.ga K "Net") dx (netFs D1 D2 D3 D4)) := upd_same
  have qx4 : ∀ q ∈ q4, q ∉ [x] := fun q hq z => by
    have := nn4 q hq
    rw [List.mem_singleton.mp z, c5] at this
    cases this
  have D4x : D4 ∉ [x] := fun z => by
    rw [List.mem_singleton.mp z, c5] at hD4
    cases hD4
  have dis : ∀ q ∈ q3, q ∉ q4 := fun q hq z => by
    obtain ⟨j, hj⟩ := List.getElem?_of_mem hq
    obtain ⟨_, us, y, _⟩ := lo5.at' j q hj
    rw [nn4 q z] at y
    cases y
  have lo7 : LotG (q3 ++ q4) F4 (upd H7 x (.ins (He.ga K "Net") dx (netFs D1 D2 D3 D4))) (lotR sg.length rs' F4 0) := by
    have l3 := (lo5.ex e7 (by simp) (R2 := fun _ us => us = []) fun _ _ h => h).ex p7 qx3 (R2 := fun _ us => us = []) fun _ _ h => h
    have l4 := lo4.ex p7 qx4 (R2 := fun _ us => us = []) fun _ _ h => h
    refine (l3.app l4 dis).imp fun j us h => ?_
    have : us = [] := by
      split at h <;> exact h
    subst this
    refine ⟨?_, Nat.le_refl _⟩
    simp [Rds]
    exact Wks.nil
  have hd7 := (e7.at hd5 (by simp))
  have hd7' := p7.at hd7 D3x
  have hd8 := p7.at hd4 D4x
  have q4H : ∀ q ∈ q4, H q = none := fun q hq => new b5 (nn4 q hq)
  have D4H : H D4 = none := new b5 hD4
  have xq : x ∉ q3 ++ q4 := fun z => by
    rcases List.mem_append.mp z with z | z
    · exact qx3 x z (by simp)
    · exact qx4 x z (by simp)
  have D3q : D3 ∉ q3 ++ q4 := fun z => by
    rcases List.mem_append.mp z with z | z
    · exact dn3 z
    · rw [nn4 D3 z] at hd5
      cases hd5
  have D4q : D4 ∉ q3 ++ q4 := fun z => by
    rcases List.mem_append.mp z with z | z
    · obtain ⟨j, hj⟩ := List.getElem?_of_mem z
      obtain ⟨_, us, y, _⟩ := lo5.at' j D4 hj
      rw [hD4] at y
      cases y
    · exact dn4 z
  dsimp only
  show tFor _ _ _ _ _ (upd H7 x (.ins (He.ga K "Net") dx (netFs D1 D2 D3 D4)))
  generalize upd H7 x (.ins (He.ga K "Net") dx (netFs D1 D2 D3 D4)) = H8 at p7 b7 c7 lo7 hd7' hd8
  refine forg_list (q3 ++ q4) (fun R h => ⟨_, rfl, x, _, dx, _, .ref D2, rfl, c7, C, T.na_Net_own_roads, rfl, h⟩) d3' b7.fh (fun i σ1 F1 H1 => (∃ u v w z, σ1 = [some (.ref x), some (.ref sa), some (.ref ra), none, u, v, w, z]) ∧ LotG (q3 ++ q4) F1 H1 (lotR sg.length rs' F1 i)) ⟨⟨_, _, _, _, rfl⟩, lo7⟩ ?_ ?_
  · rintro i y σ1 F5 H9 Nk hi hy e ⟨⟨u, v, w, z, rfl⟩, lo⟩ nk
    obtain ⟨r, hr', wr⟩ := Rds.get w3 hy
    have ro := hro r (pm.mem_iff.mp (List.mem_of_getElem? hr'))
    obtain ⟨p, vo, vi, rfl, hp, wo, wi⟩ := Rd.wk (Wk.up e.ff wr)
    refine ⟨p, _, rfl, SqT.of (e.fh _ _ hp), rfl, _, _, rfl, _, _, rfl, _, _, rfl, _, _, rfl, rfl, ?_⟩
    have hi2 : i < 100000 := by omega
    have cx := e.at c7 xq
    have ja : (q3 ++ q4)[sg.length + r.a]? = some (q4[r.a]'(by have := ro.ha; omega)) := by
      rw [List.getElem?_append_right (by omega)]
      have : sg.length + r.a - q3.length = r.a := by omega
      rw [this]
      simp
    have jb : (q3 ++ q4)[r.b]? = some (q3[r.b]'(by have := ro.hb; omega)) := by
      rw [List.getElem?_append_left (by have := ro.hb; omega)]
      simp
    have ia : atI (q4.map V.ref) (r.a : Int) = some (.ref (q4[r.a]'(by have := ro.ha; omega))) := by
      have := ro.ha
      rw [at_toNat (by omega) (by simp; omega)]
      simp
    have ib : atI (q3.map V.ref) (r.b : Int) = some (.ref (q3[r.b]'(by have := ro.hb; omega))) := by
      have := ro.hb
      rw [at_toNat (by omega) (by simp; omega)]
      simp
    obtain ⟨fa, ua, hua, ra1, ra2⟩ := lo.at' _ _ ja
    generalize (q4[r.a]'(by have := ro.ha; omega)) = qa at ja ia fa hua
    generalize (q3[r.b]'(by have := ro.hb; omega)) = qb at jb ib
    refine ⟨_, rfl, x, _, dx, _, .ref D4, rfl, cx, C, T.na_Net_own_out, rfl, _, rfl, D4, _, _, .ref qa, rfl, rfl, SqL.of (e.at hd8 D4q), ia, .inl ⟨rfl, _, SqL.of hua⟩, _, rfl, _, rfl, _, rfl, _, rfl, (by show 4 ≤ sizeLine; omega), fun p2 hp2 => ?_⟩
    have hua2 : (upd H9 p2 (.tup [.int r.a, .int r.b, vo, vi])) qa = some (.lst ua) := by rw [upd_ne (ne_of_none hua hp2)]; exact hua
    refine ⟨qa, ua, _, rfl, rfl, hua2, by omega, ?_⟩
    have s1 : Same F5 (upd F5 p2 (.tup [.int r.a, .int r.b, vo, vi])) := Same.upd (Same.free e.fh hp2)
    have wn : Wk (upd F5 p2 (.tup [.int r.a, .int r.b, vo, vi])) r.w (.ref p2) := Rd.wk_new (Same.free e.fh hp2) wo wi
    obtain ⟨lo2, e2⟩ := lot_push (us2 := ua ++ [.ref p2]) (t := [.int r.a, .int r.b, vo, vi]) (R2 := fun j us => Rds (upd F5 p2 (.tup [.int r.a, .int r.b, vo, vi])) (if j < sg.length then (rs'.take i).filter (fun r => decide (r.b = j)) else (rs'.take (i + 1)).filter (fun r => decide (r.a = j - sg.length))) us ∧ us.length ≤ i + 1) lo e.fh ja hua hp2
      (by
        refine ⟨?_, by simp; omega⟩
        rw [if_neg (by omega), take_filter hr', if_pos (by simp)]
        rw [if_neg (by omega)] at ra1
        exact Rds.app (Wks.up s1 ra1) wn)
      (fun k us hk hR => by
        obtain ⟨t1, t2⟩ := hR
        refine ⟨?_, by omega⟩
        split at t1
        · rename_i hlt
          rw [if_pos hlt]
          exact Wks.up s1 t1
        · rename_i hlt
          rw [if_neg hlt, take_filter hr', if_neg (by simp; omega)]
          exact Wks.up s1 t1)
    dsimp only
    generalize (upd F5 p2 (.tup [.int r.a, .int r.b, vo, vi])) = F6 at s1 wn lo2 e2
    generalize (upd (upd H9 p2 (.tup [.int r.a, .int r.b, vo, vi])) qa (.lst (ua ++ [.ref p2]))) = H10 at lo2 e2 ⊢
    have e12 := e.trans e2
    obtain ⟨fb, ub, hub, rb1, rb2⟩ := lo2.at' _ _ jb
    refine r_drop ⟨_, rfl, x, _, dx, _, .ref D3, rfl, e12.at c7 xq, C, T.na_Net_own_in, rfl, _, rfl, D3, _, _, .ref qb, rfl, rfl, SqL.of (e12.at hd7' D3q), ib, .inl ⟨rfl, _, SqL.of hub⟩, _, rfl, _, rfl, _, rfl, _, rfl, (by show 4 ≤ sizeLine; omega), fun p3 hp3 => ?_⟩
    have hub2 : (upd H10 p3 (.tup [.int r.a, .int r.b, vo, vi])) qb = some (.lst ub) := by rw [upd_ne (ne_of_none hub hp3)]; exact hub
    refine ⟨qb, ub, _, rfl, rfl, hub2, by omega, ?_⟩
    have s2 : Same F6 (upd F6 p3 (.tup [.int r.a, .int r.b, vo, vi])) := Same.upd (Same.free e12.fh hp3)
    have wn2 : Wk (upd F6 p3 (.tup [.int r.a, .int r.b, vo, vi])) r.w (.ref p3) := Rd.wk_new (Same.free e12.fh hp3) (wo.up s1) (wi.up s1)
    obtain ⟨lo3', e3'⟩ := lot_push (us2 := ub ++ [.ref p3]) (t := [.int r.a, .int r.b, vo, vi]) (R2 := lotR sg.length rs' (upd F6 p3 (.tup [.int r.a, .int r.b, vo, vi])) (i + 1)) lo2 e12.fh jb hub hp3
      (by
        have := ro.hb
        rw [if_pos this] at rb1
        have hlen : ub.length ≤ i := by
          have q1 := Rds.len rb1
          have q2 := List.length_filter_le (fun x : Rd => decide (x.b = r.b)) (rs'.take i)
          have q3 : (rs'.take i).length ≤ i := by simp; omega
          omega
        refine ⟨?_, by simp; omega⟩
        rw [if_pos this, take_filter hr', if_pos (by simp)]
        exact Rds.app (Wks.up s2 rb1) wn2)
      (fun k us hk hR => by
        obtain ⟨t1, t2⟩ := hR
        refine ⟨?_, by omega⟩
        split at t1
        · rename_i hlt
          rw [if_pos hlt, take_filter hr', if_neg (by simp; omega)]
          exact Wks.up s2 t1
        · rename_i hlt
          rw [if_neg hlt]
          exact Wks.up s2 t1)
    exact nk _ _ _ (e2.trans e3') ⟨⟨_, _, _, _, rfl⟩, lo3'⟩
  · rintro σ1 F5 H9 e ⟨⟨u, v, w, z, rfl⟩, lo⟩
    have E : Ex [x] F H F5 H9 := b7.newly' e (fun p hp => by
      rcases List.mem_append.mp hp with z | z
      · exact .inl (q3H p z)
      · exact .inl (q4H p z))
    have EA := E.all hF
    have le := E.all_le
    have fxx : frzAll H F5 H9 x = none := by
      unfold frzAll
      rw [hx]
      exact E.nf fx (ne_none hx)
    have F5D1 := e.fz d3
    have F5D2 := e.fz d3'
    have len2 : rs'.length = ys2.length := by omega
    have lots : ∀ (l : Addr) (qs : List Addr) (off : Nat) (f : Nat → List Rd), H l = none → H9 l = some (.lst (qs.map V.ref)) → qs.length = sg.length → (∀ q ∈ qs, H q = none) → (∀ k q, qs[k]? = some q → ∃ us, H9 q = some (.lst us) ∧ Rds F5 (f k) us) → Lots (frzAll H F5 H9) l sg.length f := by
      intro l qs off f hl h9 ln hn at9
      refine ⟨qs.map V.ref, by rw [frzAll_new hl]; exact h9, by simp [ln], fun k hk => ?_⟩
      have hk2 : k < qs.length := by omega
      obtain ⟨us, g1, g2⟩ := at9 k qs[k] (by simp [hk2])
      exact ⟨qs[k], us, by simp [hk2], by rw [frzAll_new (hn _ (List.getElem_mem hk2))]; exact g1, Wks.up le g2⟩
    refine kk rs' D1 D2 D3 D4 ys1 ys2 _ H9 pm EA fxx (e.at c7 xq) (le _ _ F5D1) ((w1''.up e.ff).up le) (le _ _ F5D2) (Wks.up le (Wks.up e.ff w3)) ?_ ?_
    · refine lots D3 q3 0 _ D3H (e.at hd7' D3q) (by omega) q3H fun k q hq => ?_
      have hk : k < q3.length := (List.getElem?_eq_some_iff.mp hq).1
      obtain ⟨_, us, g1, g2, _⟩ := lo.at' k q (by rw [List.getElem?_append_left hk]; exact hq)
      rw [if_pos (by omega), List.take_of_length_le (by omega)] at g2
      exact ⟨us, g1, g2⟩
    · refine lots D4 q4 0 _ D4H (e.at hd8 D4q) (by omega) q4H fun k q hq => ?_
      obtain ⟨_, us, g1, g2, _⟩ := lo.at' (q3.length + k) q (by rw [List.getElem?_append_right (by omega)]; simpa using hq)
      have ek : q3.length + k - sg.length = k := by omega
      rw [if_neg (by omega), List.take_of_length_le (by omega), ek] at g2
      exact ⟨us, g1, g2⟩
end
end T3

namespace T3
open PySem PySem.Spec PyProof.Rows L2 Ly
section
variable {P : Program} {w : World} {K : PySem.W.Frag} {mg : Str → Option Value} {base : Heap}
def spNetLen (K : PySem.W.Frag) : Sp := fun vs H Q _ => ∃ (a : Addr) (sg : List W) (rs : List Rd) (F : Hp), vs = [.ref a] ∧ Same F H ∧ NetF (He.ga K "Net") F sg rs (.ref a) ∧ Q (.int sg.length) H
theorem ok_net_len (T : Top K mg) : OkM P w K mg base (He.ma K (He.ga K "Net") "__len__") 1 ["self"] (spNetLen K) := by
  refine okm_of T.F_Net_len sc_Net_len (fun _ _ _ _ _ _ us hl => match us, hl with | [_], _ => rfl) (fun vs H Q E h => ?_) (fun cdv A outer s H vs Q E hr h => ?_)
  · first | (obtain ⟨rfl, _⟩ := h; rfl) | (obtain ⟨_, rfl, _⟩ := h; rfl) | (obtain ⟨_, _, rfl, _⟩ := h; rfl) | (obtain ⟨_, _, _, rfl, _⟩ := h; rfl) | (obtain ⟨_, _, _, _, rfl, _⟩ := h; rfl) | (obtain ⟨_, _, _, _, _, rfl, _⟩ := h; rfl) | (obtain ⟨_, _, _, _, _, _, rfl, _⟩ := h; rfl) | (obtain ⟨_, _, _, _, _, _, _, rfl, _⟩ := h; rfl) | (obtain ⟨_, _, _, _, _, _, _, _, rfl, _⟩ := h; rfl) | (obtain ⟨_, _, _, _, _, _, _, _, _, rfl, _⟩ := h; rfl) | (obtain ⟨_, _, _, _, _, _, _, _, _, _, rfl, _⟩ := h; rfl) | (obtain ⟨_, _, _, _, _, _, _, _, _, _, _, rfl, _⟩ := h; rfl)
  obtain ⟨a, sg, rs, F, rfl, hF, n, kk⟩ := h
  refine ⟨_, (pss_one (ps_ret (pe_callB call_len_seq rfl T.b_len (by decide +kernel) (pa_cons (pe_fld (pv 0) rfl) pa_nil)))), ?_⟩
  obtain ⟨a', dx, l1, l2, l3, l4, svs, rvs, e, h1, h2, h3, h4⟩ := n.ex
  cases e
  refine ⟨_, rfl, a, _, dx, _, .ref l1, rfl, hF _ _ h1, T.cl_Net, T.na_Net_own_signs, rfl, l1, svs, rfl, .inl (SqL.of (hF _ _ h2)), ?_⟩
  have := h3.len
  rw [this]
  exact kk
theorem mk_net {sa ra : Addr} {svs rvs : List V} {sg : List W} {rs : List Rd} {F H : Hp} {Q : VK} (hF : Same F H) (hsa : F sa = some (.lst svs)) (hsg : Wks F sg svs) (hok : ∀ k ∈ sg, Wok k) (h0 : 0 < sg.length) (h1 : sg.length < 100000) (hra : F ra = some (.lst rvs)) (hrs : Rds F rs rvs)
    (hro : ∀ r ∈ rs, r.OkN sg.length) (h2 : rs.length < 100000) (kk : ∀ x rs' F' H', rs'.Perm rs → Ex [] F H F' H' → NetF (He.ga K "Net") F' sg rs' (.ref x) → Q (.ref x) H') :
    ∀ x dx, H x = none → H dx = none → dx ≠ x → spInit K (.ref x :: ([.ref sa, .ref ra] ++ [])) (upd (upd H dx (.own x)) x (.ins (He.ga K "Net") dx [])) (fun v H2 => v = .non ∧ Q (.ref x) H2) E0 := by
  intro x dx hx hdx ne
  have e1 : Ex [] F H F (upd H dx (.own x)) := Ex.new hF hdx
  have e0 : Ex [] F H F (upd (upd H dx (.own x)) x (.ins (He.ga K "Net") dx [])) := e1.trans (Ex.new e1.fh (by rw [upd_ne (fun z => ne z.symm)]; exact hx))
  refine ⟨x, sa, ra, dx, svs, rvs, sg, rs, F, rfl, e0.fh, Same.free hF hx, upd_same, hsa, hsg, hok, h0, h1, hra, hrs, hro, h2, fun rs' l1 l2 l3 l4 svs' rvs' F' H' pm e fx hx' q1 q2 q3 q4 q5 q6 => ⟨rfl, ?_⟩⟩
  have e2 : Ex [] F H F' H' := e0.newly e (fun p hp => by rw [List.mem_singleton.mp hp]; exact hx)
  have le : Same F' (upd F' x (.ins (He.ga K "Net") dx (netFs l1 l2 l3 l4))) := Same.upd fx
  refine kk x rs' _ H' pm (e2.frz hx hx' fx) ⟨⟨x, dx, l1, l2, l3, l4, svs', rvs', rfl, upd_same, le _ _ q1, q2.up le, le _ _ q3, Wks.up le q4, q5.up le, q6.up le⟩, h0, h1, hok, fun r hr => hro r (pm.mem_iff.mp hr), ?_⟩
  rw [pm.length_eq]
  exact h2
def spIsList2 : Sp := fun vs H Q _ => ∃ (a : Addr) (xs : List V) (F : Hp), vs = [.ref a] ∧ Same F H ∧ F a = some (.lst xs) ∧ ∀ H', Ex [] F H F H' → Q (.bl true) H'
theorem ok_is_list2 (T : Top K mg) : Ok P w K mg base "is_list" 1 ["thing"] spIsList2 := by
  refine ok_of T.g_is_list T.F_is_list sc_is_list (fun _ _ _ _ _ _ us hl => match us, hl with | [_], _ => rfl) (fun vs H Q E h => ?_) (fun cdv A outer s H vs Q E hr h => ?_)
  · first | (obtain ⟨rfl, _⟩ := h; rfl) | (obtain ⟨_, rfl, _⟩ := h; rfl) | (obtain ⟨_, _, rfl, _⟩ := h; rfl) | (obtain ⟨_, _, _, rfl, _⟩ := h; rfl) | (obtain ⟨_, _, _, _, rfl, _⟩ := h; rfl) | (obtain ⟨_, _, _, _, _, rfl, _⟩ := h; rfl) | (obtain ⟨_, _, _, _, _, _, rfl, _⟩ := h; rfl) | (obtain ⟨_, _, _, _, _, _, _, rfl, _⟩ := h; rfl) | (obtain ⟨_, _, _, _, _, _, _, _, rfl, _⟩ := h; rfl) | (obtain ⟨_, _, _, _, _, _, _, _, _, rfl, _⟩ := h; rfl) | (obtain ⟨_, _, _, _, _, _, _, _, _, _, rfl, _⟩ := h; rfl) | (obtain ⟨_, _, _, _, _, _, _, _, _, _, _, rfl, _⟩ := h; rfl)
  obtain ⟨a, xs, F, rfl, hF, ha, kk⟩ := h
  refine ⟨_, (pss_one (ps_ret (pe_callB call_isiT rfl T.b_isinstance (by decide +kernel) (pa_cons (pv 0) (pa_cons (pe_tup (pa_cons (pe_bltn rfl T.b_list (by decide +kernel) (show RelV (.ty "list") _ from rfl)) (pa_cons (pe_bltn rfl T.b_tuple (by decide +kernel) (show RelV (.ty "tuple") _ from rfl)) pa_nil))) pa_nil))))), ?_⟩
  refine ⟨_, rfl, by show 2 ≤ sizeLine; decide, fun p hp => ?_⟩
  have e : Ex [] F H F (upd H p (.tup [.ty "list", .ty "tuple"])) := Ex.new hF hp
  exact ⟨.ref a, p, _, .type "list", [.type "list", .type "tuple"], true, rfl, upd_same, .cons (.ty _) (.cons (.ty _) .nil), .base (.lst (e.fh _ _ ha)), kit_seq (K := K) (.list []), kk _ e⟩
def spCheckedNets (K : PySem.W.Frag) : Sp := fun vs H Q _ => ∃ (a : Addr) (xs : List V) (F : Hp), vs = [.ref a] ∧ Same F H ∧ F a = some (.lst xs) ∧ 0 < xs.length ∧ xs.length < 100000 ∧ (∀ v ∈ xs, ∃ sg rs, NetF (He.ga K "Net") F sg rs v) ∧
  ∀ p H', Ex [] F H F H' → H p = none → H' p = some (.lst xs) → Q (.ref p) H'
end
end T3

namespace T3
open PySem PySem.Spec PyProof.Rows L2 Ly
section
variable {P : Program} {w : World} {K : PySem.W.Frag} {mg : Str → Option Value} {base : Heap}
def kWok (k : W) : Prop := full k = true ∧ k.data.canLay0 = true ∧ k.depth ≤ 7
/-- each thing once, in the order they come -/
def spOnce : Sp := fun vs H Q _ => ∃ (a : Addr) (xs : List V) (ks : List W) (F : Hp), vs = [.ref a] ∧ Same F H ∧ F a = some (.lst xs) ∧ Wks F ks xs ∧ (∀ k ∈ ks, kWok k) ∧ ks.length < 1000000 ∧
  ∀ p ys F' H', Ex [] F H F' H' → F' p = none → H p = none → H' p = some (.lst ys) → Wks F' (eOnce ks) ys → Q (.ref p) H'
theorem ok_once (T : Top K mg) : Ok P w K mg base "each_once" 1 ["things"] spOnce := by
  refine ok_of T.g_each_once T.F_each_once sc_each_once (fun _ _ _ _ _ _ us hl => match us, hl with | [_], _ => rfl) (fun vs H Q E h => ?_) (fun cdv A outer s H vs Q E hr h => ?_)
  · first | (obtain ⟨rfl, _⟩ := h; rfl) | (obtain ⟨_, rfl, _⟩ := h; rfl) | (obtain ⟨_, _, rfl, _⟩ := h; rfl) | (obtain ⟨_, _, _, rfl, _⟩ := h; rfl) | (obtain ⟨_, _, _, _, rfl, _⟩ := h; rfl) | (obtain ⟨_, _, _, _, _, rfl, _⟩ := h; rfl) | (obtain ⟨_, _, _, _, _, _, rfl, _⟩ := h; rfl) | (obtain ⟨_, _, _, _, _, _, _, rfl, _⟩ := h; rfl) | (obtain ⟨_, _, _, _, _, _, _, _, rfl, _⟩ := h; rfl) | (obtain ⟨_, _, _, _, _, _, _, _, _, rfl, _⟩ := h; rfl) | (obtain ⟨_, _, _, _, _, _, _, _, _, _, rfl, _⟩ := h; rfl) | (obtain ⟨_, _, _, _, _, _, _, _, _, _, _, rfl, _⟩ := h; rfl)
  obtain ⟨a, xs, ks, F, rfl, hF, ha, hw, hk, hl, kk⟩ := h
  refine ⟨_, (pss_one (ps_ret (pe_callTy (call_listM rfl) rfl T.b_list (by decide +kernel) (pa_cons (pe_dcM (ows := [("thing", 1)]) (g := (gName 1)) (tq := tYes) (tk := (tVar 1)) (tv := (tC (.bl true))) (hu64 hr) rfl sc_each_once.nd (pi_list (pv 0)) (blkOk_by (own := [("thing", 1)]) (N := N_each_once) (sc := defScope s_each_once) (by decide +kernel)) (fun _ _ _ _ _ => (pg_name (i := 1) sc_each_once.nd rfl (Or.inl rfl))) (fun _ _ _ _ _ => pts_nil) (fun _ _ _ _ _ => (pv 1)) (fun _ _ _ _ _ => pe_bl)) pa_nil)))), ?_⟩
  have z1 := sizeLine_eq
  have l1 := hw.len
  refine r_ret (r_cb (r_cons (dcm_list (fun R h => ⟨_, rfl, h⟩) ha hF (by omega) (ks.map fun k => (k, V.bl true)) (by simp; omega) (fun e he => ?_) ?_ ?_)))
  · obtain ⟨k, hk1, rfl⟩ := List.mem_map.mp he
    have := (hk k hk1).2.2
    show k.depth ≤ 8
    omega
  · intro i x k v F1 H1 Kk hx he e1 k1
    rw [List.getElem?_map] at he
    obtain ⟨k0, hk0, ek⟩ := Option.map_eq_some_iff.mp he
    cases ek
    obtain ⟨v2, hv2, wv⟩ := (hw.at hk0)
    rw [hx] at hv2
    cases hv2
    exact ⟨rfl, _, rfl, k1 x F1 H1 (Ex.refl e1.fh) (wv.up e1.ff)⟩
  · intro D F1 H1 e1 md
    refine ⟨D, _, F1, rfl, e1.fh, md, fun p ys hp wy => ?_⟩
    rw [puts_keys, List.map_map] at wy
    have ek : (ks.map ((fun e : W × V => e.1) ∘ fun k => (k, V.bl true))) = ks := by
      have : ((fun e : W × V => e.1) ∘ fun k : W => (k, V.bl true)) = id := rfl
      rw [this, List.map_id]
    rw [ek] at wy
    have e2 : Ex [] F1 H1 F1 (upd H1 p (.lst ys)) := Ex.new e1.fh hp
    refine kk p ys F1 _ (e1.trans e2) (Same.free e1.fh hp) ?_ upd_same wy
    cases z : H p with
    | none => rfl
    | some o => exact absurd hp (e1.dm p (ne_none z))
end
end T3

namespace T3
open PySem PySem.Spec PyProof.Rows L2 Ly
section
variable {P : Program} {w : World} {K : PySem.W.Frag} {mg : Str → Option Value} {base : Heap}
/-- words with their numbers -/
def numE (l : List W) : List (W × V) := l.zipIdx.map fun p => (p.1, V.int (p.2 : Nat))
theorem numE_get {l : List W} {i : Nat} : (numE l)[i]? = l[i]?.map fun k => (k, V.int (i : Nat)) := by
  unfold numE
  rw [List.getElem?_map, List.getElem?_zipIdx]
  cases l[i]? <;> simp
theorem numE_len (l : List W) : (numE l).length = l.length := by simp [numE]
theorem numE_keys (l : List W) : (numE l).map (·.1) = l := by
  apply List.ext_getElem?
  intro i
  rw [List.getElem?_map, numE_get]
  cases l[i]? <;> rfl
def spAsc8 : Sp := fun vs H Q _ => ∃ (a : Addr) (xs : List V) (ws : List W) (F : Hp), vs = [.ref a] ∧ Same F H ∧ H a = some (.lst xs) ∧ Wks F ws xs ∧ (∀ k ∈ ws, full k = true ∧ k.depth ≤ 7) ∧
  ∀ p ys F' H', Ex [] F H F' H' → H p = none → F' p = none → H' p = some (.lst ys) → Wks F' (wsort ws) ys → Q (.ref p) H'
theorem ok_ascending8 (T : Top K mg) : Ok P w K mg base "ascending" 14 ["words"] spAsc8 := by
  have G_order_key : Ok P w K mg base "order_key" 11 ["word"] (spOrderKey 8) := ok_order_key T 8
  refine ok_of T.g_ascending T.F_ascending sc_ascending (fun _ _ _ _ _ _ us hl => match us, hl with | [_], _ => rfl) (fun vs H Q E h => ?_) (fun cdv A outer s H vs Q E hr h => ?_)
  · first | (obtain ⟨rfl, _⟩ := h; rfl) | (obtain ⟨_, rfl, _⟩ := h; rfl) | (obtain ⟨_, _, rfl, _⟩ := h; rfl) | (obtain ⟨_, _, _, rfl, _⟩ := h; rfl) | (obtain ⟨_, _, _, _, rfl, _⟩ := h; rfl) | (obtain ⟨_, _, _, _, _, rfl, _⟩ := h; rfl) | (obtain ⟨_, _, _, _, _, _, rfl, _⟩ := h; rfl) | (obtain ⟨_, _, _, _, _, _, _, rfl, _⟩ := h; rfl) | (obtain ⟨_, _, _, _, _, _, _, _, rfl, _⟩ := h; rfl) | (obtain ⟨_, _, _, _, _, _, _, _, _, rfl, _⟩ := h; rfl) | (obtain ⟨_, _, _, _, _, _, _, _, _, _, rfl, _⟩ := h; rfl) | (obtain ⟨_, _, _, _, _, _, _, _, _, _, _, rfl, _⟩ := h; rfl)
  obtain ⟨a, xs, ws, F, rfl, hF, ha, hw, ho, kk⟩ := h
  refine ⟨_, (pss_one (ps_ret (pe_sortedK G_order_key (hr.mono (by omega)) (by decide) T.b_sorted (pa_cons (pv 0) pa_nil)))), ?_⟩
  refine ⟨_, rfl, a, xs, ws, F, rfl, rfl, SqL.of ha, hF, hw, fulls_of fun k hk => (ho k hk).1, ?_, kk⟩
  have := dall_le (n := 7) fun k hk => (ho k hk).2
  omega
def spNumbered (w : World) : Sp := fun vs H Q _ => ∃ (a : Addr) (xs : List V) (ks : List W) (F : Hp), vs = [.ref a] ∧ Same F H ∧ F a = some (.lst xs) ∧ Wks F ks xs ∧ (∀ k ∈ ks, kWok k) ∧ ks.length < 1000000 ∧
  ∀ D F' H', Ex [] F H F' H' → MD w F' D (numE (numb ks)) → Q (.ref D) H'
theorem ok_numbered (T : Top K mg) : Ok P w K mg base "numbered" 15 ["words"] (spNumbered w) := by
  have G_once : Ok P w K mg base "each_once" 1 ["things"] spOnce := ok_once T
  have G_ascending : Ok P w K mg base "ascending" 14 ["words"] spAsc8 := ok_ascending8 T
  refine ok_of T.g_numbered T.F_numbered sc_numbered (fun _ _ _ _ _ _ us hl => match us, hl with | [_], _ => rfl) (fun vs H Q E h => ?_) (fun cdv A outer s H vs Q E hr h => ?_)
  · first | (obtain ⟨rfl, _⟩ := h; rfl) | (obtain ⟨_, rfl, _⟩ := h; rfl) | (obtain ⟨_, _, rfl, _⟩ := h; rfl) | (obtain ⟨_, _, _, rfl, _⟩ := h; rfl) | (obtain ⟨_, _, _, _, rfl, _⟩ := h; rfl) | (obtain ⟨_, _, _, _, _, rfl, _⟩ := h; rfl) | (obtain ⟨_, _, _, _, _, _, rfl, _⟩ := h; rfl) | (obtain ⟨_, _, _, _, _, _, _, rfl, _⟩ := h; rfl) | (obtain ⟨_, _, _, _, _, _, _, _, rfl, _⟩ := h; rfl) | (obtain ⟨_, _, _, _, _, _, _, _, _, rfl, _⟩ := h; rfl) | (obtain ⟨_, _, _, _, _, _, _, _, _, _, rfl, _⟩ := h; rfl) | (obtain ⟨_, _, _, _, _, _, _, _, _, _, _, rfl, _⟩ := h; rfl)
  obtain ⟨a, xs, ks, F, rfl, hF, ha, hw, hk, hl, kk⟩ := h
  refine ⟨_, (pss_one (ps_ret (pe_dcM (ows := [("number", 1), ("word", 2)]) (g := (gTup K 2 (gCons (gName 1) (gCons (gName 2) gNil)))) (tq := tYes) (tk := (tVar 2)) (tv := (tVar 1)) (hu64 hr) rfl sc_numbered.nd (pi_enum rfl T.b_enumerate (pa_cons (pe_ok G_ascending hr (pa_cons (pe_ok G_once hr (pa_cons (pv 0) pa_nil)) pa_nil)) pa_nil)) (blkOk_by (own := [("number", 1), ("word", 2)]) (N := N_numbered) (sc := defScope s_numbered) (by decide +kernel)) (fun _ _ _ _ _ => (pg_tup rfl (pgs_cons (pg_name (i := 1) sc_numbered.nd rfl (Or.inl rfl)) (pgs_cons (pg_name (i := 2) sc_numbered.nd rfl (Or.inl rfl)) pgs_nil)))) (fun _ _ _ _ _ => pts_nil) (fun _ _ _ _ _ => (pv 2)) (fun _ _ _ _ _ => (pv 1))))), ?_⟩
  have z1 := sizeLine_eq
  have hk2 : ∀ k ∈ eOnce ks, kWok k := fun k h => hk k ((eOnce_mem _ _).mp h)
  refine r_ret ?_
  unfold tDcM iEnum
  refine r_cons (r_call (r_cons (r_call (r_cons ⟨_, rfl, a, xs, ks, F, rfl, hF, ha, hw, hk, hl, fun p ys F1 H1 e1 fp hp0 hp wy => ?_⟩))))
  refine ⟨p, ys, eOnce ks, F1, rfl, e1.fh, hp, wy, fun k h => ⟨(hk2 k h).1, (hk2 k h).2.2⟩, fun p2 zs F2 H2 e2 hp2 fp2 hd2 wz => ?_⟩
  have E2 := e1.trans e2
  have hp20 : H p2 = none := by
    cases z : H p2 with
    | none => rfl
    | some o => exact absurd hp2 (e1.dm p2 (ne_none z))
  have E3 := E2.frz hp20 hd2 fp2
  have w3 : Wks (upd F2 p2 (.lst zs)) (numb ks) zs := wz.up (Same.upd fp2)
  have d3 : (upd F2 p2 (.lst zs)) p2 = some (.lst zs) := upd_same
  have lz := w3.len
  have lz2 := numb_len ks
  generalize upd F2 p2 (.lst zs) = F3 at E3 w3 d3
  refine ⟨p2, zs, rfl, SqL.of hd2, dcm_enumI d3 E3.fh (by omega) (numE (numb ks)) (by rw [numE_len]; omega) (fun e he => ?_) ?_ ?_⟩
  · have h1 : e.1 ∈ (numE (numb ks)).map (·.1) := List.mem_map.mpr ⟨e, he, rfl⟩
    rw [numE_keys] at h1
    have := (hk _ (numb_mem.mp h1)).2.2
    omega
  · intro i x t k v F4 H4 Kk hx he e4 k1
    rw [numE_get] at he
    obtain ⟨k0, hk0, ek⟩ := Option.map_eq_some_iff.mp he
    cases ek
    obtain ⟨v2, hv2, wv⟩ := (w3.at hk0)
    rw [hx] at hv2
    cases hv2
    refine ⟨t, _, rfl, SqT.of upd_same, rfl, _, _, rfl, _, _, rfl, rfl, rfl, _, rfl, _, rfl, ?_⟩
    exact k1 x F4 _ (Ex.refl e4.fh) (wv.up e4.ff)
  · intro D F4 H4 e4 md
    rw [puts_nodup (by rw [numE_keys]; exact numb_nodup ks)] at md
    exact kk D F4 H4 (E3.trans e4) md
end
end T3

namespace T3
open PySem PySem.Spec PyProof.Rows L2 Ly
section
variable {P : Program} {w : World} {K : PySem.W.Frag} {mg : Str → Option Value} {base : Heap}
theorem valW_numE {l : List W} {k : W} (hn : l.Nodup) {i : Nat} (h : l[i]? = some k) : valW (numE l) k = some (.int (i : Nat)) := by
  have hi : i < l.length := (List.getElem?_eq_some_iff.mp h).1
  have e : (numE l)[i]? = some (k, .int (i : Nat)) := by rw [numE_get, h]; rfl
  unfold valW
  have : (numE l).find? (fun e => decide (e.1 = k)) = some (k, V.int (i : Nat)) := by
    rw [List.find?_eq_some_iff_getElem]
    refine ⟨by simp, i, by rw [numE_len]; exact hi, (List.getElem?_eq_some_iff.mp e).2, fun j hj => ?_⟩
    have hj2 : j < l.length := by omega
    have e2 : (numE l)[j]? = some (l[j], .int (j : Nat)) := by rw [numE_get]; simp [hj2]
    have e3 := (List.getElem?_eq_some_iff.mp e2).2
    simp only [e3, Bool.not_eq_true', decide_eq_false_iff_not]
    intro z
    have := nodup_at hn (i := j) (j := i) (x := k) (by simp [hj2, z]) h
    omega
  rw [this]
  rfl
theorem valW_nth {ks : List W} {k : W} (h : k ∈ ks) : valW (numE (numb ks)) k = some (.int (nth ks k : Nat)) := valW_numE (numb_nodup ks) (nth_at h)
end
end T3

namespace T3
open PySem PySem.Spec PyProof.Rows L2 Ly
section
variable {P : Program} {w : World} {K : PySem.W.Frag} {mg : Str → Option Value} {base : Heap}
def spFirst (K : PySem.W.Frag) : Sp := fun vs H Q _ => ∃ (x : V) (sg : List W) (rs : List Rd) (F : Hp), vs = [x] ∧ Same F H ∧ NetF (He.ga K "Net") F sg rs x ∧
  ∀ D F' H', Ex [] F H F' H' → H D = none → F' D = none → H' D = some (.lst (intsV (sg.map (nth sg)))) → Q (.ref D) H'
theorem ok_first_ranks (T : Top K mg) : Ok P w K mg base "first_ranks" 16 ["net"] (spFirst K) := by
  have G_numbered : Ok P w K mg base "numbered" 15 ["words"] (spNumbered w) := ok_numbered T
  refine ok_of T.g_first_ranks T.F_first_ranks sc_first_ranks (fun _ _ _ _ _ _ us hl => match us, hl with | [_], _ => rfl) (fun vs H Q E h => ?_) (fun cdv A outer s H vs Q E hr h => ?_)
  · first | (obtain ⟨rfl, _⟩ := h; rfl) | (obtain ⟨_, rfl, _⟩ := h; rfl) | (obtain ⟨_, _, rfl, _⟩ := h; rfl) | (obtain ⟨_, _, _, rfl, _⟩ := h; rfl) | (obtain ⟨_, _, _, _, rfl, _⟩ := h; rfl) | (obtain ⟨_, _, _, _, _, rfl, _⟩ := h; rfl) | (obtain ⟨_, _, _, _, _, _, rfl, _⟩ := h; rfl) | (obtain ⟨_, _, _, _, _, _, _, rfl, _⟩ := h; rfl) | (obtain ⟨_, _, _, _, _, _, _, _, rfl, _⟩ := h; rfl) | (obtain ⟨_, _, _, _, _, _, _, _, _, rfl, _⟩ := h; rfl) | (obtain ⟨_, _, _, _, _, _, _, _, _, _, rfl, _⟩ := h; rfl) | (obtain ⟨_, _, _, _, _, _, _, _, _, _, _, rfl, _⟩ := h; rfl)
  obtain ⟨x, sg, rs, F, rfl, hF, n, kk⟩ := h
  refine ⟨_, (pss_cons (ps_set (i := 1) sc_first_ranks.nd rfl (Or.inr rfl) (pe_ok G_numbered hr (pa_cons (pe_fld (pv 0) rfl) pa_nil)))
    (pss_one (ps_ret (pe_lc (own := [("sign", 2)]) (g := (gName 2)) (tt := tYes) (te := (tMGet w (tVar 1) (tVar 2))) rfl sc_first_ranks.nd (pi_list (pe_fld (pv 0) rfl)) (blkOk_by (own := [("sign", 2)]) (N := N_first_ranks) (sc := defScope s_first_ranks) (by decide +kernel)) (fun _ _ _ _ _ => (pg_name (i := 2) sc_first_ranks.nd rfl (Or.inl rfl))) (fun _ _ _ _ _ => pts_nil) (fun _ _ _ _ _ => (pe_mget (hu64 hr) (pv 1) (pv 2))))))), ?_⟩
  obtain ⟨a, dx, l1, l2, l3, l4, svs, rvs, rfl, h1, h2, h3, h4, h5, _⟩ := n.ex
  have z1 := sizeLine_eq
  have m1 := n.sml
  have m2 := h3.len
  refine r_seq (r_asg (r_call (r_cons ⟨_, rfl, a, _, dx, _, .ref l1, rfl, hF _ _ h1, T.cl_Net, T.na_Net_own_signs, rfl, ?_⟩)))
  refine ⟨l1, svs, sg, F, rfl, hF, h2, h3, fun k hk => ⟨(n.sok k hk).fl, (n.sok k hk).lay, by have := (n.sok k hk).dp; omega⟩, by omega, fun D F1 H1 e1 md => ?_⟩
  refine r_next ?_
  dsimp only
  refine r_ret (lcg_list [] (fun R h => ⟨_, rfl, a, _, dx, _, .ref l1, rfl, e1.fh _ _ (e1.ff _ _ h1), T.cl_Net, T.na_Net_own_signs, rfl, h⟩) (e1.ff _ _ h2) e1.fh (by simp) (by omega) (fun k acc _ => acc = intsV ((sg.take k).map (nth sg))) (fun _ _ _ => True) (fun _ _ _ _ _ q => q) (fun _ _ _ _ _ _ _ _ _ => trivial) rfl trivial ?_ ?_)
  · intro i y acc F' H' Kk Nk hi hy e p _ _ k1 _
    obtain ⟨k, hk, wk⟩ := h3.get hy
    have km := List.mem_of_getElem? hk
    have le := Same.trans e1.ff e.ff
    refine ⟨rfl, _, rfl, _, rfl, D, k, numE (numb sg), .int (nth sg k : Nat), rfl, MD.up e.fh (MD.up e.ff md), (wk.up le).up e.fh, by have := (n.sok k km).dp; omega, valW_nth km, ?_⟩
    refine k1 _ F' H' (Ex.refl e.fh) ?_ trivial
    rw [p, List.take_add_one, hk]
    simp [intsV]
  · intro D2 acc F' H' e hD fD hd' p _ _
    rw [List.take_of_length_le (by omega)] at p
    refine kk D2 F' H' (e1.trans e) ?_ fD (by rw [hd', p])
    cases z : H D2 with
    | none => rfl
    | some o => exact absurd hD (e1.dm D2 (ne_none z))
end
end T3

namespace T3
open PySem PySem.Spec PyProof.Rows L2 Ly
section
variable {P : Program} {w : World} {K : PySem.W.Frag} {mg : Str → Option Value} {base : Heap}
theorem heard_mem {rs : List Rd} {f : Nat → Nat} {p n : Nat} (ok : ∀ r ∈ rs, r.OkN n) {k : W} (h : k ∈ heard rs f p) : full k = true ∧ k.data.canLay0 = true ∧ k.depth ≤ 4 := by
  obtain ⟨r, hr, rfl⟩ := List.mem_map.mp h
  have o := ok r (List.mem_filter.mp hr).1
  have d1 := o.ho.dp
  have d2 := o.hi.dp
  refine ⟨by simp [full, fulls, o.ho.fl, o.hi.fl], by simp [NestedKey.data, NestedKey.datas, PyData.canLay0, PyData.canLayAll0, o.ho.lay, o.hi.lay], ?_⟩
  simp [NestedKey.depth, NestedKey.depthAll]
  omega
theorem lot_ok {rs : List Rd} {f : Nat → Nat} {p n : Nat} (ok : ∀ r ∈ rs, r.OkN n) : full (lotW rs f p) = true ∧ (lotW rs f p).data.canLay0 = true ∧ (lotW rs f p).depth ≤ 6 := by
  have hm : ∀ k ∈ wsort (heard rs f p), full k = true ∧ k.data.canLay0 = true ∧ k.depth ≤ 4 := fun k hk => heard_mem ok ((wsort_perm _).mem_iff.mp hk)
  have d1 := dall_le (n := 4) fun k hk => (hm k hk).2.2
  refine ⟨?_, ?_, ?_⟩
  · simp [lotW, full, fulls, fulls_of fun k hk => (hm k hk).1]
  · simp [lotW, NestedKey.data, NestedKey.datas, PyData.canLay0, PyData.canLayAll0, lay_datas fun k hk => (hm k hk).2.1]
  · simp [lotW, NestedKey.depth, NestedKey.depthAll]
    omega
theorem lots_kWok {rs : List Rd} {f : Nat → Nat} {n m : Nat} (ok : ∀ r ∈ rs, r.OkN n) {k : W} (h : k ∈ lotsW rs m f) : kWok k := by
  obtain ⟨p, _, rfl⟩ := lotsW_mem.mp h
  have := lot_ok (f := f) (p := p) ok
  exact ⟨this.1, this.2.1, by omega⟩
theorem lots_get {rs : List Rd} {n i : Nat} {f : Nat → Nat} (h : i < n) : (lotsW rs n f)[i]? = some (lotW rs f i) := by simp [lotsW, h]
theorem step_tab {rs : List Rd} {n : Nat} {f : Nat → Nat} : tab n (rkStep rs n f) = (lotsW rs n f).map (nth (lotsW rs n f)) := by simp [tab, lotsW, rkStep]
def spNext (K : PySem.W.Frag) : Sp := fun vs H Q _ => ∃ (x : V) (ra : Addr) (sg : List W) (rs : List Rd) (f : Nat → Nat) (F : Hp), vs = [x, .ref ra] ∧ Same F H ∧ NetF (He.ga K "Net") F sg rs x ∧ F ra = some (.lst (intsV (tab sg.length f))) ∧
  ∀ D F' H', Ex [] F H F' H' → H D = none → F' D = none → H' D = some (.lst (intsV (tab sg.length (rkStep rs sg.length f)))) → Q (.ref D) H'
theorem ok_next_ranks (T : Top K mg) : Ok P w K mg base "next_ranks" 16 ["net", "ranked"] (spNext K) := by
  have G_ascending : Ok P w K mg base "ascending" 14 ["words"] spAsc8 := ok_ascending8 T
  have G_numbered : Ok P w K mg base "numbered" 15 ["words"] (spNumbered w) := ok_numbered T
  refine ok_of T.g_next_ranks T.F_next_ranks sc_next_ranks (fun _ _ _ _ _ _ us hl => match us, hl with | [_, _], _ => rfl) (fun vs H Q E h => ?_) (fun cdv A outer s H vs Q E hr h => ?_)
  · first | (obtain ⟨rfl, _⟩ := h; rfl) | (obtain ⟨_, rfl, _⟩ := h; rfl) | (obtain ⟨_, _, rfl, _⟩ := h; rfl) | (obtain ⟨_, _, _, rfl, _⟩ := h; rfl) | (obtain ⟨_, _, _, _, rfl, _⟩ := h; rfl) | (obtain ⟨_, _, _, _, _, rfl, _⟩ := h; rfl) | (obtain ⟨_, _, _, _, _, _, rfl, _⟩ := h; rfl) | (obtain ⟨_, _, _, _, _, _, _, rfl, _⟩ := h; rfl) | (obtain ⟨_, _, _, _, _, _, _, _, rfl, _⟩ := h; rfl) | (obtain ⟨_, _, _, _, _, _, _, _, _, rfl, _⟩ := h; rfl) | (obtain ⟨_, _, _, _, _, _, _, _, _, _, rfl, _⟩ := h; rfl) | (obtain ⟨_, _, _, _, _, _, _, _, _, _, _, rfl, _⟩ := h; rfl)
  obtain ⟨x, ra, sg, rs, f, F, rfl, hF, n, hra, kk⟩ := h
  refine ⟨_, (pss_cons (ps_set (i := 2) sc_next_ranks.nd rfl (Or.inl rfl) (pe_lst pa_nil))
    (pss_cons (ps_for PassesOwn.never rfl (pi_zip rfl T.b_zip (pa_cons (pv 1) (pa_cons (pe_fld (pv 0) rfl) pa_nil))) (pg_tup rfl (pgs_cons (pg_name (i := 3) sc_next_ranks.nd rfl (Or.inl rfl)) (pgs_cons (pg_name (i := 4) sc_next_ranks.nd rfl (Or.inl rfl)) pgs_nil))) (pss_one (ps_expr (pe_bm PySem.F.plainAttrs_list PySem.F.slot_list_append PySem.F.type_list_append mt_append (pv 2) (pa_cons (pe_tup (pa_cons (pv 3) (pa_cons (pe_callTy call_tuple_of rfl T.b_tuple (by decide +kernel) (pa_cons (pe_ok G_ascending hr (pa_cons (pe_lc (own := [("one", 5), ("other", 6), ("out", 7), ("into", 8)]) (g := (gTup K 4 (gCons (gName 5) (gCons (gName 6) (gCons (gName 7) (gCons (gName 8) gNil)))))) (tt := tYes) (te := (tTup (tCons (tVar 8) (tCons (tVar 7) (tCons (tOp (rIxL K) (tVar 1) (tVar 5)) tNil))))) rfl sc_next_ranks.nd (pi_list (pv 4)) (blkOk_by (own := [("one", 5), ("other", 6), ("out", 7), ("into", 8)]) (N := N_next_ranks) (sc := defScope s_next_ranks) (by decide +kernel)) (fun _ _ _ _ _ => (pg_tup rfl (pgs_cons (pg_name (i := 5) sc_next_ranks.nd rfl (Or.inl rfl)) (pgs_cons (pg_name (i := 6) sc_next_ranks.nd rfl (Or.inl rfl)) (pgs_cons (pg_name (i := 7) sc_next_ranks.nd rfl (Or.inl rfl)) (pgs_cons (pg_name (i := 8) sc_next_ranks.nd rfl (Or.inl rfl)) pgs_nil)))))) (fun _ _ _ _ _ => pts_nil) (fun _ _ _ _ _ => (pe_tup (pa_cons (pv 8) (pa_cons (pv 7) (pa_cons (pe_ix ix_list (pv 1) (pv 5) (fun _ _ => rfl)) pa_nil)))))) pa_nil)) pa_nil)) pa_nil))) pa_nil)))))
    (pss_cons (ps_set (i := 9) sc_next_ranks.nd rfl (Or.inr rfl) (pe_ok G_numbered hr (pa_cons (pv 2) pa_nil)))
    (pss_one (ps_ret (pe_lc (own := [("lot", 10)]) (g := (gName 10)) (tt := tYes) (te := (tMGet w (tVar 9) (tVar 10))) rfl sc_next_ranks.nd (pi_list (pv 2)) (blkOk_by (own := [("lot", 10)]) (N := N_next_ranks) (sc := defScope s_next_ranks) (by decide +kernel)) (fun _ _ _ _ _ => (pg_name (i := 10) sc_next_ranks.nd rfl (Or.inl rfl))) (fun _ _ _ _ _ => pts_nil) (fun _ _ _ _ _ => (pe_mget (hu64 hr) (pv 9) (pv 10))))))))), ?_⟩
  obtain ⟨a, dx, l1, l2, l3, l4, svs, rvs, rfl, h1, h2, h3, h4, h5, ⟨ivs, hi1, hi2, hi3⟩, _⟩ := n.ex
  have z1 := sizeLine_eq
  have m1 := n.sml
  have m2 := n.rsm
  refine r_seq (r_asg ⟨Nat.zero_le _, fun fp hfp => ?_⟩)
  have f0 : F fp = none := Same.free hF hfp
  have e0 : Ex [] F H F (upd H fp (.lst [])) := Ex.new hF hfp
  have d0 : (upd H fp (.lst [])) fp = some (.lst []) := upd_same
  refine r_next ?_
  dsimp only
  show tSeq _ _ _ _ (upd H fp (.lst []))
  generalize upd H fp (.lst []) = H1 at e0 d0
  refine r_seq (forg_zip (n := sg.length) [fp] (fun R h => ⟨_, rfl, _, rfl, a, _, dx, _, .ref l3, rfl, e0.fh _ _ h1, T.cl_Net, T.na_Net_own_in, rfl, h⟩) hra hi1 (by rw [intsV_len, tab_len, hi2, Nat.min_self]) e0.fh (fun i σ1 F1 H1 => (∃ u v, σ1 = [some (.ref a), some (.ref ra), some (.ref fp), u, v, none, none, none, none, none, none]) ∧ F1 fp = none ∧ ∃ ys, H1 fp = some (.lst ys) ∧ Wks F1 ((lotsW rs sg.length f).take i) ys)
    ⟨⟨_, _, rfl⟩, f0, [], d0, by simpa using Wks.nil⟩ ?_ ?_)
  · rintro i x y T1 σ1 F2 H2 Nk hi hx hy e ⟨⟨u, v, rfl⟩, f2, ys, d2, w2⟩ hT nk
    rw [intsV_get, tab_get hi] at hx
    obtain rfl : V.int (f i : Nat) = x := Option.some.inj hx
    obtain ⟨q, us, hq1, hq2, hq3⟩ := hi3 i hi
    rw [hy] at hq1
    obtain rfl := Option.some.inj hq1
    have lus : us.length = (rs.filter fun r => decide (r.b = i)).length := Rds.len hq3
    have lf : (rs.filter fun r => decide (r.b = i)).length ≤ rs.length := List.length_filter_le _ _
    have eT : Ex [fp] F2 H2 F2 (upd H2 T1 (.tup [.int (f i : Nat), .ref q])) := Ex.new e.fh hT
    have dT : (upd H2 T1 (.tup [.int (f i : Nat), .ref q])) T1 = some (.tup [.int (f i : Nat), .ref q]) := upd_same
    have dfp : (upd H2 T1 (.tup [.int (f i : Nat), .ref q])) fp = some (.lst ys) := by rw [upd_ne (ne_of_none d2 hT)]; exact d2
    have lys := w2.len
    rw [List.length_take] at lys
    generalize upd H2 T1 (.tup [.int (f i : Nat), .ref q]) = H3 at eT dT dfp nk
    have le3 : Same F F2 := e.ff
    refine ⟨T1, _, rfl, SqT.of dT, rfl, _, _, rfl, _, _, rfl, rfl, ?_⟩
    refine r_drop ⟨_, rfl, .inl ⟨rfl, _, SqL.of dfp⟩, r_cons (r_tup ⟨_, rfl, r_cons (r_cb (r_cons (r_call (r_cons ?_))))⟩)⟩
    refine lcg_list [fp] (fun R h => ⟨_, rfl, h⟩) (le3 _ _ hq2) eT.fh (by intro p hp; rw [List.mem_singleton.mp hp]; exact ne_none dfp) (by omega) (fun k acc F => Wks F ((heard rs f i).take k) acc) (fun _ _ H' => H' fp = some (.lst ys)) (fun _ _ _ _ h q => Wks.up h q) (fun N k F1 H1 F2 H2 hN e h => e.at h (fun z => by have := hN fp z; rw [dfp] at this; cases this)) (by simpa using Wks.nil) dfp ?_ ?_
    · intro k y acc F4 H4 Kk Nk2 hk hy4 e4 p4 j4 _ k4 _
      obtain ⟨r, hr, wr⟩ := Rds.get hq3 hy4
      have rok := n.rok r (List.mem_filter.mp (List.mem_of_getElem? hr)).1
      have le4 := Same.trans le3 e4.ff
      obtain ⟨q4, vo, vi, rfl, hq4, wo, wi⟩ := Rd.wk (Wk.up le4 wr)
      have hra4 := e4.fh _ _ (le4 _ _ hra)
      refine ⟨q4, _, rfl, SqT.of (e4.fh _ _ hq4), rfl, _, _, rfl, _, _, rfl, _, _, rfl, _, _, rfl, rfl, rfl, _, rfl, _, rfl, _, rfl, _, rfl, ra, _, _, .int (f r.a : Nat), rfl, rfl, SqL.of hra4, atI_nat (by rw [intsV_get, tab_get rok.ha]; rfl), by show 3 ≤ sizeLine; omega, fun p2 hp2 => ?_⟩
      have e5 : Ex [fp] F4 H4 (upd F4 p2 (.tup [vi, vo, .int (f r.a : Nat)])) (upd H4 p2 (.tup [vi, vo, .int (f r.a : Nat)])) := Ex.newF e4.fh hp2
      have wn : Wk (upd F4 p2 (.tup [vi, vo, .int (f r.a : Nat)])) (.tup [r.i, r.o, .num (f r.a)]) (.ref p2) := wk_new (Same.free e4.fh hp2) (.cons wi (.cons wo (.one (wk_num.mpr rfl))))
      refine k4 _ _ _ e5 ?_ ?_
      · exact wks_take_snoc (p4.up e5.ff) (by unfold heard; rw [List.getElem?_map, hr]; rfl) wn
      · rw [upd_ne (ne_of_none j4 hp2)]
        exact j4
    · intro D acc F4 H4 e4 hD fD hd4 p4 j4 _
      have lh : (heard rs f i).length = us.length := by unfold heard; rw [List.length_map, lus]
      rw [List.take_of_length_le (by omega)] at p4
      have lacc := p4.len
      refine ⟨D, acc, heard rs f i, F4, rfl, e4.fh, hd4, p4, fun k hk => ⟨(heard_mem n.rok hk).1, by have := (heard_mem n.rok hk).2.2; omega⟩, fun p ys2 F5 H5 e5 hp fp5 hd5 w5 => ?_⟩
      have d5 : H5 fp = some (.lst ys) := e5.at j4
      have lys2 := w5.len
      have lw : (wsort (heard rs f i)).length = (heard rs f i).length := (wsort_perm _).length_eq
      refine ⟨p, ys2, rfl, .inl ⟨SqL.of hd5, fun l hl => ?_⟩⟩
      have e6 : Ex [fp] F5 H5 (upd F5 l (.tup ys2)) (upd H5 l (.tup ys2)) := Ex.newF e5.fh hl
      have d6 : (upd H5 l (.tup ys2)) fp = some (.lst ys) := by rw [upd_ne (ne_of_none d5 hl)]; exact d5
      have w6 : Wk (upd F5 l (.tup ys2)) (.tup (wsort (heard rs f i))) (.ref l) := wk_new (Same.free e5.fh hl) w5 (by omega)
      generalize upd F5 l (.tup ys2) = F6 at e6 w6
      generalize upd H5 l (.tup ys2) = H6 at e6 d6
      refine ⟨by show 2 ≤ sizeLine; omega, fun p2 hp2 => ?_⟩
      have e7 : Ex [fp] F6 H6 (upd F6 p2 (.tup [.int (f i : Nat), .ref l])) (upd H6 p2 (.tup [.int (f i : Nat), .ref l])) := Ex.newF e6.fh hp2
      have d7 : (upd H6 p2 (.tup [.int (f i : Nat), .ref l])) fp = some (.lst ys) := by rw [upd_ne (ne_of_none d6 hp2)]; exact d6
      have w7 : Wk (upd F6 p2 (.tup [.int (f i : Nat), .ref l])) (lotW rs f i) (.ref p2) := wk_new (Same.free e6.fh hp2) (.cons (wk_num.mpr rfl) (.one w6))
      have E7 : Ex [fp] F2 H2 (upd F6 p2 (.tup [.int (f i : Nat), .ref l])) (upd H6 p2 (.tup [.int (f i : Nat), .ref l])) := eT.trans (e4.trans ((e5.mono (by simp)).trans (e6.trans e7)))
      have E73 : Ex [fp] F2 H3 (upd F6 p2 (.tup [.int (f i : Nat), .ref l])) (upd H6 p2 (.tup [.int (f i : Nat), .ref l])) := e4.trans ((e5.mono (by simp)).trans (e6.trans e7))
      have f7 := E7.nf f2 (ne_none d2)
      generalize upd F6 p2 (.tup [.int (f i : Nat), .ref l]) = F7 at e7 w7 E7 E73 f7
      generalize upd H6 p2 (.tup [.int (f i : Nat), .ref l]) = H7 at e7 d7 E7 E73
      refine ⟨fp, ys, _, rfl, rfl, d7, by omega, ?_⟩
      have e8 : Ex [fp] F7 H7 F7 (upd H7 fp (.lst (ys ++ [.ref p2]))) := Ex.put e7.fh f7 (by simp)
      exact nk _ F7 _ (E73.trans e8) ⟨⟨_, _, rfl⟩, f7, _, upd_same, wks_take_snoc (w2.up E7.ff) (lots_get hi) w7⟩
  · rintro σ1 F2 H2 e ⟨⟨u, v, rfl⟩, f2, ys, d2, w2⟩
    have lL : (lotsW rs sg.length f).length = sg.length := by simp [lotsW]
    rw [List.take_of_length_le (by omega)] at w2
    have lys := w2.len
    have E2 : Ex [] F H F2 H2 := e0.newly e (fun p hp => by rw [List.mem_singleton.mp hp]; exact hfp)
    have E3 := E2.frz hfp d2 f2
    have d3 : (upd F2 fp (.lst ys)) fp = some (.lst ys) := upd_same
    have w3 : Wks (upd F2 fp (.lst ys)) (lotsW rs sg.length f) ys := w2.up (Same.upd f2)
    generalize upd F2 fp (.lst ys) = F3 at E3 d3 w3
    refine r_next ?_
    dsimp only
    refine r_seq (r_asg (r_call (r_cons ⟨_, rfl, ?_⟩)))
    refine ⟨fp, ys, lotsW rs sg.length f, F3, rfl, E3.fh, d3, w3, fun k hk => lots_kWok n.rok hk, by omega, fun D F4 H4 e4 md => ?_⟩
    refine r_next ?_
    dsimp only
    refine r_ret (lcg_list [] (fun R h => ⟨_, rfl, h⟩) (e4.ff _ _ d3) e4.fh (by simp) (by omega) (fun k acc _ => acc = intsV (((lotsW rs sg.length f).take k).map (nth (lotsW rs sg.length f)))) (fun _ _ _ => True) (fun _ _ _ _ _ q => q) (fun _ _ _ _ _ _ _ _ _ => trivial) rfl trivial ?_ ?_)
    · intro i y acc F' H' Kk Nk hi hy e5 p _ _ k1 _
      obtain ⟨k, hk, wk⟩ := w3.get hy
      have km := List.mem_of_getElem? hk
      have le := Same.trans e4.ff e5.ff
      refine ⟨rfl, _, rfl, _, rfl, D, k, numE (numb (lotsW rs sg.length f)), .int (nth (lotsW rs sg.length f) k : Nat), rfl, MD.up e5.fh (MD.up e5.ff md), (wk.up le).up e5.fh, by have := (lots_kWok n.rok km).2.2; omega, valW_nth km, ?_⟩
      refine k1 _ F' H' (Ex.refl e5.fh) ?_ trivial
      rw [p, List.take_add_one, hk]
      simp [intsV]
    · intro D2 acc F' H' e5 hD fD hd' p _ _
      rw [List.take_of_length_le (by omega), ← step_tab] at p
      refine kk D2 F' H' (E3.trans (e4.trans e5)) ?_ fD (by rw [hd', p])
      cases z : H D2 with
      | none => rfl
      | some o => exact absurd hD ((E3.trans e4).dm D2 (ne_none z))
end
end T3

namespace T3
open PySem PySem.Spec PyProof.Rows L2 Ly
section
variable {P : Program} {w : World} {K : PySem.W.Frag} {mg : Str → Option Value} {base : Heap}
/-- how many rounds parted something -/
def rkCnt (rs : List Rd) (n : Nat) : Nat → (Nat → Nat) → Nat
  | 0, _ => 0
  | k + 1, f => if mxL (tab n (rkStep rs n f)) = mxL (tab n f) then 0 else rkCnt rs n k (rkStep rs n f) + 1
theorem max_ints {l : List Nat} {m : Int} (h : m ∈ l.map (fun n : Nat => (n : Int))) (le : ∀ y, y ∈ l.map (fun n : Nat => (n : Int)) → y ≤ m) : m = (mxL l : Nat) := by
  obtain ⟨a, ha, rfl⟩ := List.mem_map.mp h
  have : mxL l = a := mxL_eq ha fun b hb => by
    have := le (b : Int) (List.mem_map.mpr ⟨b, hb, rfl⟩)
    omega
  rw [this]
def spBehind (K : PySem.W.Frag) : Sp := fun vs H Q _ => ∃ (x : V) (N : Nat) (sg : List W) (rs : List Rd) (F : Hp), vs = [x, .int N] ∧ Same F H ∧ NetF (He.ga K "Net") F sg rs x ∧
  ∀ D q F' H', Ex [] F H F' H' → H D = none → F' D = some (.tup [.ref q, .int (rkCnt rs sg.length N (rk0 sg) : Nat)]) → H q = none → F' q = some (.lst (intsV (tab sg.length (rkRun rs sg.length N (rk0 sg))))) → Q (.ref D) H'
theorem tab0 (sg : List W) : sg.map (nth sg) = tab sg.length (rk0 sg) := by
  apply List.ext_getElem?
  intro i
  rw [List.getElem?_map]
  by_cases h : i < sg.length
  · rw [tab_get h]
    simp [rk0, h]
  · rw [List.getElem?_eq_none (by omega), List.getElem?_eq_none (by rw [tab_len]; omega)]
    rfl
theorem ok_ranks_behind (T : Top K mg) : Ok P w K mg base "ranks_behind" 17 ["net", "rounds"] (spBehind K) := by
  have G_first_ranks : Ok P w K mg base "first_ranks" 16 ["net"] (spFirst K) := ok_first_ranks T
  have G_next_ranks : Ok P w K mg base "next_ranks" 16 ["net", "ranked"] (spNext K) := ok_next_ranks T
  refine ok_of T.g_ranks_behind T.F_ranks_behind sc_ranks_behind (fun _ _ _ _ _ _ us hl => match us, hl with | [_, _], _ => rfl) (fun vs H Q E h => ?_) (fun cdv A outer s H vs Q E hr h => ?_)
  · first | (obtain ⟨rfl, _⟩ := h; rfl) | (obtain ⟨_, rfl, _⟩ := h; rfl) | (obtain ⟨_, _, rfl, _⟩ := h; rfl) | (obtain ⟨_, _, _, rfl, _⟩ := h; rfl) | (obtain ⟨_, _, _, _, rfl, _⟩ := h; rfl) | (obtain ⟨_, _, _, _, _, rfl, _⟩ := h; rfl) | (obtain ⟨_, _, _, _, _, _, rfl, _⟩ := h; rfl) | (obtain ⟨_, _, _, _, _, _, _, rfl, _⟩ := h; rfl) | (obtain ⟨_, _, _, _, _, _, _, _, rfl, _⟩ := h; rfl) | (obtain ⟨_, _, _, _, _, _, _, _, _, rfl, _⟩ := h; rfl) | (obtain ⟨_, _, _, _, _, _, _, _, _, _, rfl, _⟩ := h; rfl) | (obtain ⟨_, _, _, _, _, _, _, _, _, _, _, rfl, _⟩ := h; rfl)
  obtain ⟨x, N, sg, rs, F, rfl, hF, n, kk⟩ := h
  refine ⟨_, (pss_cons (ps_par (i := 2) (j := 3) rfl sc_ranks_behind.nd rfl rfl (by decide) rfl rfl (pa_cons (pe_ok G_first_ranks hr (pa_cons (pv 0) pa_nil)) (pa_cons pe_int pa_nil)) rfl)
    (pss_cons (ps_while PassesOwn.never (pt_cmpR op_lt (pv 3) (pv 1) (nomark _)) (pss_cons (ps_set (i := 4) sc_ranks_behind.nd rfl (Or.inl rfl) (pe_ok G_next_ranks hr (pa_cons (pv 0) (pa_cons (pv 2) pa_nil))))
    (pss_cons (ps_if (pt_cmpR op_eq (pe_callB (cr_max rfl) rfl T.b_max (by decide +kernel) (pa_cons (pv 4) pa_nil)) (pe_callB (cr_max rfl) rfl T.b_max (by decide +kernel) (pa_cons (pv 2) pa_nil)) (nomark _)) (pss_one (ps_ret (pe_tup (pa_cons (pv 2) (pa_cons (pv 3) pa_nil))))) pss_nil)
    (pss_one (ps_par (i := 2) (j := 3) rfl sc_ranks_behind.nd rfl rfl (by decide) rfl rfl (pa_cons (pv 4) (pa_cons (pe_op op_add (pv 3) pe_int) pa_nil)) rfl)))))
    (pss_one (ps_ret (pe_tup (pa_cons (pv 2) (pa_cons (pv 3) pa_nil))))))), ?_⟩
  have n0 := n.pos
  refine r_seq (r_par (r_cons (r_call (r_cons ⟨_, rfl, ?_⟩))))
  refine ⟨x, sg, rs, F, rfl, hF, n, fun q F1 H1 e1 hq0 fq hq => ⟨_, _, rfl, ?_⟩⟩
  have E1 := e1.frz hq0 hq fq
  have dq : (upd F1 q (.lst (intsV (sg.map (nth sg))))) q = some (.lst (intsV (sg.map (nth sg)))) := upd_same
  rw [tab0] at E1 dq
  generalize upd F1 q (.lst (intsV (tab sg.length (rk0 sg)))) = F2 at E1 dq
  dsimp only
  refine r_seq (while_by (fun σ H2 => ∃ (q : Addr) (m : Nat) (f : Nat → Nat) (F2 : Hp) (u : Option V), σ = [some x, some (.int N), some (.ref q), some (.int m), u] ∧ Ex [] F H F2 H2 ∧ H q = none ∧ F2 q = some (.lst (intsV (tab sg.length f))) ∧ m ≤ N ∧ rkRun rs sg.length (N - m) f = rkRun rs sg.length N (rk0 sg) ∧ m + rkCnt rs sg.length (N - m) f = rkCnt rs sg.length N (rk0 sg))
    (fun σ _ => match σ with | [_, some (.int N), _, some (.int m), _] => (N - m).toNat | _ => 0) ⟨q, 0, rk0 sg, F2, none, rfl, E1, hq0, dq, Nat.zero_le _, rfl, Nat.zero_add _⟩ ?_ ?_)
  · rintro σ H2 ⟨q, m, f, F2, u, rfl, E2, hq0, dq, hm, hr1, hr2⟩
    refine ⟨_, rfl, _, rfl, _, _, rfl, rfl, _, rfl, ?_⟩
    refine ite2 (fun hc => ?_) (fun hc => ?_)
    · have hlt : m < N := by
        have : (m : Int) < N := by simpa using hc
        omega
      obtain ⟨j, hj⟩ : ∃ j, N - m = j + 1 := ⟨N - m - 1, by omega⟩
      have hj2 : N - (m + 1) = j := by omega
      rw [hj] at hr1 hr2
      refine r_seq (r_asg (r_call (r_cons ⟨_, rfl, r_cons ⟨_, rfl, ?_⟩⟩)))
      refine ⟨x, q, sg, rs, f, F2, rfl, E2.fh, n.up E2.ff, dq, fun q2 F3 H3 e3 hq2 fq2 hd2 => ?_⟩
      have hq20 : H q2 = none := by
        cases z : H q2 with
        | none => rfl
        | some o => exact absurd hq2 (E2.dm q2 (ne_none z))
      have e4 := e3.frz hq2 hd2 fq2
      have d4 : (upd F3 q2 (.lst (intsV (tab sg.length (rkStep rs sg.length f))))) q2 = some (.lst (intsV (tab sg.length (rkStep rs sg.length f)))) := upd_same
      generalize upd F3 q2 (.lst (intsV (tab sg.length (rkStep rs sg.length f)))) = F4 at e4 d4
      have E4 := E2.trans e4
      refine r_next ?_
      dsimp only
      have nz : ∀ g : Nat → Nat, 0 < ((tab sg.length g).map fun n : Nat => (n : Int)).length := fun g => by rw [List.length_map, tab_len]; exact n0
      refine r_seq (r_ifS (r_tst (r_op (r_cb (r_cons ⟨_, rfl, q2, (tab sg.length (rkStep rs sg.length f)).map fun n : Nat => (n : Int), rfl, SqL.of (by rw [← intsV_int]; exact e4.fh _ _ d4), nz _, fun M hM hle => r_cb (r_cons ⟨_, rfl, q, (tab sg.length f).map fun n : Nat => (n : Int), rfl, SqL.of (by rw [← intsV_int]; exact e4.fh _ _ (e4.ff _ _ dq)), nz _, fun M' hM' hle' => ?_⟩)⟩)))))
      rw [max_ints hM hle, max_ints hM' hle']
      refine ⟨rfl, _, rfl, ?_⟩
      refine ite2 (fun hc2 => ?_) (fun hc2 => ?_)
      · have hs : mxL (tab sg.length (rkStep rs sg.length f)) = mxL (tab sg.length f) := by
          have := of_decide_eq_true hc2
          have := V.int.inj this
          omega
        have r1 : rkRun rs sg.length (j + 1) f = f := by unfold rkRun; rw [if_pos hs]
        have r2 : rkCnt rs sg.length (j + 1) f = 0 := by unfold rkCnt; rw [if_pos hs]
        rw [r1] at hr1
        rw [r2] at hr2
        refine r_ret (r_tup ⟨_, rfl, _, rfl, by show 2 ≤ sizeLine; decide, fun D hD => ?_⟩)
        have e5 : Ex [] F4 H3 (upd F4 D (.tup [.ref q, .int (m : Nat)])) (upd H3 D (.tup [.ref q, .int (m : Nat)])) := Ex.newF e4.fh hD
        refine kk D q _ _ (E4.trans e5) ?_ ?_ hq0 ?_
        · cases z : H D with
          | none => rfl
          | some o => exact absurd hD (E4.dm D (ne_none z))
        · rw [upd_same, ← hr2, Nat.add_zero]
        · rw [← hr1]
          exact e5.ff _ _ (e4.ff _ _ dq)
      · have hs : ¬ mxL (tab sg.length (rkStep rs sg.length f)) = mxL (tab sg.length f) := fun z => hc2 (by rw [z]; simp)
        have r1 : rkRun rs sg.length (j + 1) f = rkRun rs sg.length j (rkStep rs sg.length f) := by conv => lhs; unfold rkRun; rw [if_neg hs]
        have r2 : rkCnt rs sg.length (j + 1) f = rkCnt rs sg.length j (rkStep rs sg.length f) + 1 := by conv => lhs; unfold rkCnt; rw [if_neg hs]
        rw [r1] at hr1
        rw [r2] at hr2
        refine r_next ?_
        dsimp only
        refine r_par ⟨_, rfl, _, rfl, _, _, rfl, rfl, _, _, rfl, ?_⟩
        refine ⟨⟨q2, m + 1, rkStep rs sg.length f, F4, _, rfl, E4, hq20, d4, hlt, by rw [hj2]; exact hr1, by rw [hj2]; omega⟩, ?_⟩
        show ((N : Int) - ((m : Int) + 1)).toNat < ((N : Int) - (m : Int)).toNat
        omega
    · have hge : m = N := by
        have : ¬ (m : Int) < N := by simpa using hc
        omega
      subst hge
      rw [Nat.sub_self] at hr1 hr2
      refine r_next ?_
      dsimp only
      refine r_ret (r_tup ⟨_, rfl, _, rfl, by show 2 ≤ sizeLine; decide, fun D hD => ?_⟩)
      have e5 : Ex [] F2 H2 (upd F2 D (.tup [.ref q, .int (m : Nat)])) (upd H2 D (.tup [.ref q, .int (m : Nat)])) := Ex.newF E2.fh hD
      refine kk D q _ _ (E2.trans e5) ?_ ?_ hq0 ?_
      · cases z : H D with
        | none => rfl
        | some o => exact absurd hD (E2.dm D (ne_none z))
      · rw [upd_same, ← hr2]
        rfl
      · rw [← hr1]
        exact e5.ff _ _ dq
  · rintro σ H2 Q Q' hq ⟨u, h1, u2, h2, i, j, e1, e2, k, e3, q⟩
    exact ⟨u, h1, u2, h2, i, j, e1, e2, k, e3, hq _ _ q⟩
def spRanks (K : PySem.W.Frag) : Sp := fun vs H Q _ => ∃ (x : V) (sg : List W) (rs : List Rd) (F : Hp), vs = [x] ∧ Same F H ∧ NetF (He.ga K "Net") F sg rs x ∧
  ∀ q F' H', Ex [] F H F' H' → H q = none → F' q = some (.lst (intsV (tab sg.length (rkOf sg rs)))) → Q (.ref q) H'
end
end T3

namespace T3
open PySem PySem.Spec PyProof.Rows L2 Ly
section
variable {P : Program} {w : World} {K : PySem.W.Frag} {mg : Str → Option Value} {base : Heap}
/-- a list of lists of numbers, frozen -/
def LL (F : Hp) (D : Addr) (ls : List (List Nat)) : Prop := ∃ vs, F D = some (.lst vs) ∧ vs.length = ls.length ∧ ∀ (i : Nat) l, ls[i]? = some l → ∃ q, vs[i]? = some (.ref q) ∧ F q = some (.lst (intsV l))
theorem LL.up {F F2 : Hp} (h : Same F F2) {D : Addr} {ls : List (List Nat)} (x : LL F D ls) : LL F2 D ls := by
  obtain ⟨vs, a, b, c⟩ := x
  refine ⟨vs, h _ _ a, b, fun i l hl => ?_⟩
  obtain ⟨q, e1, e2⟩ := c i l hl
  exact ⟨q, e1, h _ _ e2⟩
theorem forg_enumS {ta : TA} {a : Addr} {xs : List V} {g : TG} {tb : TS} {D : Ends} {σ : L2.St} {F H0 F1 H : Hp} (M : List Addr) (hl : ∀ R : List V → Hp → Prop, R [.ref a] H → ta σ H R) (hx : F a = some (.lst xs)) (e0 : Ex M F H0 F1 H) (I : Nat → L2.St → Hp → Hp → Prop) (h0 : I 0 σ F1 H)
    (hs : ∀ i x T σ1 F1 H1 (Nk : L2.St → Hp → Prop), i < xs.length → xs[i]? = some x → Ex M F H0 F1 H1 → I i σ1 F1 H1 → H1 T = none → (∀ σ2 F2 H2, Ex M F H0 F2 H2 → I (i + 1) σ2 F2 H2 → Nk σ2 H2) → g (.ref T) σ1 (upd H1 T (.tup [.int (i : Nat), x])) fun σ2 H2 => tb { D with nx := Nk, ct := Nk, bk := D.nx } σ2 H2)
    (hd : ∀ σ1 F1 H1, Ex M F H0 F1 H1 → I xs.length σ1 F1 H1 → D.nx σ1 H1) : tFor (iEnum K ta) g tb D σ H := by
  refine r_for (hl _ ⟨a, xs, rfl, SqL.of (e0.fh _ _ (e0.ff _ _ hx)), ?_⟩)
  refine for_it walk_enum (fun i σ1 H1 => ∃ F1, Ex M F H0 F1 H1 ∧ I i σ1 F1 H1) ⟨F1, e0, h0⟩ (fun i σ1 H1 _ ⟨F1, e, _⟩ => SqL.of (e.fh _ _ (e.ff _ _ hx)))
    (fun i y σ1 H1 H2 hi ⟨F1, e, p⟩ yy => ?_) fun σ1 H1 ⟨F1, e, p⟩ => hd σ1 F1 H1 e p
  obtain ⟨T, x, z, rfl, hT, rfl, e1, e2⟩ := yy
  cases e1
  exact hs i z T σ1 F1 H1 _ hi e2 e p hT fun σ2 F2 H3 e3 p2 => ⟨F2, e3, p2⟩
/-- lists by numbers, in a dict -/
def kvD (DL : List (Nat × Addr)) : List (Key × V) := DL.map fun e => ((Sum.inl (e.1 : Int) : Key), V.ref e.2)
theorem kvD_keys (DL : List (Nat × Addr)) : (kvD DL).map (·.1) = (DL.map (·.1)).map fun v : Nat => (Sum.inl (v : Int) : Key) := by simp [kvD]
theorem kvD_nodup {DL : List (Nat × Addr)} (h : (DL.map (·.1)).Nodup) : ((kvD DL).map (·.1)).Nodup := by
  rw [kvD_keys]
  rw [List.nodup_iff_pairwise_ne] at h ⊢
  rw [List.pairwise_map]
  refine h.imp fun {a b} hne e => hne ?_
  have := Sum.inl.inj e
  omega
theorem kvD_some {DL : List (Nat × Addr)} (h : (DL.map (·.1)).Nodup) {v : Nat} {q : Addr} (m : (v, q) ∈ DL) : valV (kvD DL) (.inl (v : Int)) = some (.ref q) :=
  valV_mem (kvD_nodup h) (List.mem_map.mpr ⟨_, m, rfl⟩)
theorem kvD_none {DL : List (Nat × Addr)} {v : Nat} (h : v ∉ DL.map (·.1)) : valV (kvD DL) (.inl (v : Int)) = none := by
  unfold valV
  rw [List.find?_eq_none.mpr fun e he => ?_]
  · rfl
  · obtain ⟨d, hd, rfl⟩ := List.mem_map.mp he
    have : d.1 ≠ v := fun z => h (List.mem_map.mpr ⟨d, hd, z⟩)
    simp only [decide_eq_true_eq]
    intro z
    have := Sum.inl.inj z
    omega
def spLotsOf : Sp := fun vs H Q _ => ∃ (ra : Addr) (l : List Nat) (F : Hp), vs = [.ref ra] ∧ Same F H ∧ F ra = some (.lst (intsV l)) ∧ l.length < 100000 ∧
  ∀ D F' H', Ex [] F H F' H' → LL F' D (lotsOf l) → H D = none → Q (.ref D) H'
theorem ok_lots_of (T : Top K mg) : Ok P w K mg base "lots_of" 1 ["ranked"] spLotsOf := by
  refine ok_of T.g_lots_of T.F_lots_of sc_lots_of (fun _ _ _ _ _ _ us hl => match us, hl with | [_], _ => rfl) (fun vs H Q E h => ?_) (fun cdv A outer s H vs Q E hr h => ?_)
  · first | (obtain ⟨rfl, _⟩ := h; rfl) | (obtain ⟨_, rfl, _⟩ := h; rfl) | (obtain ⟨_, _, rfl, _⟩ := h; rfl) | (obtain ⟨_, _, _, rfl, _⟩ := h; rfl) | (obtain ⟨_, _, _, _, rfl, _⟩ := h; rfl) | (obtain ⟨_, _, _, _, _, rfl, _⟩ := h; rfl) | (obtain ⟨_, _, _, _, _, _, rfl, _⟩ := h; rfl) | (obtain ⟨_, _, _, _, _, _, _, rfl, _⟩ := h; rfl) | (obtain ⟨_, _, _, _, _, _, _, _, rfl, _⟩ := h; rfl) | (obtain ⟨_, _, _, _, _, _, _, _, _, rfl, _⟩ := h; rfl) | (obtain ⟨_, _, _, _, _, _, _, _, _, _, rfl, _⟩ := h; rfl) | (obtain ⟨_, _, _, _, _, _, _, _, _, _, _, rfl, _⟩ := h; rfl)
  obtain ⟨ra, l, F, rfl, hF, hra, hll, kk⟩ := h
  refine ⟨_, (pss_cons (ps_set (i := 1) sc_lots_of.nd rfl (Or.inr rfl) pe_dnewK)
    (pss_cons (ps_for PassesOwn.never rfl (pi_enum rfl T.b_enumerate (pa_cons (pv 0) pa_nil)) (pg_tup rfl (pgs_cons (pg_name (i := 2) sc_lots_of.nd rfl (Or.inl rfl)) (pgs_cons (pg_name (i := 3) sc_lots_of.nd rfl (Or.inl rfl)) pgs_nil))) (pss_one (ps_expr (pe_bm PySem.F.plainAttrs_list PySem.F.slot_list_append PySem.F.type_list_append mt_append (pe_dsetd (pv 1) (pv 3) (pe_lst pa_nil) ⟨rfl, rfl, rfl, rfl⟩) (pa_cons (pv 2) pa_nil)))))
    (pss_one (ps_ret (pe_callB (cr_sortedLL (hu64 hr)) rfl T.b_sorted (by decide +kernel) (pa_cons (pe_lock (pe_lc (own := [("rank", 3)]) (g := (gName 3)) (tt := tYes) (te := (tDGet (tVar 1) (tVar 3))) rfl sc_lots_of.nd (pi_keys (pv 1)) (blkOk_by (own := [("rank", 3)]) (N := N_lots_of) (sc := defScope s_lots_of) (by decide +kernel)) (fun _ _ _ _ _ => (pg_name (i := 3) sc_lots_of.nd rfl (Or.inl rfl))) (fun _ _ _ _ _ => pts_nil) (fun _ _ _ _ _ => (pe_dget (hu_of hr) (pv 1) (pv 3) (fun _ _ => rfl))))) pa_nil)))))), ?_⟩
  have z1 := sizeLine_eq
  refine r_seq (r_asg fun D hD => ?_)
  have fD : F D = none := Same.free hF hD
  have e0 : Ex [] F H F (upd H D (.dK [])) := Ex.new hF hD
  have d0 : (upd H D (.dK [])) D = some (.dK []) := upd_same
  refine r_next ?_
  dsimp only
  show tSeq _ _ _ _ (upd H D (.dK []))
  generalize upd H D (.dK []) = H1 at e0 d0
  refine r_seq (forg_enumS [] (fun R h => ⟨_, rfl, h⟩) hra e0 (fun i σ1 F1 H1 => (∃ u v, σ1 = [some (.ref ra), some (.ref D), u, v]) ∧ F1 D = none ∧ ∃ DL : List (Nat × Addr), H1 D = some (.dK (kvD DL)) ∧ DL.map (·.1) = eOnce (l.take i) ∧ (DL.map (·.2)).Nodup ∧ ∀ e ∈ DL, F1 e.2 = none ∧ H e.2 = none ∧ H1 e.2 = some (.lst (intsV (places (l.take i) e.1))))
    ⟨⟨_, _, rfl⟩, fD, [], d0, by simp [eOnce], by simp, by simp⟩ ?_ ?_)
  · rintro i x T1 σ1 F2 H2 Nk hi hx e ⟨⟨u, v, rfl⟩, f2, DL, d2, k2, nd2, a2⟩ hT nk
    rw [intsV_len] at hi
    rw [intsV_get, List.getElem?_eq_getElem hi] at hx
    obtain rfl : V.int (l[i] : Nat) = x := Option.some.inj hx
    have hli : l[i]? = some l[i] := List.getElem?_eq_getElem hi
    have eT : Ex [] F2 H2 F2 (upd H2 T1 (.tup [.int (i : Nat), .int (l[i] : Nat)])) := Ex.new e.fh hT
    have ET := e.trans eT
    have dT : (upd H2 T1 (.tup [.int (i : Nat), .int (l[i] : Nat)])) T1 = some (.tup [.int (i : Nat), .int (l[i] : Nat)]) := upd_same
    have dD := eT.at d2
    have aT : ∀ e ∈ DL, (upd H2 T1 (.tup [.int (i : Nat), .int (l[i] : Nat)])) e.2 = some (.lst (intsV (places (l.take i) e.1))) := fun e he => eT.at (a2 e he).2.2
    generalize upd H2 T1 (.tup [.int (i : Nat), .int (l[i] : Nat)]) = H3 at eT ET dT dD aT
    have lDL : DL.length ≤ i := by
      have h1 := congrArg List.length k2
      have h2 := eOnce_le (l.take i)
      rw [List.length_map] at h1
      rw [List.length_take] at h2
      omega
    refine ⟨T1, _, rfl, SqT.of dT, rfl, _, _, rfl, _, _, rfl, rfl, ?_⟩
    refine r_drop ⟨_, rfl, D, rfl, .inl ⟨_, .inl dD⟩, _, rfl, Nat.zero_le _, fun q hq => ?_⟩
    have e4 : Ex [] F2 H3 F2 (upd H3 q (.lst [])) := Ex.new ET.fh hq
    have E4 := ET.trans e4
    have hq0 : H q = none := by
      cases z : H q with
      | none => rfl
      | some o => exact absurd hq (ET.dm q (ne_none z))
    have d4 := e4.at dD
    have a4 : ∀ e ∈ DL, (upd H3 q (.lst [])) e.2 = some (.lst (intsV (places (l.take i) e.1))) := fun e he => e4.at (aT e he)
    have nq : ∀ e ∈ DL, e.2 ≠ q := fun e he => ne_of_none (aT e he) hq
    have dq : (upd H3 q (.lst [])) q = some (.lst []) := upd_same
    have fq : F2 q = none := Same.free ET.fh hq
    generalize upd H3 q (.lst []) = H4 at e4 E4 d4 a4 dq
    have keys_nd : (DL.map (·.1)).Nodup := by rw [k2]; exact eOnce_nodup _
    refine ⟨kvD DL, .inl (l[i] : Int), d4, rfl, by simp [kvD]; omega, fun v' hv' => ?_, fun hv' => ?_⟩
    · -- it is there
      have hm : l[i] ∈ DL.map (·.1) := by
        rcases Classical.em (l[i] ∈ DL.map (·.1)) with z | z
        · exact z
        · rw [kvD_none z] at hv'
          cases hv'
      obtain ⟨ee, hee, ek⟩ := List.mem_map.mp hm
      obtain ⟨vk, qa⟩ := ee
      dsimp only at ek
      subst ek
      rw [kvD_some keys_nd hee] at hv'
      obtain rfl := Option.some.inj hv'
      have ha := a2 _ hee
      have hqa := a4 _ hee
      have lp := places_le (l.take i) l[i]
      rw [List.length_take] at lp
      have lp3 : (intsV (places (l.take i) l[i])).length ≤ i := by rw [intsV_len]; omega
      refine ⟨.inl ⟨rfl, _, SqL.of hqa⟩, _, rfl, qa, _, _, rfl, rfl, hqa, Nat.lt_of_le_of_lt lp3 (by omega), ?_⟩
      have e5 : Ex [] F H F2 (upd H4 qa (.lst (intsV (places (l.take i) l[i]) ++ [.int (i : Nat)]))) := E4.wr ha.2.1 ha.1
      have nDq : D ≠ qa := fun z => by rw [z, hqa] at d4; cases d4
      refine nk _ F2 _ e5 ⟨⟨_, _, rfl⟩, f2, DL, by rw [upd_ne nDq]; exact d4, ?_, nd2, fun e' he' => ⟨(a2 e' he').1, (a2 e' he').2.1, ?_⟩⟩
      · rw [eOnce_take hli, if_pos (by rw [← k2]; exact hm), k2]
      · rw [places_take hli]
        by_cases z : e'.2 = qa
        · have : e' = (l[i], qa) := by
            obtain ⟨j1, hj1⟩ := List.getElem?_of_mem he'
            obtain ⟨j2, hj2⟩ := List.getElem?_of_mem hee
            have := nodup_at nd2 (i := j1) (j := j2) (x := qa) (by rw [List.getElem?_map, hj1]; simp [z]) (by rw [List.getElem?_map, hj2]; rfl)
            subst this
            rw [hj1] at hj2
            exact Option.some.inj hj2
          rw [this, if_pos rfl, upd_same]
          simp [intsV]
        · have : l[i] ≠ e'.1 := fun y => z (by
            obtain ⟨j1, hj1⟩ := List.getElem?_of_mem he'
            obtain ⟨j2, hj2⟩ := List.getElem?_of_mem hee
            have := nodup_at keys_nd (i := j1) (j := j2) (x := l[i]) (by rw [List.getElem?_map, hj1]; simp [← y]) (by rw [List.getElem?_map, hj2]; rfl)
            subst this
            rw [hj1] at hj2
            have := Option.some.inj hj2
            rw [this])
          rw [if_neg this, upd_ne z]
          exact a4 e' he'
    · -- it is new
      have hm : l[i] ∉ DL.map (·.1) := fun z => by
        obtain ⟨ee, hee, ek⟩ := List.mem_map.mp z
        obtain ⟨vk, qa⟩ := ee
        dsimp only at ek
        subst ek
        rw [kvD_some keys_nd hee] at hv'
        cases hv'
      have hm2 : l[i] ∉ l.take i := fun z => hm (by rw [k2]; exact (eOnce_mem _ _).mpr z)
      rw [putK_new _ hv']
      have ekv : kvD DL ++ [((Sum.inl (l[i] : Int) : Key), V.ref q)] = kvD (DL ++ [(l[i], q)]) := by simp [kvD]
      rw [ekv]
      have nDq : D ≠ q := fun z => by rw [z, dq] at d4; cases d4
      have e5 : Ex [] F H F2 (upd H4 D (.dK (kvD (DL ++ [(l[i], q)])))) := E4.wr hD f2
      have dq5 : (upd H4 D (.dK (kvD (DL ++ [(l[i], q)])))) q = some (.lst []) := by rw [upd_ne nDq.symm]; exact dq
      have nDe : ∀ e ∈ DL, e.2 ≠ D := fun e he z => by
        have := a4 e he
        rw [z, d4] at this
        cases this
      refine ⟨.inl ⟨rfl, _, SqL.of dq5⟩, _, rfl, q, _, _, rfl, rfl, dq5, by show 0 < sizeLine; omega, ?_⟩
      have e6 := e5.wr (o := .lst ([] ++ [.int (i : Nat)])) hq0 fq
      refine nk _ F2 _ e6 ⟨⟨_, _, rfl⟩, f2, DL ++ [(l[i], q)], by rw [upd_ne nDq, upd_same], ?_, ?_, fun e' he' => ?_⟩
      · rw [eOnce_take hli, if_neg (by rw [← k2]; exact hm), List.map_append, k2]
        rfl
      · rw [List.map_append, List.nodup_append]
        refine ⟨nd2, by simp, fun b hb c hc => ?_⟩
        obtain ⟨e', he', rfl⟩ := List.mem_map.mp hb
        have : c = q := by simpa using hc
        rw [this]
        exact nq e' he'
      · rw [places_take hli]
        rcases List.mem_append.mp he' with z | z
        · have h1 : l[i] ≠ e'.1 := fun y => hm (by rw [y]; exact List.mem_map.mpr ⟨e', z, rfl⟩)
          rw [if_neg h1, upd_ne (nq e' z), upd_ne (nDe e' z)]
          exact ⟨(a2 e' z).1, (a2 e' z).2.1, a4 e' z⟩
        · rw [List.mem_singleton.mp z]
          refine ⟨fq, hq0, ?_⟩
          rw [if_pos rfl, upd_same, places_none hm2]
          rfl
  · rintro σ1 F2 H2 e ⟨⟨u, v, rfl⟩, f2, DL, d2, k2, nd2, a2⟩
    rw [intsV_len, List.take_of_length_le (Nat.le_refl _)] at k2 a2
    have keys_nd : (DL.map (·.1)).Nodup := by rw [k2]; exact eOnce_nodup _
    have lDL : DL.length ≤ l.length := by
      have h1 := congrArg List.length k2
      have h2 := eOnce_le l
      rw [List.length_map] at h1
      omega
    have vals : (kvD DL).map (·.2) = DL.map fun e => V.ref e.2 := by simp [kvD]
    have at_ : ∀ (i : Nat) m, (lotsOf l)[i]? = some m → ∃ e, DL[i]? = some e ∧ H2 e.2 = some (.lst (intsV m)) := fun i m hm => by
      unfold lotsOf at hm
      rw [← k2, List.getElem?_map, List.getElem?_map] at hm
      cases z : DL[i]? with
      | none => rw [z] at hm; cases hm
      | some e =>
        rw [z] at hm
        obtain rfl := Option.some.inj hm
        exact ⟨e, rfl, (a2 e (List.mem_of_getElem? z)).2.2⟩
    have lL : (lotsOf l).length = DL.length := by
      unfold lotsOf
      rw [← k2, List.length_map, List.length_map]
    refine r_next ?_
    dsimp only
    refine r_ret (r_cb (r_cons (keys_of_dict (d := D) (kvs := kvD DL) rfl (by decide) (by show 3 < 4; decide) d2 (kvD_nodup keys_nd) (by simp [kvD]; omega) fun D2 hD2 => ?_)))
    rw [vals]
    have e3 : Ex [] F2 H2 F2 (upd H2 D2 (.lst (DL.map fun e => V.ref e.2))) := Ex.new e.fh hD2
    have d3 : (upd H2 D2 (.lst (DL.map fun e => V.ref e.2))) D2 = some (.lst (DL.map fun e => V.ref e.2)) := upd_same
    generalize upd H2 D2 (.lst (DL.map fun e => V.ref e.2)) = H3 at e3 d3
    refine ⟨D2, DL.map fun e => V.ref e.2, (lotsOf l).map fun m => m.map fun n : Nat => (n : Int), rfl, SqL.of d3, by rw [List.length_map, List.length_map, lL], fun i m x hm hx => ?_, lotsOf_rise l, fun p hp => ?_⟩
    · rw [List.getElem?_map] at hm hx
      cases z : (lotsOf l)[i]? with
      | none => rw [z] at hm; cases hm
      | some m' =>
        rw [z] at hm
        obtain rfl := Option.some.inj hm
        obtain ⟨e', he', hl'⟩ := at_ i m' z
        rw [he'] at hx
        obtain rfl := Option.some.inj hx
        exact ⟨e'.2, rfl, SqL.of (by rw [← intsV_int]; exact e3.at hl')⟩
    · have e4 : Ex [] F2 H3 F2 (upd H3 p (.lst (DL.map fun e => V.ref e.2))) := Ex.new e3.fh hp
      have E4 := e.trans (e3.trans e4)
      have hp0 : H p = none := by
        cases z : H p with
        | none => rfl
        | some o => exact absurd hp ((e.trans e3).dm p (ne_none z))
      refine kk p _ _ (Ex.all hF E4) ⟨DL.map fun e => V.ref e.2, by rw [frzAll_new hp0, upd_same], by rw [List.length_map, lL], fun i m hm => ?_⟩ hp0
      obtain ⟨e', he', hl'⟩ := at_ i m hm
      refine ⟨e'.2, by rw [List.getElem?_map, he']; rfl, ?_⟩
      rw [frzAll_new (a2 e' (List.mem_of_getElem? he')).2.1]
      exact e4.at (e3.at hl')
def spKinds (K : PySem.W.Frag) : Sp := fun vs H Q _ => ∃ (x : V) (sg : List W) (rs : List Rd) (F : Hp), vs = [x] ∧ Same F H ∧ NetF (He.ga K "Net") F sg rs x ∧
  ∀ D F' H', Ex [] F H F' H' → LL F' D (lotsOf (tab sg.length (rkOf sg rs))) → H D = none → Q (.ref D) H'
theorem ok_kinds_for_ever (T : Top K mg) : Ok P w K mg base "kinds_for_ever" 18 ["net"] (spKinds K) := by
  have G_ranks_behind : Ok P w K mg base "ranks_behind" 17 ["net", "rounds"] (spBehind K) := ok_ranks_behind T
  have M_len : OkM P w K mg base (He.ma K (He.ga K "Net") "__len__") 1 ["self"] (spNetLen K) := ok_net_len T
  have G_lots_of : Ok P w K mg base "lots_of" 1 ["ranked"] spLotsOf := ok_lots_of T
  refine ok_of T.g_kinds_for_ever T.F_kinds_for_ever sc_kinds_for_ever (fun _ _ _ _ _ _ us hl => match us, hl with | [_], _ => rfl) (fun vs H Q E h => ?_) (fun cdv A outer s H vs Q E hr h => ?_)
  · first | (obtain ⟨rfl, _⟩ := h; rfl) | (obtain ⟨_, rfl, _⟩ := h; rfl) | (obtain ⟨_, _, rfl, _⟩ := h; rfl) | (obtain ⟨_, _, _, rfl, _⟩ := h; rfl) | (obtain ⟨_, _, _, _, rfl, _⟩ := h; rfl) | (obtain ⟨_, _, _, _, _, rfl, _⟩ := h; rfl) | (obtain ⟨_, _, _, _, _, _, rfl, _⟩ := h; rfl) | (obtain ⟨_, _, _, _, _, _, _, rfl, _⟩ := h; rfl) | (obtain ⟨_, _, _, _, _, _, _, _, rfl, _⟩ := h; rfl) | (obtain ⟨_, _, _, _, _, _, _, _, _, rfl, _⟩ := h; rfl) | (obtain ⟨_, _, _, _, _, _, _, _, _, _, rfl, _⟩ := h; rfl) | (obtain ⟨_, _, _, _, _, _, _, _, _, _, _, rfl, _⟩ := h; rfl)
  obtain ⟨x, sg, rs, F, rfl, hF, n, kk⟩ := h
  refine ⟨_, (pss_one (ps_ret (pe_ok G_lots_of hr (pa_cons (pe_ix ix_tup (pe_ok G_ranks_behind hr (pa_cons (pv 0) (pa_cons (pe_callB (call_lenO T.me_Net_len M_len hr) rfl T.b_len (by decide +kernel) (pa_cons (pv 0) pa_nil)) pa_nil))) pe_int (fun _ _ => rfl)) pa_nil)))), ?_⟩
  obtain ⟨a, dx, l1, l2, l3, l4, svs, rvs, rfl, h1, _⟩ := id n.ex
  have m1 := n.sml
  have z1 := sizeLine_eq
  refine r_ret (r_call (r_cons (r_op (r_call (r_cons ⟨_, rfl, r_cons (r_cb (r_cons ⟨_, rfl, a, dx, _, rfl, hF _ _ h1, a, sg, rs, F, rfl, hF, n, sg.length, rfl, by omega, ?_⟩))⟩)))))
  refine ⟨.ref a, sg.length, sg, rs, F, rfl, hF, n, fun D q F' H' e hD dD hq0 dq => ?_⟩
  refine ⟨D, _, 0, .ref q, rfl, rfl, SqT.of (e.fh _ _ dD), rfl, q, tab sg.length (rkOf sg rs), F', rfl, e.fh, dq, by rw [tab_len]; omega, fun D2 F2 H2 e2 ll hD2 => ?_⟩
  refine kk D2 F2 H2 (e.trans e2) ll ?_
  cases z : H D2 with
  | none => rfl
  | some o => exact absurd hD2 (e.dm D2 (ne_none z))
end
end T3

namespace T3
open PySem PySem.Spec PyProof.Rows L2 Ly
section
variable {P : Program} {w : World} {K : PySem.W.Frag} {mg : Str → Option Value} {base : Heap}
theorem shaped_list7 {ks : List W} (h1 : ∀ k ∈ ks, k.data.canLay0 = true) (h2 : ∀ k ∈ ks, k.depth ≤ 7) : SeqAt.shaped (.list (NestedKey.datas ks)) = true := by
  have d1 := dall_le h2
  unfold SeqAt.shaped
  simp only [PyData.canLay0, PyData.depth, lay_datas h1, depths_datas, Bool.true_and, decide_eq_true_eq]
  omega
theorem kWok.shaped {k : W} (h : kWok k) : SeqAt.shaped k.data = true := by
  have := h.2.2
  unfold SeqAt.shaped
  rw [h.2.1, depth_data]
  simp
  omega
theorem datas_get : ∀ (ks : List W) (i : Nat), (NestedKey.datas ks)[i]? = ks[i]?.map NestedKey.data
  | [], i => by simp [NestedKey.datas]
  | k :: ks, 0 => by simp [NestedKey.datas]
  | k :: ks, i + 1 => by simpa [NestedKey.datas] using datas_get ks i
theorem ok_law_key (T : Top K mg) : ∀ n : Nat, Ok P w K mg base "_law_n_key" (n + 3) ["_law_word"] (spOrderKey n)
  | 0 => ok_never T.g__law_n_key T.F_law_n_key (fun _ _ _ _ _ _ us hl => match us, hl with | [_], _ => rfl) fun vs H Q E h => by
    obtain ⟨x, d, F, _, _, _, _, h, _⟩ := h
    omega
  | n + 1 => by
    have G_law_key : Ok P w K mg base "_law_n_key" (n + 3) ["_law_word"] (spOrderKey n) := ok_law_key T n
    refine ok_of T.g__law_n_key T.F_law_n_key sc_law_n_key (fun _ _ _ _ _ _ us hl => match us, hl with | [_], _ => rfl) (fun vs H Q E h => ?_) (fun cdv A outer s H vs Q E hr h => ?_)
    · first | (obtain ⟨rfl, _⟩ := h; rfl) | (obtain ⟨_, rfl, _⟩ := h; rfl) | (obtain ⟨_, _, rfl, _⟩ := h; rfl) | (obtain ⟨_, _, _, rfl, _⟩ := h; rfl) | (obtain ⟨_, _, _, _, rfl, _⟩ := h; rfl) | (obtain ⟨_, _, _, _, _, rfl, _⟩ := h; rfl) | (obtain ⟨_, _, _, _, _, _, rfl, _⟩ := h; rfl) | (obtain ⟨_, _, _, _, _, _, _, rfl, _⟩ := h; rfl) | (obtain ⟨_, _, _, _, _, _, _, _, rfl, _⟩ := h; rfl) | (obtain ⟨_, _, _, _, _, _, _, _, _, rfl, _⟩ := h; rfl) | (obtain ⟨_, _, _, _, _, _, _, _, _, _, rfl, _⟩ := h; rfl) | (obtain ⟨_, _, _, _, _, _, _, _, _, _, _, rfl, _⟩ := h; rfl)
    obtain ⟨x, k, F, rfl, hF, hk, hf, hn, kk⟩ := h
    refine ⟨_, (pss_cons (ps_if (pt_val (pe_callB call_isi rfl T.b_isinstance (by decide +kernel) (pa_cons (pv 0) (pa_cons (pe_bltn rfl T.b_tuple (by decide +kernel) (show RelV (.ty "tuple") _ from rfl)) pa_nil)))) (pss_one (ps_ret (pe_tup (pa_cons pe_int (pa_cons (pe_callTy call_tuple_of rfl T.b_tuple (by decide +kernel) (pa_cons (pe_lc (own := [("_law_part", 1)]) (g := (gName 1)) (tt := tYes) (te := (tCall (spOrderKey n) [] E0 (tCons (tVar 1) tNil))) rfl sc_law_n_key.nd (pi_tup (pv 0)) (blkOk_by (own := [("_law_part", 1)]) (N := N_law_n_key) (sc := defScope s_law_n_key) (by decide +kernel)) (fun _ _ _ _ _ => (pg_name (i := 1) sc_law_n_key.nd rfl (Or.inl rfl))) (fun _ _ _ _ _ => pts_nil) (fun _ _ _ _ _ => (pe_ok G_law_key hr (pa_cons (pv 1) pa_nil)))) pa_nil)) pa_nil))))) pss_nil)
    (pss_one (ps_ret (pe_ifExp (pt_val (pe_callB call_isi rfl T.b_isinstance (by decide +kernel) (pa_cons (pv 0) (pa_cons (pe_bltn rfl T.b_str (by decide +kernel) (show RelV (.ty "str") _ from rfl)) pa_nil)))) (pe_tup (pa_cons pe_int (pa_cons (pv 0) pa_nil))) (pe_tup (pa_cons pe_int (pa_cons (pv 0) pa_nil))))))), ?_⟩
    refine r_seq (r_ifS (r_b ⟨_, rfl, x, .ty "tuple", _, _, _, rfl, .ty _, dd_tyx (wk_dd hk) hF, kit_tup _, _, rfl, ?_⟩))
    have two : ∀ (i : Int) (v : V) (k' : W) (F1 H1 : Hp), Ex [] F H F1 H1 → Wk F1 k' v → ∀ p, H1 p = none → okey k = .tup [.num i, k'] → Q (.ref p) (upd H1 p (.tup [.int i, v])) := fun i v k' F1 H1 e wv p hp ek =>
      kk _ _ _ (e.trans (Ex.newF e.fh hp)) (by rw [ek]; exact wk_new (Same.free e.fh hp) (Wks.cons (wk_num.mpr rfl) (Wks.one wv)))
    cases k with
    | tup ks =>
      obtain ⟨a, vs, rfl, h2, h3, h4⟩ := wk_tup.mp hk
      have l1 := h3.len
      refine iteT (r_ret (r_tup (r_cons (r_c (r_cons (r_cb (r_cons (lcg_tup [] (fun R h => ⟨_, rfl, h⟩) h2 hF (by simp) (by rw [l1]; exact Nat.lt_trans h4 (by decide)) (fun k acc F => Wks F ((okeys ks).take k) acc) (fun _ _ _ => True) (fun _ _ _ _ h q => q.up h) (fun _ _ _ _ _ _ _ _ _ => trivial) (by simp; exact Wks.nil) trivial ?_ ?_))))))))
      · intro i y acc F' H' Kk Nk hi hy e p _ _ k1 _
        refine ⟨rfl, _, rfl, ?_⟩
        obtain ⟨k', hk', wk'⟩ := h3.get hy
        refine ⟨y, k', F', rfl, e.fh, wk'.up e.ff, fulls_mem (by simpa [full] using hf) (List.mem_of_getElem? hk'), ?_, fun v F4 H4 e4 wv => k1 v F4 H4 e4 ?_ trivial⟩
        · have := wdepth_mem (List.mem_of_getElem? hk')
          simp [NestedKey.depth] at hn; omega
        · rw [okeys_at hk']
          exact (p.up e4.ff).app (Wks.one wv)
      · intro D acc F' H' e hD fD hd' p _ _
        rw [List.take_of_length_le (by rw [okeys_len, l1]; exact Nat.le_refl _)] at p
        refine ⟨D, acc, rfl, .inl ⟨SqL.of hd', fun q hq => ?_⟩⟩
        have e2 : Ex [] F H (upd F' q (.tup acc)) (upd H' q (.tup acc)) := e.trans (Ex.newF e.fh hq)
        refine ⟨by show 2 ≤ sizeLine; decide, fun z hz => two 2 _ _ _ _ e2 (wk_new (Same.free e.fh hq) p (by rw [okeys_len]; exact h4)) z hz (by simp [okey])⟩
    | text s =>
      have := wk_text.mp hk
      subst this
      refine iteF (r_next ?_)
      dsimp only
      refine r_ret (r_if (r_b ?_))
      exact ⟨_, rfl, _, .ty "str", _, _, _, rfl, .ty _, dd_tyx (wk_dd hk) hF, kit_str _, _, rfl, iteT ⟨_, rfl, by show 2 ≤ sizeLine; decide, fun p hp => two 1 _ _ _ _ (Ex.refl hF) hk p hp (by simp [okey])⟩⟩
    | num i =>
      have := wk_num.mp hk
      subst this
      refine iteF (r_next ?_)
      dsimp only
      refine r_ret (r_if (r_b ?_))
      exact ⟨_, rfl, _, .ty "str", _, _, _, rfl, .ty _, dd_tyx (wk_dd hk) hF, kit_str _, _, rfl, iteF ⟨_, rfl, by show 2 ≤ sizeLine; decide, fun p hp => two 0 _ _ _ _ (Ex.refl hF) hk p hp (by simp [okey])⟩⟩
    | none => simp [full] at hf
def spLawOnce : Sp := fun vs H Q _ => ∃ (a : Addr) (xs : List V) (ks : List W) (F : Hp), vs = [.ref a] ∧ Same F H ∧ F a = some (.lst xs) ∧ Wks F ks xs ∧ (∀ k ∈ ks, k.data.canLay0 = true ∧ k.depth ≤ 7) ∧ ks.length < 1000000 ∧
  ∀ p ys H', Ex [] F H F H' → H p = none → H' p = some (.lst ys) → Wks F (eOnce ks) ys → Q (.ref p) H'
def spAscL : Sp := spAsc8
theorem ok_law_asc (T : Top K mg) : Ok P w K mg base "_law_n_ascending" 14 ["_law_words"] spAsc8 := by
  have G_law_key : Ok P w K mg base "_law_n_key" 11 ["_law_word"] (spOrderKey 8) := ok_law_key T 8
  refine ok_of T.g__law_n_ascending T.F_law_n_ascending sc_law_n_ascending (fun _ _ _ _ _ _ us hl => match us, hl with | [_], _ => rfl) (fun vs H Q E h => ?_) (fun cdv A outer s H vs Q E hr h => ?_)
  · first | (obtain ⟨rfl, _⟩ := h; rfl) | (obtain ⟨_, rfl, _⟩ := h; rfl) | (obtain ⟨_, _, rfl, _⟩ := h; rfl) | (obtain ⟨_, _, _, rfl, _⟩ := h; rfl) | (obtain ⟨_, _, _, _, rfl, _⟩ := h; rfl) | (obtain ⟨_, _, _, _, _, rfl, _⟩ := h; rfl) | (obtain ⟨_, _, _, _, _, _, rfl, _⟩ := h; rfl) | (obtain ⟨_, _, _, _, _, _, _, rfl, _⟩ := h; rfl) | (obtain ⟨_, _, _, _, _, _, _, _, rfl, _⟩ := h; rfl) | (obtain ⟨_, _, _, _, _, _, _, _, _, rfl, _⟩ := h; rfl) | (obtain ⟨_, _, _, _, _, _, _, _, _, _, rfl, _⟩ := h; rfl) | (obtain ⟨_, _, _, _, _, _, _, _, _, _, _, rfl, _⟩ := h; rfl)
  obtain ⟨a, xs, ws, F, rfl, hF, ha, hw, ho, kk⟩ := h
  refine ⟨_, (pss_one (ps_ret (pe_sortedK G_law_key (hr.mono (by omega)) (by decide) T.b_sorted (pa_cons (pv 0) pa_nil)))), ?_⟩
  refine ⟨_, rfl, a, xs, ws, F, rfl, rfl, SqL.of ha, hF, hw, fulls_of fun k hk => (ho k hk).1, ?_, kk⟩
  have := dall_le (n := 7) fun k hk => (ho k hk).2
  omega
def spLawNumbers : Sp := fun vs H Q _ => ∃ (a : Addr) (xs : List V) (ks : List W) (F : Hp), vs = [.ref a] ∧ Same F H ∧ F a = some (.lst xs) ∧ Wks F ks xs ∧ (∀ k ∈ ks, kWok k) ∧ ks.length < 1000000 ∧
  ∀ D F' H', Ex [] F H F' H' → H D = none → F' D = none → H' D = some (.lst (intsV (ks.map (nth ks)))) → Q (.ref D) H'
end
end T3

namespace T3
open PySem PySem.Spec PyProof.Rows L2 Ly
section
variable {P : Program} {w : World} {K : PySem.W.Frag} {mg : Str → Option Value} {base : Heap}
/-! ### what is found is what is due -/
mutual
def lsty : PyData → Bool
  | .list ds => lstys ds
  | .int _ => true
  | .bool _ => true
  | _ => false
def lstys : List PyData → Bool
  | [] => true
  | d :: ds => lsty d && lstys ds
end
theorem lstys_mem : ∀ {ds : List PyData} {d : PyData}, lstys ds = true → d ∈ ds → lsty d = true
  | e :: ds, d, h, m => by
    simp only [lstys, Bool.and_eq_true] at h
    rcases List.mem_cons.mp m with z | z
    · rw [z]; exact h.1
    · exact lstys_mem h.2 z
def spSameD (n : Nat) : Sp := fun vs H Q _ => ∃ (x y : V) (d : PyData) (F : Hp), vs = [x, y] ∧ Same F H ∧ Dd F d x ∧ Dd F d y ∧ lsty d = true ∧ d.depth < n ∧ ∀ H', Ex [] F H F H' → Q (.bl true) H'
theorem ok_same (T : Top K mg) : ∀ n : Nat, Ok P w K mg base "_law_same" (n + 1) ["_law_found", "_law_due"] (spSameD n)
  | 0 => ok_never T.g__law_same T.F_law_same (fun _ _ _ _ _ _ us hl => match us, hl with | [_, _], _ => rfl) fun vs H Q E h => by
    obtain ⟨x, y, d, F, _, _, _, _, _, h, _⟩ := h
    omega
  | n + 1 => by
    have G_same : Ok P w K mg base "_law_same" (n + 1) ["_law_found", "_law_due"] (spSameD n) := ok_same T n
    refine ok_of T.g__law_same T.F_law_same sc_law_same (fun _ _ _ _ _ _ us hl => match us, hl with | [_, _], _ => rfl) (fun vs H Q E h => ?_) (fun cdv A outer s H vs Q E hr h => ?_)
    · first | (obtain ⟨rfl, _⟩ := h; rfl) | (obtain ⟨_, rfl, _⟩ := h; rfl) | (obtain ⟨_, _, rfl, _⟩ := h; rfl) | (obtain ⟨_, _, _, rfl, _⟩ := h; rfl) | (obtain ⟨_, _, _, _, rfl, _⟩ := h; rfl) | (obtain ⟨_, _, _, _, _, rfl, _⟩ := h; rfl) | (obtain ⟨_, _, _, _, _, _, rfl, _⟩ := h; rfl) | (obtain ⟨_, _, _, _, _, _, _, rfl, _⟩ := h; rfl) | (obtain ⟨_, _, _, _, _, _, _, _, rfl, _⟩ := h; rfl) | (obtain ⟨_, _, _, _, _, _, _, _, _, rfl, _⟩ := h; rfl) | (obtain ⟨_, _, _, _, _, _, _, _, _, _, rfl, _⟩ := h; rfl) | (obtain ⟨_, _, _, _, _, _, _, _, _, _, _, rfl, _⟩ := h; rfl)
    obtain ⟨x, y, d, F, rfl, hF, hx, hy, hl, hd, kk⟩ := h
    refine ⟨_, (pss_cons (ps_if (pt_val (pe_callB call_isiT rfl T.b_isinstance (by decide +kernel) (pa_cons (pv 1) (pa_cons (pe_tup (pa_cons (pe_bltn rfl T.b_list (by decide +kernel) (show RelV (.ty "list") _ from rfl)) (pa_cons (pe_bltn rfl T.b_tuple (by decide +kernel) (show RelV (.ty "tuple") _ from rfl)) pa_nil))) pa_nil)))) (pss_cons (ps_if (PW.pt (pw_or (pt_cmpR op_ne (pe_callB call_isi rfl T.b_isinstance (by decide +kernel) (pa_cons (pv 0) (pa_cons (pe_bltn rfl T.b_list (by decide +kernel) (show RelV (.ty "list") _ from rfl)) pa_nil))) (pe_callB call_isi rfl T.b_isinstance (by decide +kernel) (pa_cons (pv 1) (pa_cons (pe_bltn rfl T.b_list (by decide +kernel) (show RelV (.ty "list") _ from rfl)) pa_nil))) (nomark _)) (pw_or1 (pt_cmpR op_ne (pe_callB call_isi rfl T.b_isinstance (by decide +kernel) (pa_cons (pv 0) (pa_cons (pe_bltn rfl T.b_tuple (by decide +kernel) (show RelV (.ty "tuple") _ from rfl)) pa_nil))) (pe_callB call_isi rfl T.b_isinstance (by decide +kernel) (pa_cons (pv 1) (pa_cons (pe_bltn rfl T.b_tuple (by decide +kernel) (show RelV (.ty "tuple") _ from rfl)) pa_nil))) (nomark _))))) (pss_one (ps_ret pe_bl)) pss_nil)
    (pss_one (ps_ret (pe_and (pe_cmpR op_eq (pe_callB call_len_seq rfl T.b_len (by decide +kernel) (pa_cons (pv 0) pa_nil)) (pe_callB call_len_seq rfl T.b_len (by decide +kernel) (pa_cons (pv 1) pa_nil)) (nomark _)) (pe_one (pe_callB (cr_all rfl) rfl T.b_all (by decide +kernel) (pa_cons (pe_lc (own := [("_law_x", 2), ("_law_y", 3)]) (g := (gTup K 2 (gCons (gName 2) (gCons (gName 3) gNil)))) (tt := tYes) (te := (tCall (spSameD n) [] E0 (tCons (tVar 2) (tCons (tVar 3) tNil)))) rfl sc_law_same.nd (pi_zip rfl T.b_zip (pa_cons (pv 0) (pa_cons (pv 1) pa_nil))) (blkOk_by (own := [("_law_x", 2), ("_law_y", 3)]) (N := N_law_same) (sc := defScope s_law_same) (by decide +kernel)) (fun _ _ _ _ _ => (pg_tup rfl (pgs_cons (pg_name (i := 2) sc_law_same.nd rfl (Or.inl rfl)) (pgs_cons (pg_name (i := 3) sc_law_same.nd rfl (Or.inl rfl)) pgs_nil)))) (fun _ _ _ _ _ => pts_nil) (fun _ _ _ _ _ => (pe_ok G_same hr (pa_cons (pv 2) (pa_cons (pv 3) pa_nil))))) pa_nil))))))) pss_nil)
    (pss_cons (ps_if (pt_val (pe_callB call_isi rfl T.b_isinstance (by decide +kernel) (pa_cons (pv 1) (pa_cons (pe_bltn rfl T.b_dict (by decide +kernel) (show RelV (.ty "dict") _ from rfl)) pa_nil)))) (pss_one ps_never) pss_nil)
    (pss_cons (ps_if (pt_val (pe_callB call_isi rfl T.b_isinstance (by decide +kernel) (pa_cons (pv 1) (pa_cons (pe_bltn rfl T.b_int (by decide +kernel) (show RelV (.ty "int") _ from rfl)) pa_nil)))) (pss_one (ps_ret (pe_and (pe_callB call_isi rfl T.b_isinstance (by decide +kernel) (pa_cons (pv 0) (pa_cons (pe_bltn rfl T.b_int (by decide +kernel) (show RelV (.ty "int") _ from rfl)) pa_nil))) (pe_and (pe_cmpR op_eq (pe_callB call_isi rfl T.b_isinstance (by decide +kernel) (pa_cons (pv 0) (pa_cons (pe_bltn rfl T.b_bool (by decide +kernel) (show RelV (.ty "bool") _ from rfl)) pa_nil))) (pe_callB call_isi rfl T.b_isinstance (by decide +kernel) (pa_cons (pv 1) (pa_cons (pe_bltn rfl T.b_bool (by decide +kernel) (show RelV (.ty "bool") _ from rfl)) pa_nil))) (nomark _)) (pe_one (pe_cmpR op_eq (pv 0) (pv 1) (nomark _))))))) pss_nil)
    (pss_one (ps_ret (pe_and (pe_not (pe_callB call_isiT rfl T.b_isinstance (by decide +kernel) (pa_cons (pv 0) (pa_cons (pe_tup (pa_cons (pe_bltn rfl T.b_int (by decide +kernel) (show RelV (.ty "int") _ from rfl)) (pa_cons (pe_bltn rfl T.b_list (by decide +kernel) (show RelV (.ty "list") _ from rfl)) (pa_cons (pe_bltn rfl T.b_tuple (by decide +kernel) (show RelV (.ty "tuple") _ from rfl)) (pa_cons (pe_bltn rfl T.b_dict (by decide +kernel) (show RelV (.ty "dict") _ from rfl)) pa_nil))))) pa_nil)))) (pe_one (pe_cmpR op_eq (pv 0) (pv 1) (nomark _))))))))), ?_⟩
    have z1 := sizeLine_eq
    refine r_seq (r_ifS (r_b ⟨_, rfl, by show 2 ≤ sizeLine; decide, fun p hp => ?_⟩))
    have e : Ex [] F H F (upd H p (.tup [.ty "list", .ty "tuple"])) := Ex.new hF hp
    have tx := dd_tyx (K := K) hx e.fh
    have ty := dd_tyx (K := K) hy e.fh
    refine ⟨_, p, _, .type (tyN d), [.type "list", .type "tuple"], seqy d, rfl, upd_same, .cons (.ty _) (.cons (.ty _) .nil), ty, kit_seq d, _, rfl, ?_⟩
    have e0 := e
    generalize (upd H p (.tup [.ty "list", .ty "tuple"])) = H1 at e tx ty
    cases d with
    | list ds =>
      obtain ⟨a, us, rfl, ha, hus, lds⟩ := dd_list.mp hx
      obtain ⟨c, ws, rfl, hc, hws, _⟩ := dd_list.mp hy
      have l1 := hus.len
      have l2 := hws.len
      refine iteT ?_
      refine r_seq (r_ifS ?_)
      refine ⟨_, rfl, _, _, _, _, true, rfl, .ty _, tx, kit_lst (K := K) (.list ds), _, rfl, _, _, _, _, true, rfl, .ty _, ty, kit_lst (K := K) (.list ds), rfl, _, rfl, iteF' (by decide) ?_⟩
      refine ⟨_, rfl, _, _, _, _, false, rfl, .ty _, tx, kit_tup (K := K) (.list ds), _, rfl, _, _, _, _, false, rfl, .ty _, ty, kit_tup (K := K) (.list ds), rfl, _, rfl, iteF' (by decide) (r_next ?_)⟩
      dsimp only
      refine r_ret (r_and ⟨_, rfl, a, _, rfl, .inl (SqL.of (e.fh _ _ ha)), _, rfl, c, _, rfl, .inl (SqL.of (e.fh _ _ hc)), rfl, _, rfl, iteT' (by rw [l1, l2]; simp) ?_⟩)
      refine r_cb (r_cons (lcg_zip (n := ds.length) (fun R h => ⟨_, rfl, _, rfl, h⟩) (e.ff _ _ ha) (e.ff _ _ hc) (by omega) e.fh (by omega) (fun k acc _ => acc = List.replicate k (.bl true)) (fun _ _ _ _ _ h => h) rfl ?_ ?_))
      · intro k x y t acc F1 H2 Kk Nk hk hx2 hy2 e2 p2 _ k1 _
        obtain ⟨d1, hd1, dx⟩ := hus.get hx2
        obtain ⟨d2, hd2, dy⟩ := hws.get hy2
        rw [hd1] at hd2
        obtain rfl := Option.some.inj hd2
        have hm := List.mem_of_getElem? hd1
        have dep := depth_mem hm
        refine ⟨t, _, rfl, SqT.of upd_same, rfl, _, _, rfl, _, _, rfl, rfl, rfl, _, rfl, _, rfl, x, y, d1, F1, rfl, e2.fh, dx.up e2.ff, dy.up e2.ff, lstys_mem (by simpa [lsty] using hl) hm, by simp [PyData.depth] at hd; omega, fun H3 e3 => k1 _ F1 H3 e3 ?_⟩
        rw [p2, List.replicate_succ']
      · intro D acc F1 H2 e2 hD fD hd2 p2 _
        refine ⟨D, List.replicate ds.length true, rfl, SqL.of (by rw [hd2, p2]; simp), ?_⟩
        have : (List.replicate ds.length true).all id = true := by simp
        rw [this]
        exact kk H2 (e.trans e2).drop
    | int i =>
      obtain rfl := dd_int.mp hx
      obtain rfl := dd_int.mp hy
      refine iteF (r_next ?_)
      dsimp only
      refine r_seq (r_ifS (r_b ⟨_, rfl, _, _, _, _, false, rfl, .ty _, ty, kit_dct (K := K) (.int i), _, rfl, iteF (r_next ?_)⟩))
      dsimp only
      refine r_seq (r_ifS (r_b ⟨_, rfl, _, _, _, _, true, rfl, .ty _, ty, kit_int (K := K) (.int i), _, rfl, iteT ?_⟩))
      refine r_ret (r_and ⟨_, rfl, _, _, _, _, true, rfl, .ty _, tx, kit_int (K := K) (.int i), _, rfl, iteT ?_⟩)
      refine r_and ⟨_, rfl, _, _, _, _, false, rfl, .ty _, tx, kit_bool (K := K) (.int i), _, rfl, _, _, _, _, false, rfl, .ty _, ty, kit_bool (K := K) (.int i), rfl, _, rfl, iteT' (by decide) ?_⟩
      refine ⟨_, rfl, _, rfl, rfl, ?_⟩
      rw [show decide (V.int i = V.int i) = true by simp]
      exact kk _ e
    | bool b =>
      obtain rfl := dd_bool.mp hx
      obtain rfl := dd_bool.mp hy
      refine iteF (r_next ?_)
      dsimp only
      refine r_seq (r_ifS (r_b ⟨_, rfl, _, _, _, _, false, rfl, .ty _, ty, kit_dct (K := K) (.bool b), _, rfl, iteF (r_next ?_)⟩))
      dsimp only
      refine r_seq (r_ifS (r_b ⟨_, rfl, _, _, _, _, true, rfl, .ty _, ty, kit_int (K := K) (.bool b), _, rfl, iteT ?_⟩))
      refine r_ret (r_and ⟨_, rfl, _, _, _, _, true, rfl, .ty _, tx, kit_int (K := K) (.bool b), _, rfl, iteT ?_⟩)
      refine r_and ⟨_, rfl, _, _, _, _, true, rfl, .ty _, tx, kit_bool (K := K) (.bool b), _, rfl, _, _, _, _, true, rfl, .ty _, ty, kit_bool (K := K) (.bool b), rfl, _, rfl, iteT' (by decide) ?_⟩
      refine ⟨_, rfl, _, rfl, by cases b <;> rfl, ?_⟩
      rw [show decide (V.bl b = V.bl b) = true by simp]
      exact kk _ e
    | str s => simp [lsty] at hl
    | none => simp [lsty] at hl
    | tuple ds => simp [lsty] at hl
    | dict kvs => simp [lsty] at hl
end
end T3

namespace T3
open PySem PySem.Spec PyProof.Rows L2 Ly
section
variable {P : Program} {w : World} {K : PySem.W.Frag} {mg : Str → Option Value} {base : Heap}
/-! ### signs in lists or tuples -/
def spSignsV : Sp := fun vs H Q _ => ∃ (a : Addr) (xs : List V) (ds : List PyData) (F : Hp), vs = [.ref a] ∧ Same F H ∧ (F a = some (.lst xs) ∨ F a = some (.tup xs)) ∧ Dds F ds xs ∧ wordys ds = true ∧ PyData.depthAll ds < 6 ∧ 0 < ds.length ∧ ds.length < 1000000 ∧
  ∀ p ys F' H', Ex [] F H F' H' → H p = none → F' p = none → H' p = some (.lst ys) → Wks F' (toWs ds) ys → Q (.ref p) H'
theorem ok_signsV (T : Top K mg) : Ok P w K mg base "checked_signs" 11 ["signs"] spSignsV := by
  have G_is_list : Ok P w K mg base "is_list" 1 ["thing"] spIsList := ok_is_list T
  have G_is_word : Ok P w K mg base "is_word" 9 ["thing"] (spIsWord 6) := ok_is_word T 6
  have G_as_word : Ok P w K mg base "as_word" 9 ["thing"] (spAsWord 6) := ok_as_word T 6
  refine ok_of T.g_checked_signs T.F_checked_signs sc_checked_signs (fun _ _ _ _ _ _ us hl => match us, hl with | [_], _ => rfl) (fun vs H Q E h => ?_) (fun cdv A outer s H vs Q E hr h => ?_)
  · first | (obtain ⟨rfl, _⟩ := h; rfl) | (obtain ⟨_, rfl, _⟩ := h; rfl) | (obtain ⟨_, _, rfl, _⟩ := h; rfl) | (obtain ⟨_, _, _, rfl, _⟩ := h; rfl) | (obtain ⟨_, _, _, _, rfl, _⟩ := h; rfl) | (obtain ⟨_, _, _, _, _, rfl, _⟩ := h; rfl) | (obtain ⟨_, _, _, _, _, _, rfl, _⟩ := h; rfl) | (obtain ⟨_, _, _, _, _, _, _, rfl, _⟩ := h; rfl) | (obtain ⟨_, _, _, _, _, _, _, _, rfl, _⟩ := h; rfl) | (obtain ⟨_, _, _, _, _, _, _, _, _, rfl, _⟩ := h; rfl) | (obtain ⟨_, _, _, _, _, _, _, _, _, _, rfl, _⟩ := h; rfl) | (obtain ⟨_, _, _, _, _, _, _, _, _, _, _, rfl, _⟩ := h; rfl)
  obtain ⟨a, xs, ds, F, rfl, hF, ha, hw, ho, hd6, h0, h1, kk⟩ := h
  refine ⟨_, (pss_cons (ps_if (PW.pt (pw_or (pt_not (pt_val (pe_ok G_is_list hr (pa_cons (pv 0) pa_nil)))) (pw_or1 (pt_cmpR op_eq (pe_callB call_len_seq rfl T.b_len (by decide +kernel) (pa_cons (pv 0) pa_nil)) pe_int (nomark _))))) (pss_one ps_never) pss_nil)
    (pss_cons (ps_for PassesOwn.never rfl (pi_enumV rfl T.b_enumerate (pv 0)) (pg_tup rfl (pgs_cons (pg_name (i := 1) sc_checked_signs.nd rfl (Or.inl rfl)) (pgs_cons (pg_name (i := 2) sc_checked_signs.nd rfl (Or.inl rfl)) pgs_nil))) (pss_one (ps_if (pt_not (pt_val (pe_ok G_is_word hr (pa_cons (pv 2) pa_nil)))) (pss_one ps_never) pss_nil)))
    (pss_one (ps_ret (pe_lc (own := [("sign", 2)]) (g := (gName 2)) (tt := tYes) (te := (tCall (spAsWord 6) [] E0 (tCons (tVar 2) tNil))) rfl sc_checked_signs.nd (pi_seqV (pv 0)) (blkOk_by (own := [("sign", 2)]) (N := N_checked_signs) (sc := defScope s_checked_signs) (by decide +kernel)) (fun _ _ _ _ _ => (pg_name (i := 2) sc_checked_signs.nd rfl (Or.inl rfl))) (fun _ _ _ _ _ => pts_nil) (fun _ _ _ _ _ => (pe_ok G_as_word hr (pa_cons (pv 2) pa_nil)))))))), ?_⟩
  have l1 := hw.len
  have z1 := sizeLine_eq
  obtain ⟨d, hd, hs⟩ : ∃ d, Dd F d (.ref a) ∧ seqy d = true := by
    rcases ha with ha | ha
    · exact ⟨.list ds, dd_list.mpr ⟨a, xs, rfl, ha, hw, h1⟩, rfl⟩
    · exact ⟨.tuple ds, dd_tuple.mpr ⟨a, xs, rfl, ha, hw, h1⟩, rfl⟩
  have seq : ∀ H1 : Hp, Same F H1 → SqL K H1 a xs ∨ SqT K H1 a xs := fun H1 h => by
    rcases ha with ha | ha
    · exact .inl (SqL.of (h _ _ ha))
    · exact .inr (SqT.of (h _ _ ha))
  refine ⟨_, rfl, _, _, F, rfl, hF, hd, fun H1 e1 => ⟨_, rfl, ?_⟩⟩
  rw [hs]
  refine iteF ⟨_, rfl, _, _, rfl, seq _ e1.fh, rfl, _, rfl, ?_⟩
  refine iteF' (by
    have : ¬ xs = [] := fun z => by
      rw [z] at l1
      simp at l1
      omega
    simpa using this) ?_
  refine r_next ?_
  dsimp only
  refine r_seq (forg_enumV [] rfl ha e1.fh (fun i σ1 F1 H2 => ∃ u v, σ1 = [some (.ref a), u, v]) ⟨_, _, rfl⟩ ?_ ?_)
  · rintro i x t σ1 F1 H2 Nk hi hx e ⟨u, v, rfl⟩ ht nk
    obtain ⟨k, hk, wk⟩ := hw.get hx
    have hm := List.mem_of_getElem? hk
    refine ⟨t, _, rfl, SqT.of upd_same, rfl, _, _, rfl, _, _, rfl, rfl, ?_⟩
    have et : Ex [] F1 H2 F1 (upd H2 t (.tup [.int (i : Nat), x])) := Ex.new e.fh ht
    refine ⟨_, rfl, x, k, F1, rfl, et.fh, wk.up e.ff, ?_, fun H3 e3 => ⟨_, rfl, ?_⟩⟩
    · have := depth_mem hm
      omega
    · rw [wordys_mem ho hm]
      exact iteF (nk _ F1 H3 e3 ⟨_, _, rfl⟩)
  · rintro σ1 F1 H2 e ⟨u, v, rfl⟩
    dsimp only
    refine r_ret (lcg_seqV [] rfl (ha.imp (fun h => e.ff _ _ h) fun h => e.ff _ _ h) e.fh (by simp) (by omega) (fun k acc F => Wks F ((toWs ds).take k) acc) (fun _ _ _ => True) (fun _ _ _ _ h q => q.up h) (fun _ _ _ _ _ _ _ _ _ => trivial) (by simp; exact Wks.nil) trivial ?_ ?_)
    · intro i y acc F' H' Kk Nk hi hy e4 p _ _ k1 _
      refine ⟨rfl, _, rfl, ?_⟩
      obtain ⟨k', hk', wk'⟩ := hw.get hy
      have hm := List.mem_of_getElem? hk'
      refine ⟨y, k', F', rfl, e4.fh, wk'.up (Same.trans e.ff e4.ff), wordys_mem ho hm, ?_, fun v F5 H5 e5 wv => k1 v F5 H5 e5 ?_ trivial⟩
      · have := depth_mem hm
        omega
      · rw [toWs_at hk']
        exact (p.up e5.ff).app (Wks.one wv)
    · intro D acc F' H' e4 hD fD hd' p _ _
      rw [List.take_of_length_le (by rw [toWs_len]; omega)] at p
      have e5 : Ex [] F H F' H' := e1.trans (e.trans e4)
      refine kk D acc F' H' e5 ?_ fD hd' p
      cases z : H D with
      | none => rfl
      | some o => exact absurd hD ((e1.trans e).dm D (ne_none z))
/-! ### periods -/
def spPeriod : Sp := fun vs H Q _ => ∃ (ra : Addr) (xs : List V) (ks : List W) (F : Hp), vs = [.ref ra] ∧ Same F H ∧ F ra = some (.lst xs) ∧ Wks F ks xs ∧ (∀ k ∈ ks, kWok k) ∧ 0 < ks.length ∧ ks.length < 100000 ∧
  ∀ (p : Nat) H', IsPer ks p → Ex [] F H F H' → Q (.int p) H'
theorem ok_period_of (T : Top K mg) : Ok P w K mg base "period_of" 1 ["row"] spPeriod := by
  refine ok_of T.g_period_of T.F_period_of sc_period_of (fun _ _ _ _ _ _ us hl => match us, hl with | [_], _ => rfl) (fun vs H Q E h => ?_) (fun cdv A outer s H vs Q E hr h => ?_)
  · first | (obtain ⟨rfl, _⟩ := h; rfl) | (obtain ⟨_, rfl, _⟩ := h; rfl) | (obtain ⟨_, _, rfl, _⟩ := h; rfl) | (obtain ⟨_, _, _, rfl, _⟩ := h; rfl) | (obtain ⟨_, _, _, _, rfl, _⟩ := h; rfl) | (obtain ⟨_, _, _, _, _, rfl, _⟩ := h; rfl) | (obtain ⟨_, _, _, _, _, _, rfl, _⟩ := h; rfl) | (obtain ⟨_, _, _, _, _, _, _, rfl, _⟩ := h; rfl) | (obtain ⟨_, _, _, _, _, _, _, _, rfl, _⟩ := h; rfl) | (obtain ⟨_, _, _, _, _, _, _, _, _, rfl, _⟩ := h; rfl) | (obtain ⟨_, _, _, _, _, _, _, _, _, _, rfl, _⟩ := h; rfl) | (obtain ⟨_, _, _, _, _, _, _, _, _, _, _, rfl, _⟩ := h; rfl)
  obtain ⟨ra, xs, ks, F, rfl, hF, ha, hw, hk, h0, h1, kk⟩ := h
  refine ⟨_, (pss_cons (ps_set (i := 1) sc_period_of.nd rfl (Or.inl rfl) (pe_callB call_len_seq rfl T.b_len (by decide +kernel) (pa_cons (pv 0) pa_nil)))
    (pss_cons (ps_for PassesOwn.never rfl (pi_range2 rfl T.b_range (pa_cons pe_int (pa_cons (pv 1) pa_nil))) (pg_name (i := 2) sc_period_of.nd rfl (Or.inl rfl)) (pss_one (ps_if (PW.pt (pw_and (pt_cmpR op_eq (pe_op op_modN (pv 1) (pv 2)) pe_int (nomark _)) (pw_and1 (pt_cmpR (op_eqD (hu64 hr)) (pe_op op_cat (pe_slice sl_list (pv 0) (po_some (pv 2)) po_none) (pe_slice sl_list (pv 0) po_none (po_some (pv 2)))) (pv 0) (nomark _))))) (pss_one (ps_ret (pv 2))) pss_nil)))
    (pss_one (ps_ret (pv 1))))), ?_⟩
  have z1 := sizeLine_eq
  have l1 := hw.len
  refine r_seq (r_asg (r_cb (r_cons ⟨_, rfl, ra, xs, rfl, .inl (SqL.of (hF _ _ ha)), ?_⟩)))
  refine r_next ?_
  dsimp only
  refine r_seq (forg_rng2 (lo := 1) (hi := xs.length) [] (fun R h => r_cons (r_c (r_cons ⟨_, rfl, h⟩))) (by omega) (by omega) hF (fun i σ1 F1 H1 => F1 = F ∧ (∃ u, σ1 = [some (.ref ra), some (.int (xs.length : Nat)), u]) ∧ ∀ d, 0 < d → d < 1 + i → d ∣ ks.length → ¬ Per ks d) ⟨rfl, ⟨_, rfl⟩, fun d a b => by omega⟩ ?_ ?_)
  · rintro i σ1 F1 H1 Nk hi e ⟨rfl, ⟨u, rfl⟩, p⟩ nk
    have nx : (1 + i) < 1 + (i + 1) := by omega
    have ev : (((xs.length : Nat) : Int).fmod ((1 + i : Nat) : Int) = 0) ↔ (1 + i) ∣ ks.length := by
      rw [Int.fmod_eq_emod_of_nonneg _ (by omega), l1]
      rw [← Int.natCast_dvd_natCast]
      exact ⟨Int.dvd_of_emod_eq_zero, Int.emod_eq_zero_of_dvd⟩
    have more : ¬ ((1 + i) ∣ ks.length ∧ Per ks (1 + i : Nat)) → ∀ d, 0 < d → d < 1 + (i + 1) → d ∣ ks.length → ¬ Per ks d := fun hn d a b c hP => by
      rcases Nat.lt_or_ge d (1 + i) with z | z
      · exact p d a z c hP
      · have : d = 1 + i := by omega
        subst this
        exact hn ⟨c, hP⟩
    have kw : SeqAt.shaped (.list (NestedKey.datas ks)) = true := shaped_list7 (fun k h => (hk k h).2.1) fun k h => (hk k h).2.2
    refine r_ifS ⟨_, rfl, _, rfl, _, _, rfl, rfl, by omega, rfl, _, rfl, ite2 (fun hc => ?_) (fun hc => r_next ?_)⟩
    · have hdv : (1 + i) ∣ ks.length := ev.mp (by
        have := of_decide_eq_true hc
        exact V.int.inj this)
      refine ⟨_, rfl, _, rfl, _, rfl, ra, _, rfl, SqL.of (e.fh _ _ ha), fun p1 hp1 => ?_⟩
      rw [cut_from _ (by omega) (by omega)]
      have d1 : (upd H1 p1 (.lst (xs.drop (1 + i)))) p1 = some (.lst (xs.drop (1 + i))) := upd_same
      have e1 : Ex [] F1 H1 F1 (upd H1 p1 (.lst (xs.drop (1 + i)))) := Ex.new e.fh hp1
      generalize upd H1 p1 (.lst (xs.drop (1 + i))) = H2 at d1 e1
      refine ⟨_, rfl, _, rfl, _, rfl, ra, _, rfl, SqL.of (e1.fh _ _ ha), fun p2 hp2 => ?_⟩
      rw [cut_to _ (by omega) (by omega)]
      have d2 : (upd H2 p2 (.lst (xs.take (1 + i)))) p2 = some (.lst (xs.take (1 + i))) := upd_same
      have e2 : Ex [] F1 H2 F1 (upd H2 p2 (.lst (xs.take (1 + i)))) := Ex.new e1.fh hp2
      have d12 := e2.at d1
      generalize upd H2 p2 (.lst (xs.take (1 + i))) = H3 at d2 e2 d12
      refine ⟨p1, p2, _, _, rfl, rfl, d12, d2, by rw [List.length_drop, List.length_take]; omega, fun p3 hp3 => ?_⟩
      have d3 : (upd H3 p3 (.lst (xs.drop (1 + i) ++ xs.take (1 + i)))) p3 = some (.lst (xs.drop (1 + i) ++ xs.take (1 + i))) := upd_same
      have e3 : Ex [] F1 H3 F1 (upd H3 p3 (.lst (xs.drop (1 + i) ++ xs.take (1 + i)))) := Ex.new e2.fh hp3
      generalize upd H3 p3 (.lst (xs.drop (1 + i) ++ xs.take (1 + i))) = H4 at d3 e3
      have wr : Wks F1 (ks.drop (1 + i) ++ ks.take (1 + i)) (xs.drop (1 + i) ++ xs.take (1 + i)) := (hw.drop _).app (hw.take _)
      have hkr : ∀ k ∈ ks.drop (1 + i) ++ ks.take (1 + i), kWok k := fun k h => by
        rcases List.mem_append.mp h with z | z
        · exact hk k (List.mem_of_mem_drop z)
        · exact hk k (List.mem_of_mem_take z)
      have E4 := e.trans (e1.trans (e2.trans e3))
      refine ⟨_, rfl, .list (NestedKey.datas (ks.drop (1 + i) ++ ks.take (1 + i))), .list (NestedKey.datas ks), .lst (SqL.of d3) (wks_dp e3.fh wr), .lst (SqL.of (e3.fh _ _ ha)) (wks_dp e3.fh hw), shaped_list7 (fun k h => (hkr k h).2.1) (fun k h => (hkr k h).2.2), kw, _, rfl, ?_⟩
      rw [eqv_lists]
      refine ite2 (fun hc2 => ?_) (fun hc2 => r_next ?_)
      · have hP := (rot_per h0 (by omega)).mp (of_decide_eq_true hc2)
        exact r_ret ⟨_, rfl, kk _ _ ⟨by omega, hdv, hP, p⟩ E4⟩
      · refine nk _ F1 _ (e1.trans (e2.trans e3)) ⟨rfl, ⟨_, rfl⟩, more fun q => hc2 ?_⟩
        exact decide_eq_true ((rot_per h0 (by omega)).mpr q.2)
    · refine nk _ F1 _ (Ex.refl e.fh) ⟨rfl, ⟨_, rfl⟩, more fun q => hc ?_⟩
      exact decide_eq_true (congrArg V.int (ev.mpr q.1))
  · rintro σ1 F1 H1 e ⟨rfl, ⟨u, rfl⟩, p⟩
    dsimp only
    refine r_ret ⟨_, rfl, ?_⟩
    rw [l1]
    refine kk _ _ ⟨h0, Nat.dvd_refl _, per_len, fun d a b c => p d a (by omega) c⟩ e
def spLeast : Sp := fun vs H Q _ => ∃ (a : Addr) (xs : List V) (ds : List PyData) (F : Hp), vs = [.ref a] ∧ Same F H ∧ (F a = some (.lst xs) ∨ F a = some (.tup xs)) ∧ Dds F ds xs ∧ wordys ds = true ∧ (∀ k ∈ toWs ds, kWok k) ∧ PyData.depthAll ds < 6 ∧ 0 < ds.length ∧ ds.length < 100000 ∧
  ∀ (p : Nat) F' H', IsPer (toWs ds) p → Ex [] F H F' H' → Q (.int p) H'
theorem ok_least_period (T : Top K mg) : Ok P w K mg base "least_period" 12 ["signs"] spLeast := by
  have G_checked_signs : Ok P w K mg base "checked_signs" 11 ["signs"] spSignsV := ok_signsV T
  have G_period_of : Ok P w K mg base "period_of" 1 ["row"] spPeriod := ok_period_of T
  refine ok_of T.g_least_period T.F_least_period sc_least_period (fun _ _ _ _ _ _ us hl => match us, hl with | [_], _ => rfl) (fun vs H Q E h => ?_) (fun cdv A outer s H vs Q E hr h => ?_)
  · first | (obtain ⟨rfl, _⟩ := h; rfl) | (obtain ⟨_, rfl, _⟩ := h; rfl) | (obtain ⟨_, _, rfl, _⟩ := h; rfl) | (obtain ⟨_, _, _, rfl, _⟩ := h; rfl) | (obtain ⟨_, _, _, _, rfl, _⟩ := h; rfl) | (obtain ⟨_, _, _, _, _, rfl, _⟩ := h; rfl) | (obtain ⟨_, _, _, _, _, _, rfl, _⟩ := h; rfl) | (obtain ⟨_, _, _, _, _, _, _, rfl, _⟩ := h; rfl) | (obtain ⟨_, _, _, _, _, _, _, _, rfl, _⟩ := h; rfl) | (obtain ⟨_, _, _, _, _, _, _, _, _, rfl, _⟩ := h; rfl) | (obtain ⟨_, _, _, _, _, _, _, _, _, _, rfl, _⟩ := h; rfl) | (obtain ⟨_, _, _, _, _, _, _, _, _, _, _, rfl, _⟩ := h; rfl)
  obtain ⟨a, xs, ds, F, rfl, hF, ha, hw, ho, hk, hd6, h0, h1, kk⟩ := h
  refine ⟨_, (pss_one (ps_ret (pe_ok G_period_of hr (pa_cons (pe_ok G_checked_signs hr (pa_cons (pv 0) pa_nil)) pa_nil)))), ?_⟩
  refine r_ret (r_call (r_cons (r_call (r_cons ⟨_, rfl, ?_⟩))))
  refine ⟨a, xs, ds, F, rfl, hF, ha, hw, ho, hd6, h0, by omega, fun q ys F1 H1 e1 hq fq hq1 wq => ?_⟩
  have e2 := e1.frz hq hq1 fq
  refine ⟨q, ys, toWs ds, upd F1 q (.lst ys), rfl, e2.fh, upd_same, wq.up (Same.upd fq), hk, by rw [toWs_len]; exact h0, by rw [toWs_len]; exact h1, fun p H2 hp e3 => kk p _ H2 hp (e2.trans e3)⟩
end
end T3

namespace T3
open PySem PySem.Spec PyProof.Rows L2 Ly
section
variable {P : Program} {w : World} {K : PySem.W.Frag} {mg : Str → Option Value} {base : Heap}
/-! ### places of a ring, read -/
theorem ring_at {F : Hp} {kp : List W} {ys : List V} (w : Wks F kp ys) (h0 : 0 < kp.length) (x : Int) : ∃ v, atI ys (x.fmod (kp.length : Int)) = some v ∧ Wk F (cyc kp x) v := by
  have r1 := Int.emod_nonneg x (b := (kp.length : Int)) (by omega)
  obtain ⟨m, hm⟩ := Int.eq_ofNat_of_zero_le r1
  have h1 := cyc_at h0 x
  rw [hm] at h1
  obtain ⟨v, hv, wv⟩ := w.at h1
  refine ⟨v, ?_, wv⟩
  rw [Int.fmod_eq_emod_of_nonneg _ (by omega), hm]
  exact atI_nat hv
theorem cyc_ok {kp : List W} (h0 : 0 < kp.length) (hk : ∀ k ∈ kp, kWok k) (x : Int) : kWok (cyc kp x) := hk _ (List.mem_of_getElem? (cyc_at h0 x))
def spRounds : Sp := fun vs H Q _ => ∃ (a : Addr) (xs : List V) (ds : List PyData) (F : Hp), vs = [.ref a] ∧ Same F H ∧ (F a = some (.lst xs) ∨ F a = some (.tup xs)) ∧ Dds F ds xs ∧ wordys ds = true ∧ (∀ k ∈ toWs ds, kWok k) ∧ PyData.depthAll ds < 6 ∧ 0 < ds.length ∧ ds.length < 100000 ∧
  ∀ (L : Nat) H', IsL (toWs ds) L → Ex [] F H F H' → Q (.int L) H'
theorem ok_ring_rounds (T : Top K mg) : Ok P w K mg base "ring_rounds" 12 ["signs"] spRounds := by
  have G_checked_signs : Ok P w K mg base "checked_signs" 11 ["signs"] spSignsV := ok_signsV T
  have G_period_of : Ok P w K mg base "period_of" 1 ["row"] spPeriod := ok_period_of T
  refine ok_of T.g_ring_rounds T.F_ring_rounds sc_ring_rounds (fun _ _ _ _ _ _ us hl => match us, hl with | [_], _ => rfl) (fun vs H Q E h => ?_) (fun cdv A outer s H vs Q E hr h => ?_)
  · first | (obtain ⟨rfl, _⟩ := h; rfl) | (obtain ⟨_, rfl, _⟩ := h; rfl) | (obtain ⟨_, _, rfl, _⟩ := h; rfl) | (obtain ⟨_, _, _, rfl, _⟩ := h; rfl) | (obtain ⟨_, _, _, _, rfl, _⟩ := h; rfl) | (obtain ⟨_, _, _, _, _, rfl, _⟩ := h; rfl) | (obtain ⟨_, _, _, _, _, _, rfl, _⟩ := h; rfl) | (obtain ⟨_, _, _, _, _, _, _, rfl, _⟩ := h; rfl) | (obtain ⟨_, _, _, _, _, _, _, _, rfl, _⟩ := h; rfl) | (obtain ⟨_, _, _, _, _, _, _, _, _, rfl, _⟩ := h; rfl) | (obtain ⟨_, _, _, _, _, _, _, _, _, _, rfl, _⟩ := h; rfl) | (obtain ⟨_, _, _, _, _, _, _, _, _, _, _, rfl, _⟩ := h; rfl)
  obtain ⟨a, xs, ds, F, rfl, hF, ha, hw, ho, hk, hd6, h0, h1, kk⟩ := h
  refine ⟨_, (pss_cons (ps_set (i := 1) sc_ring_rounds.nd rfl (Or.inl rfl) (pe_ok G_checked_signs hr (pa_cons (pv 0) pa_nil)))
    (pss_cons (ps_set (i := 1) sc_ring_rounds.nd rfl (Or.inl rfl) (pe_slice sl_list (pv 1) po_none (po_some (pe_ok G_period_of hr (pa_cons (pv 1) pa_nil)))))
    (pss_cons (ps_par (i := 2) (j := 3) rfl sc_ring_rounds.nd rfl rfl (by decide) rfl rfl (pa_cons pe_int (pa_cons (pe_callB call_len_seq rfl T.b_len (by decide +kernel) (pa_cons (pv 1) pa_nil)) pa_nil)) rfl)
    (pss_cons (ps_for PassesOwn.never rfl (pi_range1 rfl T.b_range (pa_cons (pv 3) pa_nil)) (pg_name (i := 4) sc_ring_rounds.nd rfl (Or.inl rfl)) (pss_one (ps_for PassesOwn.never rfl (pi_range1 rfl T.b_range (pa_cons (pv 4) pa_nil)) (pg_name (i := 5) sc_ring_rounds.nd rfl (Or.inl rfl)) (pss_cons (ps_set (i := 6) sc_ring_rounds.nd rfl (Or.inl rfl) pe_int)
    (pss_cons (ps_while PassesOwn.never (pt_cmpR (op_eqD (hu64 hr)) (pe_ix ix_list (pv 1) (pe_op op_modN (pe_callTy call_int1 rfl T.b_int (by decide +kernel) (pa_cons (pe_op op_sub (pv 4) (pv 6)) pa_nil)) (pv 3)) (fun _ _ => rfl)) (pe_ix ix_list (pv 1) (pe_op op_modN (pe_callTy call_int1 rfl T.b_int (by decide +kernel) (pa_cons (pe_op op_sub (pv 5) (pv 6)) pa_nil)) (pv 3)) (fun _ _ => rfl)) (nomark _)) (pss_one (ps_set (i := 6) sc_ring_rounds.nd rfl (Or.inl rfl) (pe_op op_add (pv 6) pe_int))))
    (pss_one (ps_set (i := 2) sc_ring_rounds.nd rfl (Or.inl rfl) (pe_callB (call_max2 rfl) rfl T.b_max (by decide +kernel) (pa_cons (pv 2) (pa_cons (pv 6) pa_nil))))))))))
    (pss_one (ps_ret (pv 2))))))), ?_⟩
  have z1 := sizeLine_eq
  have lw := toWs_len ds
  refine r_seq (r_asg (r_call (r_cons ⟨_, rfl, ?_⟩)))
  refine ⟨a, xs, ds, F, rfl, hF, ha, hw, ho, hd6, h0, by omega, fun q ys F1 H1 e1 hq fq hq1 wq => r_next ?_⟩
  generalize toWs ds = ks at hk kk lw wq
  have e2 := e1.frz hq hq1 fq
  have dq2 : (upd F1 q (.lst ys)) q = some (.lst ys) := upd_same
  have wq2 : Wks (upd F1 q (.lst ys)) ks ys := wq.up (Same.upd fq)
  generalize upd F1 q (.lst ys) = F2 at e2 dq2 wq2
  have k0 : 0 < ks.length := by omega
  have lys := wq.len
  dsimp only
  refine r_seq (r_asg ⟨_, rfl, _, rfl, q, ys, ks, F2, rfl, e2.fh, dq2, wq2, hk, k0, by omega, fun p H2 P e3 => ⟨_, rfl, q, ys, rfl, SqL.of (e3.fh _ _ dq2), fun p2 hp2 => r_next ?_⟩⟩)
  have hp := P.pos
  have hle := P.le k0
  rw [cut_to ys (by omega) (by omega)]
  have e4 : Ex [] F2 H2 (upd F2 p2 (.lst (ys.take p))) (upd H2 p2 (.lst (ys.take p))) := Ex.newF e3.fh hp2
  have d4 : (upd F2 p2 (.lst (ys.take p))) p2 = some (.lst (ys.take p)) := upd_same
  have w4 : Wks (upd F2 p2 (.lst (ys.take p))) (ks.take p) (ys.take p) := (wq2.take p).up e4.ff
  dsimp only
  show tSeq _ _ _ _ (upd H2 p2 (.lst (ys.take p)))
  generalize upd F2 p2 (.lst (ys.take p)) = F4 at e4 d4 w4
  generalize upd H2 p2 (.lst (ys.take p)) = H4 at e4
  have E4 := e2.trans (e3.trans e4)
  have lkp : (ks.take p).length = p := by rw [List.length_take]; omega
  have lyp : (ys.take p).length = p := by rw [List.length_take]; omega
  have cy := cyc_take P k0
  have hkp : ∀ k ∈ ks.take p, kWok k := fun k h => hk k (List.mem_of_mem_take h)
  have hfin : ∀ L, IsL (ks.take p) L → IsL ks L := fun L l => l.same fun i => (cy i).symm
  have Pp : IsPer (ks.take p) p := isPer_same (ks := ks.take p) (ls := ks) cy (by omega) P (by rw [lkp]; exact Nat.dvd_refl _)
  have kk2 : ∀ (L : Nat) H', IsL (ks.take p) L → Ex [] F4 H4 F4 H' → Q (.int L) H' := fun L H' l e => kk L H' (hfin L l) (E4.trans e).drop
  generalize ys.take p = yp at d4 w4 lyp
  generalize ks.take p = kp at w4 lkp cy hkp hfin Pp kk2
  clear hfin cy wq2 wq hk kk hw
  have kp0 : 0 < kp.length := by omega
  refine r_seq (r_par (r_c (r_cons (r_cb (r_cons ⟨_, rfl, p2, yp, rfl, .inl (SqL.of (e4.fh _ _ d4)), ⟨_, _, rfl, ?_⟩⟩)))))
  rw [lyp]
  dsimp only
  refine r_seq (forg_rng (n := p) [] (fun R h => ⟨_, rfl, h⟩) (by omega) e4.fh (fun i σ1 F5 H5 => F5 = F4 ∧ ∃ (L : Nat) (u4 u5 u6 : Option V), σ1 = [some (.ref a), some (.ref p2), some (.int L), some (.int p), u4, u5, u6] ∧ (∀ i' j' : Nat, j' < i' → i' < i → ∀ a, Alk kp i' j' a → a ≤ L) ∧ (L = 0 ∨ ∃ i j, Alk kp i j L)) ⟨rfl, 0, _, _, _, rfl, fun _ _ _ h => by omega, .inl rfl⟩ ?_ ?_)
  · rintro i σ1 F5 H5 Nk hi e5 ⟨rfl, L, u4, u5, u6, rfl, m5, t5⟩ nk
    refine forg_rng (n := i) [] (fun R h => ⟨_, rfl, h⟩) (by omega) e5.fh (fun j σ1 F6 H6 => F6 = F5 ∧ ∃ (L : Nat) (u5 u6 : Option V), σ1 = [some (.ref a), some (.ref p2), some (.int L), some (.int p), some (.int (i : Nat)), u5, u6] ∧ (∀ i' j' : Nat, j' < i' → (i' < i ∨ (i' = i ∧ j' < j)) → ∀ a, Alk kp i' j' a → a ≤ L) ∧ (L = 0 ∨ ∃ i j, Alk kp i j L)) ⟨rfl, L, _, _, rfl, fun i' j' a b => m5 i' j' a (by omega), t5⟩ ?_ ?_
    · rintro j σ1 F6 H6 Nk2 hj e6 ⟨rfl, L, u5, u6, rfl, m6, t6⟩ nk2
      have nd : ¬ (p : Int) ∣ (i : Int) - j := fun z => by
        have := Int.le_of_dvd (by omega) z
        omega
      obtain ⟨A, hA, al⟩ := alk_ex kp0 Pp nd
      refine r_seq (r_asg (r_c (r_next ?_)))
      dsimp only
      have hd6' := e6.fh _ _ d4
      refine r_seq (while_m (mt_tst (me_op m2_eqD (me_op m2_ixL (me_var _) (me_op m2_I (me_cb mc_int (ma_cons (me_op m2_I0 (me_var _) (me_var _)) ma_nil)) (me_var _))) (me_op m2_ixL (me_var _) (me_op m2_I (me_cb mc_int (ma_cons (me_op m2_I0 (me_var _) (me_var _)) ma_nil)) (me_var _))))) (fun σ H7 => ∃ t : Nat, σ = [some (.ref a), some (.ref p2), some (.int L), some (.int p), some (.int (i : Nat)), some (.int (j : Nat)), some (.int t)] ∧ Ex [] F6 H6 F6 H7 ∧ t ≤ A) (fun σ _ => match σ with | [_, _, _, _, _, _, some (.int t)] => (A - t).toNat | _ => 0) ⟨0, rfl, Ex.refl e6.fh, Nat.zero_le _⟩ ?_)
      · rintro σ H7 ⟨t, rfl, e7, ht⟩
        obtain ⟨v1, g1, w1⟩ := ring_at w4 kp0 ((i : Int) - t)
        obtain ⟨v2, g2, w2⟩ := ring_at w4 kp0 ((j : Int) - t)
        rw [lkp] at g1 g2
        have k1 := cyc_ok kp0 hkp ((i : Int) - t)
        have k2 := cyc_ok kp0 hkp ((j : Int) - t)
        have m0 : ((p : Nat) : Int) ≠ 0 := by omega
        have sq := SqL.of (K := K) (e7.fh _ _ d4)
        refine ⟨_, rfl, _, rfl, _, rfl, _, _, rfl, rfl, .inl ⟨_, rfl, _, rfl, _, _, rfl, rfl, m0, p2, yp, _, _, rfl, rfl, sq, g1, _, rfl, _, rfl, _, rfl, _, _, rfl, rfl, .inl ⟨_, rfl, _, rfl, _, _, rfl, rfl, m0, p2, yp, _, _, rfl, rfl, sq, g2, _, _, wk_dp e7.fh w1, wk_dp e7.fh w2, k1.shaped, k2.shaped, _, rfl, ?_⟩⟩⟩
        rw [eqv_dec]
        refine ite2 (fun hc => ?_) (fun hc => ?_)
        · have hlt : t < A := by
            rcases Nat.lt_or_ge t A with z | z
            · exact z
            · have : t = A := by omega
              subst this
              exact absurd (of_decide_eq_true hc) al.ne
          refine r_asg ⟨_, rfl, _, _, rfl, rfl, ⟨⟨t + 1, rfl, e7, hlt⟩, ?_⟩⟩
          show ((A : Int) - ((t : Int) + 1)).toNat < ((A : Int) - (t : Int)).toNat
          omega
        · have hge : t = A := by
            rcases Nat.lt_or_ge t A with z | z
            · exact absurd (decide_eq_true (al.al t z)) hc
            · omega
          subst hge
          refine r_next ?_
          dsimp only
          refine r_asg (r_cb ⟨_, rfl, _, rfl, _, _, rfl, ?_⟩)
          have em : (if ((t : Nat) : Int) > (L : Int) then ((t : Nat) : Int) else (L : Int)) = ((Nat.max L t : Nat) : Int) := by
            rw [show Nat.max L t = max L t from rfl]
            split <;> omega
          rw [em]
          have le1 : L ≤ Nat.max L t := Nat.le_max_left _ _
          have le2 : t ≤ Nat.max L t := Nat.le_max_right _ _
          refine nk2 _ F6 H7 e7 ⟨rfl, Nat.max L t, _, _, rfl, fun i' j' h1 h2 a' ha' => ?_, ?_⟩
          · rcases Classical.em (i' = i ∧ j' = j) with ⟨z1, z2⟩ | z
            · subst z1
              subst z2
              rw [ha'.uniq al]
              exact le2
            · have := m6 i' j' h1 (by omega) a' ha'
              omega
          · rcases Nat.le_total L t with z | z
            · rw [show Nat.max L t = t from Nat.max_eq_right z]
              exact .inr ⟨_, _, al⟩
            · rw [show Nat.max L t = L from Nat.max_eq_left z]
              exact t6
    · rintro σ1 F6 H6 e6 ⟨rfl, L, u5, u6, rfl, m6, t6⟩
      exact nk _ F6 H6 e6 ⟨rfl, L, _, _, _, rfl, fun i' j' a b => m6 i' j' a (by omega), t6⟩
  · rintro σ1 F5 H5 e5 ⟨rfl, L, u4, u5, u6, rfl, m5, t5⟩
    dsimp only
    refine r_ret ⟨_, rfl, kk2 L _ (isL_of Pp (fun i j a b => m5 i j a b) t5) e5⟩
end
end T3

namespace T3
open PySem PySem.Spec PyProof.Rows L2 Ly
section
variable {P : Program} {w : World} {K : PySem.W.Frag} {mg : Str → Option Value} {base : Heap}
/-! ### a ring made, gone round, its rounds -/
def spAround : Sp := fun vs H Q _ => ∃ (a : Addr) (t : Nat) (xs : List V) (ds : List PyData) (F : Hp), vs = [.ref a, .int t] ∧ Same F H ∧ (F a = some (.lst xs) ∨ F a = some (.tup xs)) ∧ Dds F ds xs ∧ wordys ds = true ∧ PyData.depthAll ds < 6 ∧ 0 < ds.length ∧ ds.length < 1000 ∧ 0 < t ∧ t < 1000 ∧
  ∀ (D : Addr) (ys : List V) F' H', Ex [] F H F' H' → F' D = some (.lst ys) → Wks F' ((List.replicate t (toWs ds)).flatten) ys → Q (.ref D) H'
theorem wks_rep {F : Hp} {ks : List W} {ys : List V} (w : Wks F ks ys) : ∀ t : Nat, Wks F ((List.replicate t ks).flatten) ((List.replicate t ys).flatten)
  | 0 => by simpa using Wks.nil
  | t + 1 => by
    rw [List.replicate_succ, List.replicate_succ, List.flatten_cons, List.flatten_cons]
    exact Wks.app w (wks_rep w t)
theorem ok_around (T : Top K mg) : Ok P w K mg base "around" 12 ["signs", "times"] spAround := by
  have G_checked_signs : Ok P w K mg base "checked_signs" 11 ["signs"] spSignsV := ok_signsV T
  have G_is_integer : Ok P w K mg base "is_integer" 1 ["thing"] spIsInteger := ok_is_integer T
  refine ok_of T.g_around T.F_around sc_around (fun _ _ _ _ _ _ us hl => match us, hl with | [_, _], _ => rfl) (fun vs H Q E h => ?_) (fun cdv A outer s H vs Q E hr h => ?_)
  · first | (obtain ⟨rfl, _⟩ := h; rfl) | (obtain ⟨_, rfl, _⟩ := h; rfl) | (obtain ⟨_, _, rfl, _⟩ := h; rfl) | (obtain ⟨_, _, _, rfl, _⟩ := h; rfl) | (obtain ⟨_, _, _, _, rfl, _⟩ := h; rfl) | (obtain ⟨_, _, _, _, _, rfl, _⟩ := h; rfl) | (obtain ⟨_, _, _, _, _, _, rfl, _⟩ := h; rfl) | (obtain ⟨_, _, _, _, _, _, _, rfl, _⟩ := h; rfl) | (obtain ⟨_, _, _, _, _, _, _, _, rfl, _⟩ := h; rfl) | (obtain ⟨_, _, _, _, _, _, _, _, _, rfl, _⟩ := h; rfl) | (obtain ⟨_, _, _, _, _, _, _, _, _, _, rfl, _⟩ := h; rfl) | (obtain ⟨_, _, _, _, _, _, _, _, _, _, _, rfl, _⟩ := h; rfl)
  obtain ⟨a, t, xs, ds, F, rfl, hF, ha, hw, ho, hd6, h0, h1, t0, t1, kk⟩ := h
  refine ⟨_, (pss_cons (ps_set (i := 2) sc_around.nd rfl (Or.inl rfl) (pe_ok G_checked_signs hr (pa_cons (pv 0) pa_nil)))
    (pss_cons (ps_if (PW.pt (pw_or (pt_not (pt_val (pe_ok G_is_integer hr (pa_cons (pv 1) pa_nil)))) (pw_or1 (pt_cmpR op_lt (pv 1) pe_int (nomark _))))) (pss_one ps_never) pss_nil)
    (pss_one (ps_ret (pe_op op_rep (pv 2) (pv 1)))))), ?_⟩
  have z1 := sizeLine_eq
  refine r_seq (r_asg (r_call (r_cons ⟨_, rfl, ?_⟩)))
  refine ⟨a, xs, ds, F, rfl, hF, ha, hw, ho, hd6, h0, by omega, fun q ys F1 H1 e1 hq fq hq1 wq => r_next ?_⟩
  have e2 := e1.frz hq hq1 fq
  have dq2 : (upd F1 q (.lst ys)) q = some (.lst ys) := upd_same
  have wq2 : Wks (upd F1 q (.lst ys)) (toWs ds) ys := wq.up (Same.upd fq)
  have lys := wq.len
  rw [toWs_len] at lys
  generalize upd F1 q (.lst ys) = F2 at e2 dq2 wq2
  dsimp only
  refine r_seq (r_ifS ⟨_, rfl, _, .int (t : Nat), F2, rfl, e2.fh, dd_int.mpr rfl, _, rfl, ?_⟩)
  refine iteF' (by simp [inty]) ⟨_, rfl, _, _, rfl, rfl, _, rfl, ?_⟩
  refine iteF' (by simp; omega) (r_next ?_)
  dsimp only
  have lt : ys.length * t ≤ sizeLine := by
    have h2 : ys.length * t ≤ 1000 * 1000 := Nat.mul_le_mul (by omega) (by omega)
    omega
  refine r_ret ⟨_, rfl, _, rfl, q, (t : Int), ys, rfl, rfl, e2.fh _ _ dq2, by omega, by omega, by simpa using lt, fun p hp => ?_⟩
  have et : ((t : Nat) : Int).toNat = t := by omega
  rw [et]
  exact kk p _ _ _ (e2.trans (Ex.newF e2.fh hp)) upd_same ((wks_rep wq2 t).up (Same.upd (Same.free e2.fh hp)))
/-- the roads of a ring, one way -/
def ringRs (n : Nat) : List Rd := (List.range n).map fun k => ⟨k, (k + 1) % n, .text "", .text ""⟩
theorem wokE : Wok (.text "") := ⟨rfl, by decide +kernel, Nat.zero_le _⟩
theorem ringRs_ok {n : Nat} (h0 : 0 < n) : ∀ r ∈ ringRs n, r.OkN n := fun r hr => by
  obtain ⟨k, hk, rfl⟩ := List.mem_map.mp hr
  have := List.mem_range.mp hk
  exact ⟨this, Nat.mod_lt _ h0, wokE, wokE⟩
theorem ringRs_len (n : Nat) : (ringRs n).length = n := by simp [ringRs]
theorem ringRs_get {n k : Nat} (h : k < n) : (ringRs n)[k]? = some ⟨k, (k + 1) % n, .text "", .text ""⟩ := by
  unfold ringRs
  rw [List.getElem?_map, List.getElem?_range h]
  rfl
def spRing (K : PySem.W.Frag) : Sp := fun vs H Q _ => ∃ (a : Addr) (xs : List V) (ds : List PyData) (F : Hp), vs = [.ref a] ∧ Same F H ∧ (F a = some (.lst xs) ∨ F a = some (.tup xs)) ∧ Dds F ds xs ∧ wordys ds = true ∧ PyData.depthAll ds < 6 ∧ (∀ k ∈ toWs ds, Wok k) ∧ 0 < ds.length ∧ ds.length < 1000 ∧
  ∀ y rs' F' H', rs'.Perm (ringRs ds.length) → Ex [] F H F' H' → NetF (He.ga K "Net") F' (toWs ds) rs' y → Q y H'
theorem ok_one_way_ring (T : Top K mg) : Ok P w K mg base "one_way_ring" 16 ["signs"] (spRing K) := by
  have M_init : OkM P w K mg base (He.ma K (He.ga K "Net") "__init__") 14 ["self", "signs", "roads"] (spInit K) := ok_init T
  have G_checked_signs : Ok P w K mg base "checked_signs" 11 ["signs"] spSignsV := ok_signsV T
  refine ok_of T.g_one_way_ring T.F_one_way_ring sc_one_way_ring (fun _ _ _ _ _ _ us hl => match us, hl with | [_], _ => rfl) (fun vs H Q E h => ?_) (fun cdv A outer s H vs Q E hr h => ?_)
  · first | (obtain ⟨rfl, _⟩ := h; rfl) | (obtain ⟨_, rfl, _⟩ := h; rfl) | (obtain ⟨_, _, rfl, _⟩ := h; rfl) | (obtain ⟨_, _, _, rfl, _⟩ := h; rfl) | (obtain ⟨_, _, _, _, rfl, _⟩ := h; rfl) | (obtain ⟨_, _, _, _, _, rfl, _⟩ := h; rfl) | (obtain ⟨_, _, _, _, _, _, rfl, _⟩ := h; rfl) | (obtain ⟨_, _, _, _, _, _, _, rfl, _⟩ := h; rfl) | (obtain ⟨_, _, _, _, _, _, _, _, rfl, _⟩ := h; rfl) | (obtain ⟨_, _, _, _, _, _, _, _, _, rfl, _⟩ := h; rfl) | (obtain ⟨_, _, _, _, _, _, _, _, _, _, rfl, _⟩ := h; rfl) | (obtain ⟨_, _, _, _, _, _, _, _, _, _, _, rfl, _⟩ := h; rfl)
  obtain ⟨a, xs, ds, F, rfl, hF, ha, hw, ho, hd6, hk, h0, h1, kk⟩ := h
  refine ⟨_, (pss_cons (ps_set (i := 1) sc_one_way_ring.nd rfl (Or.inr rfl) (pe_ok G_checked_signs hr (pa_cons (pv 0) pa_nil)))
    (pss_one (ps_ret (pe_mkO T.mk_Net M_init hr T.g_Net (pa_cons (pv 1) (pa_cons (pe_lc (own := [("place", 2)]) (g := (gName 2)) (tt := tYes) (te := (tTup (tCons (tVar 2) (tCons (tOp RMod (tCB RInt (tCons (tOp RAdd (tVar 2) (tC (.int 1))) tNil)) (tCB (RLen K) (tCons (tVar 1) tNil))) (tCons (tC (.str "")) (tCons (tC (.str "")) tNil)))))) rfl sc_one_way_ring.nd (pi_range1 rfl T.b_range (pa_cons (pe_callB call_len_seq rfl T.b_len (by decide +kernel) (pa_cons (pv 1) pa_nil)) pa_nil)) (blkOk_by (own := [("place", 2)]) (N := N_one_way_ring) (sc := defScope s_one_way_ring) (by decide +kernel)) (fun _ _ _ _ _ => (pg_name (i := 2) sc_one_way_ring.nd rfl (Or.inl rfl))) (fun _ _ _ _ _ => pts_nil) (fun _ _ _ _ _ => (pe_tup (pa_cons (pv 2) (pa_cons (pe_op op_modN (pe_callTy call_int1 rfl T.b_int (by decide +kernel) (pa_cons (pe_op op_add (pv 2) pe_int) pa_nil)) (pe_callB call_len_seq rfl T.b_len (by decide +kernel) (pa_cons (pv 1) pa_nil))) (pa_cons pe_str (pa_cons pe_str pa_nil))))))) pa_nil)))))), ?_⟩
  have z1 := sizeLine_eq
  refine r_seq (r_asg (r_call (r_cons ⟨_, rfl, ?_⟩)))
  refine ⟨a, xs, ds, F, rfl, hF, ha, hw, ho, hd6, h0, by omega, fun q ys F1 H1 e1 hq fq hq1 wq => r_next ?_⟩
  have e2 := e1.frz hq hq1 fq
  have dq2 : (upd F1 q (.lst ys)) q = some (.lst ys) := upd_same
  have wq2 : Wks (upd F1 q (.lst ys)) (toWs ds) ys := wq.up (Same.upd fq)
  have lys := wq.len
  have lw := toWs_len ds
  generalize upd F1 q (.lst ys) = F2 at e2 dq2 wq2
  generalize toWs ds = ks at hk kk lys lw wq2 wq
  dsimp only
  refine r_ret ⟨_, rfl, ?_⟩
  refine lcg_rng (n := ds.length) [] (fun R h => r_cons (r_cb (r_cons ⟨_, rfl, q, ys, rfl, .inl (SqL.of (e2.fh _ _ dq2)), by rw [lys, lw]; exact h⟩))) e2.fh (by simp) (by omega) (fun k acc F => Rds F ((ringRs ds.length).take k) acc) (fun _ _ _ => True) (fun _ _ _ _ h q => Wks.up h q) (fun _ _ _ _ _ _ _ _ _ => trivial) (by simp [Rds]; exact Wks.nil) trivial ?_ ?_
  · intro k acc F' H' Kk Nk hk2 e p _ _ k1 _
    have m0 : ((ys.length : Nat) : Int) ≠ 0 := by omega
    have em : (((k : Nat) : Int) + 1).fmod ((ys.length : Nat) : Int) = (((k + 1) % ds.length : Nat) : Int) := by
      rw [Int.fmod_eq_emod_of_nonneg _ (by omega), lys, lw, Int.natCast_emod, Int.natCast_add]
      rfl
    refine ⟨rfl, _, rfl, _, rfl, _, _, rfl, rfl, .inl ⟨_, rfl, _, rfl, q, ys, rfl, .inl (SqL.of (e.fh _ _ (e.ff _ _ dq2))), _, _, rfl, rfl, m0, by show 4 ≤ sizeLine; omega, fun p5 hp5 => ?_⟩⟩
    have f5 : F' p5 = none := Same.free e.fh hp5
    dsimp only
    rw [em]
    have wn : Wk (upd F' p5 (.tup [.int (k : Nat), .int ((k + 1) % ds.length : Nat), .str "", .str ""])) (Rd.mk k ((k + 1) % ds.length) (.text "") (.text "")).w (.ref p5) := Rd.wk_new f5 (wk_text.mpr rfl) (wk_text.mpr rfl)
    refine k1 _ _ _ (Ex.newF e.fh hp5) ?_ trivial
    rw [List.take_add_one, ringRs_get hk2]
    exact Rds.app (Wks.up (Same.upd f5) p) wn
  · intro D acc F' H' e hD fD hd' p _ _
    rw [List.take_of_length_le (by rw [ringRs_len]; exact Nat.le_refl _)] at p
    have ef := e.frz hD hd' fD
    refine mk_net (rs := ringRs ds.length) ef.fh (ef.ff _ _ dq2) (wq2.up ef.ff) hk (by omega) (by omega) upd_same (Wks.up (Same.upd fD) p) (by rw [lw]; exact ringRs_ok h0) (by rw [ringRs_len]; omega) fun y rs' F9 H9 pm e9 nn => kk _ rs' F9 H9 pm (e2.trans (ef.trans e9)) nn
def spNeeded (K : PySem.W.Frag) : Sp := fun vs H Q _ => ∃ (x : V) (sg : List W) (rs : List Rd) (F : Hp), vs = [x] ∧ Same F H ∧ NetF (He.ga K "Net") F sg rs x ∧
  ∀ H', Ex [] F H F H' → Q (.int (rkCnt rs sg.length sg.length (rk0 sg) : Nat)) H'
theorem ok_rounds_needed (T : Top K mg) : Ok P w K mg base "rounds_needed" 18 ["net"] (spNeeded K) := by
  have G_ranks_behind : Ok P w K mg base "ranks_behind" 17 ["net", "rounds"] (spBehind K) := ok_ranks_behind T
  have M_len : OkM P w K mg base (He.ma K (He.ga K "Net") "__len__") 1 ["self"] (spNetLen K) := ok_net_len T
  refine ok_of T.g_rounds_needed T.F_rounds_needed sc_rounds_needed (fun _ _ _ _ _ _ us hl => match us, hl with | [_], _ => rfl) (fun vs H Q E h => ?_) (fun cdv A outer s H vs Q E hr h => ?_)
  · first | (obtain ⟨rfl, _⟩ := h; rfl) | (obtain ⟨_, rfl, _⟩ := h; rfl) | (obtain ⟨_, _, rfl, _⟩ := h; rfl) | (obtain ⟨_, _, _, rfl, _⟩ := h; rfl) | (obtain ⟨_, _, _, _, rfl, _⟩ := h; rfl) | (obtain ⟨_, _, _, _, _, rfl, _⟩ := h; rfl) | (obtain ⟨_, _, _, _, _, _, rfl, _⟩ := h; rfl) | (obtain ⟨_, _, _, _, _, _, _, rfl, _⟩ := h; rfl) | (obtain ⟨_, _, _, _, _, _, _, _, rfl, _⟩ := h; rfl) | (obtain ⟨_, _, _, _, _, _, _, _, _, rfl, _⟩ := h; rfl) | (obtain ⟨_, _, _, _, _, _, _, _, _, _, rfl, _⟩ := h; rfl) | (obtain ⟨_, _, _, _, _, _, _, _, _, _, _, rfl, _⟩ := h; rfl)
  obtain ⟨x, sg, rs, F, rfl, hF, n, kk⟩ := h
  refine ⟨_, (pss_one (ps_ret (pe_ix ix_tup (pe_ok G_ranks_behind hr (pa_cons (pv 0) (pa_cons (pe_callB (call_lenO T.me_Net_len M_len hr) rfl T.b_len (by decide +kernel) (pa_cons (pv 0) pa_nil)) pa_nil))) pe_int (fun _ _ => rfl)))), ?_⟩
  obtain ⟨a, dx, l1, l2, l3, l4, svs, rvs, rfl, h1, _⟩ := id n.ex
  have m1 := n.sml
  have z1 := sizeLine_eq
  refine r_ret (r_op (r_call (r_cons ⟨_, rfl, r_cons (r_cb (r_cons ⟨_, rfl, a, dx, _, rfl, hF _ _ h1, a, sg, rs, F, rfl, hF, n, sg.length, rfl, by omega, ?_⟩))⟩)))
  refine ⟨.ref a, sg.length, sg, rs, F, rfl, hF, n, fun D q F' H' e hD dD hq0 dq => ?_⟩
  exact ⟨D, _, 1, _, rfl, rfl, SqT.of (e.fh _ _ dD), rfl, kk H' e.drop⟩
end
end T3

namespace T3
open PySem PySem.Spec PyProof.Rows L2 Ly
section
variable {P : Program} {w : World} {K : PySem.W.Frag} {mg : Str → Option Value} {base : Heap}
/-! ### the law's own period -/
def divs (n k : Nat) : List Nat := ((List.range k).map (· + 1)).filter fun d => decide (n % d = 0)
theorem divs_snoc (n k : Nat) : divs n (k + 1) = if n % (k + 1) = 0 then divs n k ++ [k + 1] else divs n k := by
  unfold divs
  rw [List.range_succ, List.map_append, List.filter_append]
  by_cases h : n % (k + 1) = 0 <;> simp [h]
theorem divs_mem {n k d : Nat} : d ∈ divs n k ↔ 0 < d ∧ d ≤ k ∧ d ∣ n := by
  unfold divs
  rw [List.mem_filter, List.mem_map]
  constructor
  · rintro ⟨⟨a, ha, rfl⟩, h⟩
    have := List.mem_range.mp ha
    exact ⟨by omega, by omega, Nat.dvd_of_mod_eq_zero (of_decide_eq_true h)⟩
  · rintro ⟨h1, h2, h3⟩
    exact ⟨⟨d - 1, List.mem_range.mpr (by omega), by omega⟩, decide_eq_true (Nat.mod_eq_zero_of_dvd h3)⟩
theorem divs_pw (n k : Nat) : (divs n k).Pairwise (· < ·) := by
  refine List.Pairwise.filter _ ?_
  rw [List.pairwise_map]
  exact List.pairwise_lt_range.imp fun h => by omega
open Classical in
theorem first_per {ks : List W} (h0 : 0 < ks.length) : ∃ (p : Nat) (r : List Nat), (divs ks.length ks.length).filter (fun d : Nat => decide (Per ks (d : Int))) = p :: r ∧ IsPer ks p := by
  have hm : ks.length ∈ (divs ks.length ks.length).filter (fun d : Nat => decide (Per ks (d : Int))) := List.mem_filter.mpr ⟨divs_mem.mpr ⟨h0, Nat.le_refl _, Nat.dvd_refl _⟩, decide_eq_true per_len⟩
  have hpw : ((divs ks.length ks.length).filter (fun d : Nat => decide (Per ks (d : Int)))).Pairwise (· < ·) := List.Pairwise.filter _ (divs_pw _ _)
  cases e : (divs ks.length ks.length).filter (fun d : Nat => decide (Per ks (d : Int))) with
  | nil => rw [e] at hm; simp at hm
  | cons p r =>
    have hp : p ∈ (divs ks.length ks.length).filter (fun d : Nat => decide (Per ks (d : Int))) := by rw [e]; simp
    obtain ⟨q1, q2⟩ := List.mem_filter.mp hp
    obtain ⟨a, b, c⟩ := divs_mem.mp q1
    refine ⟨p, r, rfl, a, c, of_decide_eq_true q2, fun d d0 d1 d2 d3 => ?_⟩
    have hd : d ∈ p :: r := by
      rw [← e]
      exact List.mem_filter.mpr ⟨divs_mem.mpr ⟨d0, Nat.le_of_dvd h0 d2, d2⟩, decide_eq_true d3⟩
    rw [e] at hpw
    rcases List.mem_cons.mp hd with z | z
    · omega
    · have := (List.pairwise_cons.mp hpw).1 d z
      omega
def spLPeriod : Sp := fun vs H Q _ => ∃ (ra : Addr) (xs : List V) (ks : List W) (F : Hp), vs = [.ref ra] ∧ Same F H ∧ F ra = some (.lst xs) ∧ Wks F ks xs ∧ (∀ k ∈ ks, kWok k) ∧ 0 < ks.length ∧ ks.length < 100000 ∧
  ∀ (p : Nat) H', IsPer ks p → Ex [] F H F H' → Q (.int p) H'
open Classical in
theorem ok_law_period (T : Top K mg) : Ok P w K mg base "_law_r_period" 1 ["_law_row"] spLPeriod := by
  refine ok_of T.g__law_r_period T.F_law_r_period sc_law_r_period (fun _ _ _ _ _ _ us hl => match us, hl with | [_], _ => rfl) (fun vs H Q E h => ?_) (fun cdv A outer s H vs Q E hr h => ?_)
  · first | (obtain ⟨rfl, _⟩ := h; rfl) | (obtain ⟨_, rfl, _⟩ := h; rfl) | (obtain ⟨_, _, rfl, _⟩ := h; rfl) | (obtain ⟨_, _, _, rfl, _⟩ := h; rfl) | (obtain ⟨_, _, _, _, rfl, _⟩ := h; rfl) | (obtain ⟨_, _, _, _, _, rfl, _⟩ := h; rfl) | (obtain ⟨_, _, _, _, _, _, rfl, _⟩ := h; rfl) | (obtain ⟨_, _, _, _, _, _, _, rfl, _⟩ := h; rfl) | (obtain ⟨_, _, _, _, _, _, _, _, rfl, _⟩ := h; rfl) | (obtain ⟨_, _, _, _, _, _, _, _, _, rfl, _⟩ := h; rfl) | (obtain ⟨_, _, _, _, _, _, _, _, _, _, rfl, _⟩ := h; rfl) | (obtain ⟨_, _, _, _, _, _, _, _, _, _, _, rfl, _⟩ := h; rfl)
  obtain ⟨ra, xs, ks, F, rfl, hF, ha, hw, hk, h0, h1, kk⟩ := h
  refine ⟨_, (pss_cons (ps_set (i := 1) sc_law_r_period.nd rfl (Or.inr rfl) (pe_callB call_len_seq rfl T.b_len (by decide +kernel) (pa_cons (pv 0) pa_nil)))
    (pss_cons (ps_setLc (i := 2) (own := [("_law_step", 3)]) (g := (gName 3)) (tt := (tTest (tOp rEq (tOp RMod (tVar 1) (tVar 3)) (tC (.int 0))))) (te := (tVar 3)) rfl sc_law_r_period.nd rfl rfl (sw_true rfl rfl rfl (by decide +kernel)) (pi_range2 rfl T.b_range (pa_cons pe_int (pa_cons (pe_op op_add (pv 1) pe_int) pa_nil))) (blkOk_by (own := [("_law_step", 3)]) (N := N_law_r_period) (sc := defScope s_law_r_period) (by decide +kernel)) (fun _ _ _ _ _ => (pg_name (i := 3) sc_law_r_period.nd rfl (Or.inl rfl))) (fun _ _ _ _ _ => (pts_one (pt_cmpR op_eq (pe_op op_modN (pv 1) (pv 3)) pe_int (nomark _)))) (fun _ _ _ _ _ => (pv 3)))
    (pss_one (ps_ret (pe_ix ix_list (pe_lc (own := [("_law_step", 3)]) (g := (gName 3)) (tt := (tB (tCB (rAll K) (tCons (tLc (iRng1 (tCons (tVar 1) tNil)) (gName 4) tYes (tOp (rEqD K) (tOp (rIxL K) (tVar 0) (tVar 4)) (tOp (rIxL K) (tVar 0) (tOp RMod (tCB RInt (tCons (tOp RAdd (tVar 4) (tVar 3)) tNil)) (tVar 1)))) (([("_law_k", 4)] : List (Str × Nat)).map (·.2))) tNil)))) (te := (tVar 3)) rfl sc_law_r_period.nd (pi_list (pv 2)) (blkOk_by (own := [("_law_step", 3)]) (N := N_law_r_period) (sc := defScope s_law_r_period) (by decide +kernel)) (fun _ _ _ _ _ => (pg_name (i := 3) sc_law_r_period.nd rfl (Or.inr rfl))) (fun _ _ _ _ _ => (pts_one (pt_val (pe_callB (cr_all rfl) (by rfl) T.b_all (by decide +kernel) (pa_cons (pe_lc (own := [("_law_k", 4)]) (g := (gName 4)) (tt := tYes) (te := (tOp (rEqD K) (tOp (rIxL K) (tVar 0) (tVar 4)) (tOp (rIxL K) (tVar 0) (tOp RMod (tCB RInt (tCons (tOp RAdd (tVar 4) (tVar 3)) tNil)) (tVar 1))))) rfl sc_law_r_period.nd (pi_range1 (by rfl) T.b_range (pa_cons (pv 1) pa_nil)) (blkOk_by (own := [("_law_k", 4)]) (by kernel_rfl)) (fun _ _ _ _ _ => (pg_name (i := 4) sc_law_r_period.nd rfl (Or.inl rfl))) (fun _ _ _ _ _ => pts_nil) (fun _ _ _ _ _ => (pe_cmpR (op_eqD (hu64 hr)) (pe_ix ix_list (pv 0) (pv 4) (fun _ _ => rfl)) (pe_ix ix_list (pv 0) (pe_op op_modN (pe_callTy call_int1 (by rfl) T.b_int (by decide +kernel) (pa_cons (pe_op op_add (pv 4) (pv 3)) pa_nil)) (pv 1)) (fun _ _ => rfl)) (nomark _)))) pa_nil))))) (fun _ _ _ _ _ => (pv 3))) pe_int (fun _ _ => rfl)))))), ?_⟩
  have z1 := sizeLine_eq
  have l1 := hw.len
  refine r_seq (r_asg (r_cb (r_cons ⟨_, rfl, ra, xs, rfl, .inl (SqL.of (hF _ _ ha)), ?_⟩)))
  refine r_next ?_
  rw [l1]
  dsimp only
  refine r_seq (r_asg (lcg_rng2 (lo := 1) (hi := ks.length + 1) [] (fun R h => r_cons (r_c (r_cons ⟨_, rfl, _, _, rfl, rfl, h⟩))) (by omega) (by omega) hF (by simp) (fun k acc _ => acc = intsV (divs ks.length k)) (fun _ _ _ => True) (fun _ _ _ _ _ h => h) (fun _ _ _ _ _ _ _ _ _ => trivial) rfl trivial ?_ ?_))
  · intro k acc F' H' Kk Nk hk2 e p _ _ k1 k2
    have ev : (((ks.length : Nat) : Int).fmod ((1 + k : Nat) : Int) = 0) ↔ ks.length % (k + 1) = 0 := by
      rw [Int.fmod_eq_emod_of_nonneg _ (by omega), ← Int.natCast_emod, Nat.add_comm 1 k]
      omega
    refine ⟨rfl, _, rfl, _, rfl, _, _, rfl, rfl, by omega, rfl, _, rfl, ite2 (fun hc => ⟨_, rfl, k1 _ F' H' (Ex.refl e.fh) ?_ trivial⟩) (fun hc => k2 F' H' (Ex.refl e.fh) ?_ trivial)⟩
    · have := ev.mp (V.int.inj (of_decide_eq_true hc))
      rw [p, divs_snoc, if_pos this, Nat.add_comm 1 k]
      simp [intsV]
    · rw [p, divs_snoc, if_neg fun z => hc (decide_eq_true (congrArg V.int (ev.mpr z)))]
  · intro D acc F1 H1 e1 hD fD dD p _ _
    rw [show ks.length + 1 - 1 = ks.length by omega] at p
    have e2 := e1.frz hD dD fD
    have dD2 : (upd F1 D (.lst acc)) D = some (.lst acc) := upd_same
    generalize upd F1 D (.lst acc) = F2 at e2 dD2
    refine r_next ?_
    dsimp only
    have ll : (divs ks.length ks.length).length ≤ ks.length := by
      have h2 : (divs ks.length ks.length).length ≤ ((List.range ks.length).map (· + 1)).length := List.length_filter_le _ _
      simpa using h2
    have lacc : acc.length ≤ ks.length := by rw [p, intsV_len]; exact ll
    have ha2 := e2.ff _ _ ha
    have hw2 := hw.up e2.ff
    refine r_ret ?_
    refine lcg_list [] (fun R h => ⟨_, rfl, h⟩) dD2 e2.fh (by simp) (by omega) (fun k acc _ => acc = intsV (((divs ks.length ks.length).take k).filter fun d : Nat => decide (Per ks (d : Int)))) (fun _ _ _ => True) (fun _ _ _ _ _ h => h) (fun _ _ _ _ _ _ _ _ _ => trivial) rfl trivial ?_ ?_
    · intro i y acc3 F3 H3 Kk Nk hi hy e3 p3 _ _ k1 k2
      rw [p, intsV_get] at hy
      cases hd : (divs ks.length ks.length)[i]? with
      | none => rw [hd] at hy; cases hy
      | some d =>
        rw [hd] at hy
        obtain rfl := Option.some.inj hy
        refine ⟨rfl, ?_⟩
        show tCB (rAll K) (tCons (tLc _ _ _ _ _) tNil) _ H3 _
        have ha3 := e3.ff _ _ ha2
        have hw3 := hw2.up e3.ff
        refine r_cb (r_cons (lcg_rng (n := ks.length) [] (fun R h => ⟨_, rfl, h⟩) e3.fh (by simp) (by omega) (fun k acc _ => acc = ((List.range k).map fun j : Nat => decide (cyc ks (j : Int) = cyc ks ((j : Int) + d))).map V.bl) (fun _ _ _ => True) (fun _ _ _ _ _ h => h) (fun _ _ _ _ _ _ _ _ _ => trivial) rfl trivial ?_ ?_))
        · intro k acc4 F4 H4 Kk4 Nk4 hk4 e4 p4 _ _ k14 _
          obtain ⟨v1, hv1, w1⟩ := (hw3.up e4.ff).at (cyc_nat hk4)
          obtain ⟨v2, g2, w2⟩ := ring_at (hw3.up e4.ff) h0 ((k : Int) + d)
          have sq := SqL.of (K := K) (e4.fh _ _ (e4.ff _ _ ha3))
          have m0 : ((ks.length : Nat) : Int) ≠ 0 := by omega
          refine ⟨rfl, _, rfl, _, rfl, ra, xs, _, _, rfl, rfl, sq, atI_nat hv1, _, rfl, _, rfl, _, rfl, _, _, rfl, rfl, .inl ⟨_, rfl, _, rfl, _, _, rfl, rfl, m0, ra, xs, _, _, rfl, rfl, sq, g2, _, _, wk_dp e4.fh w1, wk_dp e4.fh w2, (cyc_ok h0 hk _).shaped, (cyc_ok h0 hk _).shaped, ?_⟩⟩
          rw [eqv_dec]
          refine k14 _ F4 H4 (Ex.refl e4.fh) ?_ trivial
          rw [p4, List.range_succ]
          simp
        · intro D4 acc4 F4 H4 e4 hD4 fD4 dD4 p4 _ _
          refine ⟨D4, _, rfl, SqL.of (by rw [dD4, p4]), _, rfl, ?_⟩
          have eb : (((List.range ks.length).map fun j : Nat => decide (cyc ks (j : Int) = cyc ks ((j : Int) + d))).all id) = decide (Per ks (d : Int)) := by
            rw [Bool.eq_iff_iff]
            simp only [List.all_eq_true, List.mem_map, List.mem_range, id_eq, decide_eq_true_eq]
            constructor
            · intro h
              refine per_lt h0 fun k hk => ?_
              exact (of_decide_eq_true (h _ ⟨k, hk, rfl⟩)).symm
            · rintro h x ⟨k, hk, rfl⟩
              exact decide_eq_true (h k).symm
          rw [eb]
          have et : ((divs ks.length ks.length).take (i + 1)).filter (fun d : Nat => decide (Per ks (d : Int))) = if Per ks (d : Int) then ((divs ks.length ks.length).take i).filter (fun d : Nat => decide (Per ks (d : Int))) ++ [d] else ((divs ks.length ks.length).take i).filter (fun d : Nat => decide (Per ks (d : Int))) := by
            rw [List.take_add_one, hd, List.filter_append]
            by_cases hP : Per ks (d : Int) <;> simp [hP]
          refine ite2 (fun hc => ⟨_, rfl, k1 _ F4 H4 e4 ?_ trivial⟩) (fun hc => k2 F4 H4 e4 ?_ trivial)
          · rw [p3, et, if_pos (of_decide_eq_true hc)]
            simp [intsV]
          · rw [p3, et, if_neg (by simpa using hc)]
    · intro D5 acc5 F5 H5 e5 hD5 fD5 dD5 p5 _ _
      rw [List.take_of_length_le (by rw [p, intsV_len]; exact Nat.le_refl _)] at p5
      obtain ⟨q, r, eq, hq⟩ := first_per h0
      rw [eq] at p5
      refine ⟨D5, _, 0, .int q, rfl, rfl, SqL.of dD5, by rw [p5]; exact atI_nat (j := 0) (by simp [intsV]), kk q H5 hq ?_⟩
      exact (e2.trans e5).drop
end
end T3

namespace T3
open PySem PySem.Spec PyProof.Rows L2 Ly
section
variable {P : Program} {w : World} {K : PySem.W.Frag} {mg : Str → Option Value} {base : Heap}
/-! ### the numbers of words, as they first stand -/
def ordnW (ks : List W) : List Nat := ks.map fun k => (eOnce ks).idxOf k
theorem ordnW_len (ks : List W) : (ordnW ks).length = ks.length := by simp [ordnW]
def zipW (l : List W) : List (W × V) := l.zipIdx.map fun e => (e.1, V.int (e.2 : Nat))
theorem zipW_len (l : List W) : (zipW l).length = l.length := by simp [zipW]
theorem zipW_snoc (l : List W) (k : W) : zipW (l ++ [k]) = zipW l ++ [(k, V.int (l.length : Nat))] := by
  unfold zipW
  rw [List.zipIdx_append]
  simp
theorem valW_none {es : List (W × V)} {k : W} (h : k ∉ es.map (·.1)) : valW es k = none := by
  unfold valW
  rw [List.find?_eq_none.mpr fun e he => ?_]
  · rfl
  · simp only [decide_eq_true_eq]
    exact fun z => h (List.mem_map.mpr ⟨e, he, z⟩)
theorem valW_app {es : List (W × V)} {k j : W} {v : V} : valW (es ++ [(j, v)]) k = (valW es k).or (if j = k then some v else none) := by
  unfold valW
  rw [List.find?_append]
  cases h : es.find? fun e => decide (e.1 = k) with
  | some e => simp
  | none => by_cases z : j = k <;> simp [z]
theorem valW_zip : ∀ (n : Nat) (l : List W), l.length = n → l.Nodup → ∀ k ∈ l, valW (zipW l) k = some (V.int (l.idxOf k : Nat)) := by
  intro n
  induction n with
  | zero =>
    intro l hl _ k hk
    have : l = [] := List.length_eq_zero_iff.mp hl
    subst this
    simp at hk
  | succ n ih =>
    intro l hl nd k hk
    obtain ⟨r, z, rfl⟩ : ∃ r z, l = r ++ [z] := ⟨l.dropLast, l.getLast (by intro q; rw [q] at hl; simp at hl), (List.dropLast_concat_getLast _).symm⟩
    have nd2 := List.nodup_append.mp nd
    have lr : r.length = n := by simpa using hl
    rw [zipW_snoc, valW_app]
    rcases List.mem_append.mp hk with h | h
    · rw [ih r lr nd2.1 k h]
      have : (r ++ [z]).idxOf k = r.idxOf k := by rw [List.idxOf_append, if_pos h]
      rw [this]
      rfl
    · have hz : k = z := List.mem_singleton.mp h
      subst hz
      have hn : k ∉ r := fun q => nd2.2.2 k q k (by simp) rfl
      have e1 : k ∉ (zipW r).map (·.1) := by
        intro q
        obtain ⟨e, he, rfl⟩ := List.mem_map.mp q
        obtain ⟨f, hf, rfl⟩ := List.mem_map.mp he
        exact hn (List.mem_of_getElem? (List.mem_zipIdx_iff_getElem?.mp hf))
      rw [valW_none e1, if_pos rfl]
      have : (r ++ [k]).idxOf k = r.length := by rw [List.idxOf_append, if_neg hn]; simp
      rw [this]
      rfl
theorem zipW_keys (l : List W) : (zipW l).map (·.1) = l := by
  unfold zipW
  rw [List.map_map]
  apply List.ext_getElem?
  intro i
  rw [List.getElem?_map, List.getElem?_zipIdx]
  cases l[i]? <;> rfl
theorem eOnce_takeW {ks : List W} {i : Nat} {k : W} (h : ks[i]? = some k) : eOnce (ks.take (i + 1)) = if k ∈ eOnce (ks.take i) then eOnce (ks.take i) else eOnce (ks.take i) ++ [k] := eOnce_take h
def spOrdnW : Sp := fun vs H Q _ => ∃ (a : Addr) (xs : List V) (ks : List W) (F : Hp), vs = [.ref a] ∧ Same F H ∧ F a = some (.lst xs) ∧ Wks F ks xs ∧ (∀ k ∈ ks, k.depth ≤ 8) ∧ ks.length < 100000 ∧
  ∀ D F' H', Ex [] F H F' H' → H D = none → F' D = some (.lst (intsV (ordnW ks))) → Q (.ref D) H'
theorem ok_law_ordnW (T : Top K mg) : Ok P w K mg base "_law_n_numbers" 1 ["_law_lots"] spOrdnW := by
  refine ok_of T.g__law_n_numbers T.F_law_n_numbers sc_law_n_numbers (fun _ _ _ _ _ _ us hl => match us, hl with | [_], _ => rfl) (fun vs H Q E h => ?_) (fun cdv A outer s H vs Q E hr h => ?_)
  · first | (obtain ⟨rfl, _⟩ := h; rfl) | (obtain ⟨_, rfl, _⟩ := h; rfl) | (obtain ⟨_, _, rfl, _⟩ := h; rfl) | (obtain ⟨_, _, _, rfl, _⟩ := h; rfl) | (obtain ⟨_, _, _, _, rfl, _⟩ := h; rfl) | (obtain ⟨_, _, _, _, _, rfl, _⟩ := h; rfl) | (obtain ⟨_, _, _, _, _, _, rfl, _⟩ := h; rfl) | (obtain ⟨_, _, _, _, _, _, _, rfl, _⟩ := h; rfl) | (obtain ⟨_, _, _, _, _, _, _, _, rfl, _⟩ := h; rfl) | (obtain ⟨_, _, _, _, _, _, _, _, _, rfl, _⟩ := h; rfl) | (obtain ⟨_, _, _, _, _, _, _, _, _, _, rfl, _⟩ := h; rfl) | (obtain ⟨_, _, _, _, _, _, _, _, _, _, _, rfl, _⟩ := h; rfl)
  obtain ⟨a, xs, ks, F, rfl, hF, ha, hw, hk, hl, kk⟩ := h
  refine ⟨_, (pss_cons (ps_set (i := 1) sc_law_n_numbers.nd rfl (Or.inr rfl) pe_mnew)
    (pss_cons (ps_for PassesOwn.never rfl (pi_list (pv 0)) (pg_name (i := 2) sc_law_n_numbers.nd rfl (Or.inl rfl)) (pss_one (ps_expr (pe_msetd (hu64 hr) (pv 1) (pv 2) (pe_callB call_lenM rfl T.b_len (by decide +kernel) (pa_cons (pv 1) pa_nil)) ⟨rfl, rfl, rfl, rfl⟩))))
    (pss_one (ps_ret (pe_lc (own := [("_law_lot", 2)]) (g := (gName 2)) (tt := tYes) (te := (tMGet w (tVar 1) (tVar 2))) rfl sc_law_n_numbers.nd (pi_list (pv 0)) (blkOk_by (own := [("_law_lot", 2)]) (N := N_law_n_numbers) (sc := defScope s_law_n_numbers) (by decide +kernel)) (fun _ _ _ _ _ => (pg_name (i := 2) sc_law_n_numbers.nd rfl (Or.inl rfl))) (fun _ _ _ _ _ => pts_nil) (fun _ _ _ _ _ => (pe_mget (hu64 hr) (pv 1) (pv 2)))))))), ?_⟩
  have z1 := sizeLine_eq
  have l1 := hw.len
  refine r_seq (r_asg fun D hD => r_next ?_)
  have fD : F D = none := Same.free hF hD
  have e0 : Ex [] F H F (upd H D (DVO w D [])) := Ex.new hF hD
  have d0 : (upd H D (DVO w D [])) D = some (DVO w D []) := upd_same
  dsimp only
  show tSeq _ _ _ _ (upd H D (DVO w D []))
  generalize upd H D (DVO w D []) = H1 at e0 d0
  refine r_seq (forg_list [D] (fun R h => ⟨_, rfl, h⟩) ha e0.fh (fun i σ1 F1 H1 => F1 = F ∧ (∃ u, σ1 = [some (.ref a), some (.ref D), u]) ∧ ∃ ws, H1 D = some (DVO w D ws) ∧ Paired (mdRel F) (zipW (eOnce (ks.take i))) ws) ⟨rfl, ⟨_, rfl⟩, [], d0, by simpa [eOnce, zipW] using Paired.nil⟩ ?_ ?_)
  · rintro i x σ1 F2 H2 Nk hi hx e ⟨rfl, ⟨u, rfl⟩, ws, d2, p2⟩ nk
    obtain ⟨k, hki, wk⟩ := hw.get hx
    have le := eOnce_le (ks.take i)
    rw [List.length_take] at le
    have lz := zipW_len (eOnce (ks.take i))
    have dk := hk k (List.mem_of_getElem? hki)
    refine r_drop ⟨_, rfl, D, rfl, ⟨ws, d2⟩, _, rfl, _, rfl, D, zipW (eOnce (ks.take i)), rfl, ⟨ws, d2, mdRel.up e.fh p2⟩, F2, zipW (eOnce (ks.take i)), ws, k, e.fh, d2, p2, wk, dk, by omega, fun v hv => ?_, fun hn ws2 p3 => ?_⟩
    · refine nk _ F2 H2 (Ex.refl e.fh) ⟨rfl, ⟨_, rfl⟩, ws, d2, ?_⟩
      have hm : k ∈ eOnce (ks.take i) := by
        rcases Classical.em (k ∈ eOnce (ks.take i)) with z | z
        · exact z
        · rw [valW_none (by rw [zipW_keys]; exact z)] at hv
          cases hv
      rw [eOnce_takeW hki, if_pos hm]
      exact p2
    · have hm : k ∉ eOnce (ks.take i) := fun z => by
        rw [valW_zip _ _ rfl (eOnce_nodup _) k z] at hn
        cases hn
      refine nk _ F2 _ (Ex.put e.fh fD (by simp)) ⟨rfl, ⟨_, rfl⟩, ws2, upd_same, ?_⟩
      rw [eOnce_takeW hki, if_neg hm, zipW_snoc]
      rw [lz] at p3
      exact p3
  · rintro σ1 F2 H2 e ⟨rfl, ⟨u, rfl⟩, ws, d2, p2⟩
    rw [List.take_of_length_le (by omega)] at p2
    have E2 : Ex [] F2 H F2 H2 := e0.newly e (fun p hp => by rw [List.mem_singleton.mp hp]; exact hD)
    have E3 := E2.frz hD d2 fD
    have d3 : (upd F2 D (DVO w D ws)) D = some (DVO w D ws) := upd_same
    have p3 : Paired (mdRel (upd F2 D (DVO w D ws))) (zipW (eOnce ks)) ws := mdRel.up (Same.upd fD) p2
    generalize upd F2 D (DVO w D ws) = F3 at E3 d3 p3
    refine r_next ?_
    dsimp only
    refine r_ret (lcg_list [] (fun R h => ⟨_, rfl, h⟩) (E3.ff _ _ ha) E3.fh (by simp) (by omega) (fun k acc _ => acc = intsV ((ordnW ks).take k)) (fun _ _ _ => True) (fun _ _ _ _ _ q => q) (fun _ _ _ _ _ _ _ _ _ => trivial) rfl trivial ?_ ?_)
    · intro i y acc F' H' Kk Nk hi hy e5 p _ _ k1 _
      obtain ⟨k, hki, wk⟩ := hw.get hy
      have hm := (eOnce_mem ks k).mpr (List.mem_of_getElem? hki)
      refine ⟨rfl, _, rfl, _, rfl, D, k, zipW (eOnce ks), V.int ((eOnce ks).idxOf k : Nat), rfl, ⟨ws, e5.fh _ _ (e5.ff _ _ d3), mdRel.up (Same.trans e5.ff e5.fh) p3⟩, (wk.up E3.ff).up (Same.trans e5.ff e5.fh), hk k (List.mem_of_getElem? hki), valW_zip _ _ rfl (eOnce_nodup _) k hm, ?_⟩
      refine k1 _ F' H' (Ex.refl e5.fh) ?_ trivial
      rw [p, List.take_add_one]
      simp [ordnW, intsV, hki]
    · intro D2 acc F' H' e5 hD2 fD2 hd2 p _ _
      rw [List.take_of_length_le (by rw [ordnW_len]; omega)] at p
      have E5 := E3.trans e5
      have hD20 : H D2 = none := by
        cases z : H D2 with
        | none => rfl
        | some o => exact absurd hD2 (E3.dm D2 (ne_none z))
      have E6 := E5.frz hD20 hd2 fD2
      exact kk D2 _ H' E6 hD20 (by rw [upd_same, p])
end
end T3

namespace T3
open PySem PySem.Spec PyProof.Rows L2 Ly
section
variable {P : Program} {w : World} {K : PySem.W.Frag} {mg : Str → Option Value} {base : Heap}
theorem take_filter2 {rs : List Rd} {k : Nat} {r : Rd} {q : Rd → Bool} (h : rs[k]? = some r) : (rs.take (k + 1)).filter q = if q r = true then (rs.take k).filter q ++ [r] else (rs.take k).filter q := by
  rw [List.take_add_one, h, List.filter_append]
  cases hq : q r <;> simp [hq]
def spLawIn : Sp := fun vs H Q _ => ∃ (ra : Addr) (p n : Nat) (rvs : List V) (rs : List Rd) (F : Hp), vs = [.ref ra, .int p] ∧ Same F H ∧ F ra = some (.lst rvs) ∧ Rds F rs rvs ∧ (∀ r ∈ rs, r.OkN n) ∧ rs.length < 100000 ∧
  ∀ D ys rs2 F' H', Ex [] F H F' H' → H D = none → F' D = none → H' D = some (.lst ys) → Rds F' rs2 ys → rs2.Perm (rs.filter fun r => decide (r.b = p)) → Q (.ref D) H'
theorem ok_law_in (T : Top K mg) : Ok P w K mg base "_law_n_in" 15 ["_law_roads", "_law_place"] spLawIn := by
  have G_law_asc : Ok P w K mg base "_law_n_ascending" 14 ["_law_words"] spAsc8 := ok_law_asc T
  refine ok_of T.g__law_n_in T.F_law_n_in sc_law_n_in (fun _ _ _ _ _ _ us hl => match us, hl with | [_, _], _ => rfl) (fun vs H Q E h => ?_) (fun cdv A outer s H vs Q E hr h => ?_)
  · first | (obtain ⟨rfl, _⟩ := h; rfl) | (obtain ⟨_, rfl, _⟩ := h; rfl) | (obtain ⟨_, _, rfl, _⟩ := h; rfl) | (obtain ⟨_, _, _, rfl, _⟩ := h; rfl) | (obtain ⟨_, _, _, _, rfl, _⟩ := h; rfl) | (obtain ⟨_, _, _, _, _, rfl, _⟩ := h; rfl) | (obtain ⟨_, _, _, _, _, _, rfl, _⟩ := h; rfl) | (obtain ⟨_, _, _, _, _, _, _, rfl, _⟩ := h; rfl) | (obtain ⟨_, _, _, _, _, _, _, _, rfl, _⟩ := h; rfl) | (obtain ⟨_, _, _, _, _, _, _, _, _, rfl, _⟩ := h; rfl) | (obtain ⟨_, _, _, _, _, _, _, _, _, _, rfl, _⟩ := h; rfl) | (obtain ⟨_, _, _, _, _, _, _, _, _, _, _, rfl, _⟩ := h; rfl)
  obtain ⟨ra, pl, n, rvs, rs, F, rfl, hF, ha, hw, ok, hl, kk⟩ := h
  refine ⟨_, (pss_one (ps_ret (pe_ok G_law_asc hr (pa_cons (pe_lc (own := [("_law_road", 2)]) (g := (gName 2)) (tt := (tTest (tOp rEq (tOp (rIxT K) (tVar 2) (tC (.int 1))) (tVar 1)))) (te := (tVar 2)) rfl sc_law_n_in.nd (pi_list (pv 0)) (blkOk_by (own := [("_law_road", 2)]) (N := N_law_n_in) (sc := defScope s_law_n_in) (by decide +kernel)) (fun _ _ _ _ _ => (pg_name (i := 2) sc_law_n_in.nd rfl (Or.inl rfl))) (fun _ _ _ _ _ => (pts_one (pt_cmpR op_eq (pe_ix ix_tup (pv 2) pe_int (fun _ _ => rfl)) (pv 1) (nomark _)))) (fun _ _ _ _ _ => (pv 2))) pa_nil)))), ?_⟩
  have z1 := sizeLine_eq
  have m1 := Rds.len hw
  refine r_ret (r_call (r_cons (lcg_list [] (fun R h => ⟨_, rfl, h⟩) ha hF (by simp) (by omega) (fun k acc F => Rds F ((rs.take k).filter fun r => decide (r.b = pl)) acc) (fun _ _ _ => True) (fun _ _ _ _ h q => Wks.up h q) (fun _ _ _ _ _ _ _ _ _ => trivial) (by simp [Rds]; exact Wks.nil) trivial ?_ ?_)))
  · intro i y acc F' H' Kk Nk hi hy e p _ _ k1 k2
    obtain ⟨r, hr, wr⟩ := Rds.get hw hy
    have wr2 := Wk.up e.ff wr
    obtain ⟨q, vo, vi, rfl, hq, wo, wi⟩ := Rd.wk wr2
    refine ⟨rfl, _, rfl, q, _, 1, .int r.b, rfl, rfl, SqT.of (e.fh _ _ hq), rfl, _, rfl, rfl, _, rfl, ?_⟩
    have e0 : decide (V.int (r.b : Nat) = V.int (pl : Nat)) = decide (r.b = pl) := by
      congr 1
      apply propext
      constructor
      · intro z
        have := V.int.inj z
        omega
      · intro z
        rw [z]
    rw [e0]
    refine ite2 (fun hc => ⟨_, rfl, k1 _ F' H' (Ex.refl e.fh) ?_ trivial⟩) (fun hc => k2 F' H' (Ex.refl e.fh) ?_ trivial)
    · rw [take_filter2 hr, if_pos hc]
      exact Rds.app p wr2
    · rw [take_filter2 hr, if_neg (by simpa using hc)]
      exact p
  · intro D acc F' H' e hD fD hd' p _ _
    rw [List.take_of_length_le (by omega)] at p
    have okf : ∀ r ∈ rs.filter (fun r => decide (r.b = pl)), r.OkN n := fun r hr => ok r (List.mem_filter.mp hr).1
    refine ⟨D, acc, _, F', rfl, e.fh, hd', p, fun k hk => ⟨(mem_rds okf hk).1, by have := (mem_rds okf hk).2.1; omega⟩, fun p2 ys F2 H2 e2 hp fp hd2 wz => ?_⟩
    obtain ⟨rs2, pm, ew⟩ := perm_un (wsort_perm ((rs.filter fun r => decide (r.b = pl)).map Rd.w))
    rw [ew] at wz
    refine kk p2 ys rs2 F2 H2 (e.trans e2) ?_ fp hd2 wz pm
    cases z : H p2 with
    | none => rfl
    | some o => exact absurd hp (e.dm p2 (ne_none z))
def heardL (rs : List Rd) (f : Nat → Nat) : List W := rs.map fun r => .tup [r.i, r.o, .num (f r.a)]
theorem heardL_ok {rs : List Rd} {f : Nat → Nat} {n : Nat} (ok : ∀ r ∈ rs, r.OkN n) {k : W} (h : k ∈ heardL rs f) : full k = true ∧ k.data.canLay0 = true ∧ k.depth ≤ 4 := by
  obtain ⟨r, hr, rfl⟩ := List.mem_map.mp h
  have o := ok r hr
  have d1 := o.ho.dp
  have d2 := o.hi.dp
  refine ⟨by simp [full, fulls, o.ho.fl, o.hi.fl], by simp [NestedKey.data, NestedKey.datas, PyData.canLay0, PyData.canLayAll0, o.ho.lay, o.hi.lay], ?_⟩
  simp [NestedKey.depth, NestedKey.depthAll]
  omega
def spLawRanks : Sp := fun vs H Q _ => ∃ (sa ra : Addr) (svs rvs : List V) (sg : List W) (rs : List Rd) (F : Hp), vs = [.ref sa, .ref ra] ∧ Same F H ∧ F sa = some (.lst svs) ∧ Wks F sg svs ∧ (∀ k ∈ sg, Wok k) ∧ 0 < sg.length ∧ sg.length < 1000 ∧ F ra = some (.lst rvs) ∧ Rds F rs rvs ∧ (∀ r ∈ rs, r.OkN sg.length) ∧ rs.length < 100000 ∧
  ∀ D F' H', Ex [] F H F' H' → H D = none → F' D = some (.lst (intsV (tab sg.length (rkOf sg rs)))) → Q (.ref D) H'
end
end T3

namespace T3
open PySem PySem.Spec PyProof.Rows L2 Ly
section
variable {P : Program} {w : World} {K : PySem.W.Frag} {mg : Str → Option Value} {base : Heap}
/-! ### classes round by round, numbered as they first stand -/
def cl0 (sg : List W) : Nat → Nat := fun p => (eOnce sg).idxOf (sg.getD p .none)
def clStep (rs : List Rd) (n : Nat) (f : Nat → Nat) : Nat → Nat := fun p => (eOnce (lotsW rs n f)).idxOf (Ly.lotW rs f p)
def clRun (rs : List Rd) (n : Nat) : Nat → (Nat → Nat) → Nat → Nat
  | 0, f => f
  | k + 1, f => clRun rs n k (clStep rs n f)
theorem clRun_snoc (rs : List Rd) (n : Nat) : ∀ (k : Nat) (f : Nat → Nat), clRun rs n (k + 1) f = clStep rs n (clRun rs n k f)
  | 0, f => rfl
  | k + 1, f => clRun_snoc rs n k (clStep rs n f)
theorem cl0_tab (sg : List W) : ordnW sg = tab sg.length (cl0 sg) := by
  apply List.ext_getElem?
  intro i
  by_cases h : i < sg.length
  · rw [tab_get h]
    simp [ordnW, cl0, h]
  · rw [List.getElem?_eq_none (by rw [ordnW_len]; omega), List.getElem?_eq_none (by rw [tab_len]; omega)]
theorem clStep_tab {rs : List Rd} {n : Nat} {f : Nat → Nat} : ordnW (lotsW rs n f) = tab n (clStep rs n f) := by simp [tab, lotsW, clStep, ordnW]
def spClasses : Sp := fun vs H Q _ => ∃ (sa ra : Addr) (svs rvs : List V) (sg : List W) (rs : List Rd) (R : Nat) (F : Hp), vs = [.ref sa, .ref ra, .int R] ∧ Same F H ∧ F sa = some (.lst svs) ∧ Wks F sg svs ∧ (∀ k ∈ sg, k.depth ≤ 8) ∧ 0 < sg.length ∧ sg.length < 1000 ∧ F ra = some (.lst rvs) ∧ Rds F rs rvs ∧ (∀ r ∈ rs, r.OkN sg.length) ∧ rs.length < 100000 ∧ R < 100000 ∧
  ∀ D F' H', Ex [] F H F' H' → H D = none → F' D = some (.lst (intsV (tab sg.length (clRun rs sg.length R (cl0 sg))))) → Q (.ref D) H'
theorem ok_law_classes (T : Top K mg) : Ok P w K mg base "_law_n_classes" 16 ["_law_signs", "_law_roads", "_law_rounds"] spClasses := by
  have G_law_asc : Ok P w K mg base "_law_n_ascending" 14 ["_law_words"] spAsc8 := ok_law_asc T
  have G_law_n_numbers : Ok P w K mg base "_law_n_numbers" 1 ["_law_lots"] spOrdnW := ok_law_ordnW T
  have G_law_in : Ok P w K mg base "_law_n_in" 15 ["_law_roads", "_law_place"] spLawIn := ok_law_in T
  refine ok_of T.g__law_n_classes T.F_law_n_classes sc_law_n_classes (fun _ _ _ _ _ _ us hl => match us, hl with | [_, _, _], _ => rfl) (fun vs H Q E h => ?_) (fun cdv A outer s H vs Q E hr h => ?_)
  · first | (obtain ⟨rfl, _⟩ := h; rfl) | (obtain ⟨_, rfl, _⟩ := h; rfl) | (obtain ⟨_, _, rfl, _⟩ := h; rfl) | (obtain ⟨_, _, _, rfl, _⟩ := h; rfl) | (obtain ⟨_, _, _, _, rfl, _⟩ := h; rfl) | (obtain ⟨_, _, _, _, _, rfl, _⟩ := h; rfl) | (obtain ⟨_, _, _, _, _, _, rfl, _⟩ := h; rfl) | (obtain ⟨_, _, _, _, _, _, _, rfl, _⟩ := h; rfl) | (obtain ⟨_, _, _, _, _, _, _, _, rfl, _⟩ := h; rfl) | (obtain ⟨_, _, _, _, _, _, _, _, _, rfl, _⟩ := h; rfl) | (obtain ⟨_, _, _, _, _, _, _, _, _, _, rfl, _⟩ := h; rfl) | (obtain ⟨_, _, _, _, _, _, _, _, _, _, _, rfl, _⟩ := h; rfl)
  obtain ⟨sa, ra, svs, rvs, sg, rs, R, F, rfl, hF, hsa, hsg, sok, n0, n1, hra, hrs, rok, m2, hR, kk⟩ := h
  refine ⟨_, (pss_cons (ps_set (i := 3) sc_law_n_classes.nd rfl (Or.inr rfl) (pe_ok G_law_n_numbers hr (pa_cons (pv 0) pa_nil)))
    (pss_cons (ps_for PassesOwn.never rfl (pi_range1 rfl T.b_range (pa_cons (pv 2) pa_nil)) (pg_name (i := 4) sc_law_n_classes.nd rfl (Or.inl rfl)) (pss_cons (ps_set (i := 5) sc_law_n_classes.nd rfl (Or.inl rfl) (pe_lst pa_nil))
    (pss_cons (ps_for PassesOwn.never rfl (pi_enum rfl T.b_enumerate (pa_cons (pv 3) pa_nil)) (pg_tup rfl (pgs_cons (pg_name (i := 6) sc_law_n_classes.nd rfl (Or.inl rfl)) (pgs_cons (pg_name (i := 7) sc_law_n_classes.nd rfl (Or.inl rfl)) pgs_nil))) (pss_cons (ps_setLc (i := 8) (own := [("_law_one", 9), ("_law_other", 10), ("_law_out", 11), ("_law_into", 12)]) (g := (gTup K 4 (gCons (gName 9) (gCons (gName 10) (gCons (gName 11) (gCons (gName 12) gNil)))))) (tt := tYes) (te := (tTup (tCons (tVar 12) (tCons (tVar 11) (tCons (tOp (rIxL K) (tVar 3) (tVar 9)) tNil))))) rfl sc_law_n_classes.nd rfl rfl (sw_true rfl rfl rfl (by decide +kernel)) (pi_list (pe_ok G_law_in hr (pa_cons (pv 1) (pa_cons (pv 6) pa_nil)))) (blkOk_by (own := [("_law_one", 9), ("_law_other", 10), ("_law_out", 11), ("_law_into", 12)]) (N := N_law_n_classes) (sc := defScope s_law_n_classes) (by decide +kernel)) (fun _ _ _ _ _ => (pg_tup rfl (pgs_cons (pg_name (i := 9) sc_law_n_classes.nd rfl (Or.inl rfl)) (pgs_cons (pg_name (i := 10) sc_law_n_classes.nd rfl (Or.inl rfl)) (pgs_cons (pg_name (i := 11) sc_law_n_classes.nd rfl (Or.inl rfl)) (pgs_cons (pg_name (i := 12) sc_law_n_classes.nd rfl (Or.inl rfl)) pgs_nil)))))) (fun _ _ _ _ _ => pts_nil) (fun _ _ _ _ _ => (pe_tup (pa_cons (pv 12) (pa_cons (pv 11) (pa_cons (pe_ix ix_list (pv 3) (pv 9) (fun _ _ => rfl)) pa_nil))))))
    (pss_one (ps_expr (pe_bm PySem.F.plainAttrs_list PySem.F.slot_list_append PySem.F.type_list_append mt_append (pv 5) (pa_cons (pe_tup (pa_cons (pv 7) (pa_cons (pe_callTy call_tuple_of rfl T.b_tuple (by decide +kernel) (pa_cons (pe_ok G_law_asc hr (pa_cons (pv 8) pa_nil)) pa_nil)) pa_nil))) pa_nil))))))
    (pss_one (ps_set (i := 3) sc_law_n_classes.nd rfl (Or.inr rfl) (pe_ok G_law_n_numbers hr (pa_cons (pv 5) pa_nil)))))))
    (pss_one (ps_ret (pv 3))))), ?_⟩
  have z1 := sizeLine_eq
  have lsv := hsg.len
  have lrv := Rds.len hrs
  refine r_seq (r_asg (r_call (r_cons ⟨_, rfl, ?_⟩)))
  refine ⟨sa, svs, sg, F, rfl, hF, hsa, hsg, sok, by omega, fun q0 F2 H1 E1 hq0 dq1 => ?_⟩
  rw [cl0_tab] at dq1
  refine r_next ?_
  dsimp only
  refine r_seq (forg_rng (n := R) [] (fun R h => ⟨_, rfl, h⟩) (by omega) E1.fh
    (fun i σ1 F3 H3 => ∃ (q : Addr) (f : Nat → Nat), (∃ u4 u5 u6 u7 u8, σ1 = [some (.ref sa), some (.ref ra), some (.int R), some (.ref q), u4, u5, u6, u7, u8, none, none, none, none]) ∧ H q = none ∧ F3 q = some (.lst (intsV (tab sg.length f))) ∧ clRun rs sg.length (R - i) f = clRun rs sg.length R (cl0 sg))
    ⟨q0, cl0 sg, ⟨_, _, _, _, _, rfl⟩, hq0, dq1, rfl⟩ ?_ ?_)
  · rintro j0 σ1 F3 H3 Nk hi e3 ⟨q, f, ⟨u4, u5, u6, u7, u8, rfl⟩, hq, dq, hrun⟩ nk
    have E3 := E1.trans e3
    obtain ⟨j, hj⟩ : ∃ j, R - j0 = j + 1 := ⟨R - j0 - 1, by omega⟩
    have hj2 : R - (j0 + 1) = j := by omega
    rw [hj] at hrun
    refine r_seq (r_asg ⟨Nat.zero_le _, fun fp hfp => ?_⟩)
    have f0 : F3 fp = none := Same.free e3.fh hfp
    have e0 : Ex [] F3 H3 F3 (upd H3 fp (.lst [])) := Ex.new e3.fh hfp
    have d0 : (upd H3 fp (.lst [])) fp = some (.lst []) := upd_same
    refine r_next ?_
    dsimp only
    generalize upd H3 fp (.lst []) = H4 at e0 d0
    refine r_seq (forg_enum [fp] (fun R h => r_cons ⟨_, rfl, h⟩) dq e0.fh (fun i σ1 F1 H1 => (∃ u6 u7 u8, σ1 = [some (.ref sa), some (.ref ra), some (.int R), some (.ref q), some (.int (j0 : Nat)), some (.ref fp), u6, u7, u8, none, none, none, none]) ∧ F1 fp = none ∧ ∃ ys, H1 fp = some (.lst ys) ∧ Wks F1 ((lotsW rs sg.length f).take i) ys)
      ⟨⟨_, _, _, rfl⟩, f0, [], d0, by simpa using Wks.nil⟩ ?_ ?_)
    · rintro i x T1 σ1 F5 H5 Nk2 hi2 hx e5 ⟨⟨u6, u7, u8, rfl⟩, f5, ys, d5, w5⟩ hT nk2
      rw [intsV_len, tab_len] at hi2
      rw [intsV_get, tab_get hi2] at hx
      obtain rfl : V.int (f i : Nat) = x := Option.some.inj hx
      have eT : Ex [fp] F5 H5 F5 (upd H5 T1 (.tup [.int (i : Nat), .int (f i : Nat)])) := Ex.new e5.fh hT
      have dT : (upd H5 T1 (.tup [.int (i : Nat), .int (f i : Nat)])) T1 = some (.tup [.int (i : Nat), .int (f i : Nat)]) := upd_same
      have dfp : (upd H5 T1 (.tup [.int (i : Nat), .int (f i : Nat)])) fp = some (.lst ys) := by rw [upd_ne (ne_of_none d5 hT)]; exact d5
      have lys := w5.len
      rw [List.length_take] at lys
      generalize upd H5 T1 (.tup [.int (i : Nat), .int (f i : Nat)]) = H6 at eT dT dfp nk2
      have le5 : Same F3 F5 := e5.ff
      have le50 : Same F F5 := Same.trans E3.ff le5
      refine ⟨T1, _, rfl, SqT.of dT, rfl, _, _, rfl, _, _, rfl, rfl, ?_⟩
      refine r_seq (r_asg (lcg_eval (fun Q Q' hq h => ?_) (r_call (r_cons ⟨_, rfl, r_cons ⟨_, rfl, ?_⟩⟩))))
      · obtain ⟨v, hv, v2, hv2, b1, b2, b3, b4, b5, b6, b7, b8, b9, b10, b11, b12, h⟩ := h
        exact ⟨v, hv, v2, hv2, b1, b2, b3, b4, b5, b6, b7, b8, b9, b10, b11, b12, fun D y r F' H' z1 z2 z3 z4 z5 z6 => hq _ _ (h D y r F' H' z1 z2 z3 z4 z5 z6)⟩
      refine ⟨ra, i, sg.length, rvs, rs, F5, rfl, eT.fh, le50 _ _ hra, Wks.up le50 hrs, rok, m2, fun D1 ys1 rs2 F7 H7 e7 hD1 fD1 dD1 w7 pm => ?_⟩
      have e8 := e7.frz hD1 dD1 fD1
      have dD8 : (upd F7 D1 (.lst ys1)) D1 = some (.lst ys1) := upd_same
      have w8 : Rds (upd F7 D1 (.lst ys1)) rs2 ys1 := Wks.up (Same.upd fD1) w7
      generalize upd F7 D1 (.lst ys1) = F8 at e8 dD8 w8
      have lr2 : rs2.length ≤ rs.length := by rw [pm.length_eq]; exact List.length_filter_le _ _
      have lys1 := Rds.len w8
      have ok2 : ∀ r ∈ rs2, r.OkN sg.length := fun r hr => rok r (List.mem_filter.mp (pm.mem_iff.mp hr)).1
      have f8 := e8.nf f5 (ne_none dfp)
      have dfp8 := e8.at dfp
      refine ⟨D1, ys1, F8, fun k acc F => Wks F ((heardL rs2 f).take k) acc, rfl, e8.fh, dD8, by omega, fun _ _ _ _ h q => Wks.up h q, by simpa using Wks.nil, ?_, ?_⟩
      · intro k y acc F9 H9 Kk Nk3 hk hy e9 p9 _ k9 _
        obtain ⟨r, hr, wr⟩ := Rds.get w8 hy
        have ro := ok2 r (List.mem_of_getElem? hr)
        obtain ⟨q4, vo, vi, rfl, hq4, wo, wi⟩ := Rd.wk (Wk.up e9.ff wr)
        have dq9 : H9 q = some (.lst (intsV (tab sg.length f))) := e9.fh _ _ (e9.ff _ _ (e8.ff _ _ (le5 _ _ dq)))
        refine ⟨q4, _, rfl, SqT.of (e9.fh _ _ hq4), rfl, _, _, rfl, _, _, rfl, _, _, rfl, _, _, rfl, rfl, rfl, _, rfl, _, rfl, _, rfl, _, rfl, q, _, _, .int (f r.a : Nat), rfl, rfl, SqL.of dq9, atI_nat (by rw [intsV_get, tab_get ro.ha]; rfl), by show 3 ≤ sizeLine; omega, fun p2 hp2 => ?_⟩
        have wn : Wk (upd F9 p2 (.tup [vi, vo, .int (f r.a : Nat)])) (.tup [r.i, r.o, .num (f r.a)]) (.ref p2) := wk_new (Same.free e9.fh hp2) (.cons wi (.cons wo (.one (wk_num.mpr rfl))))
        exact k9 _ _ _ (Ex.newF e9.fh hp2) (wks_take_snoc (p9.up (Same.upd (Same.free e9.fh hp2))) (by unfold heardL; rw [List.getElem?_map, hr]; rfl) wn)
      · intro D2 acc F9 H9 e9 hD2 fD2 dD2 p9 _
        have lh : (heardL rs2 f).length = rs2.length := by simp [heardL]
        rw [List.take_of_length_le (by omega)] at p9
        have dfp9 := e9.at dfp8
        have lacc := p9.len
        refine r_next ?_
        dsimp only
        refine r_drop ⟨_, rfl, .inl ⟨rfl, _, SqL.of dfp9⟩, r_cons (r_tup ⟨_, rfl, r_cons (r_cb (r_cons (r_call (r_cons ⟨_, rfl, ?_⟩))))⟩)⟩
        refine ⟨D2, acc, heardL rs2 f, F9, rfl, e9.fh, dD2, p9, fun k hk => ⟨(heardL_ok ok2 hk).1, by have := (heardL_ok ok2 hk).2.2; omega⟩, fun p ys2 F10 H10 e10 hp fp10 hd10 w10 => ?_⟩
        have elot : wsort (heardL rs2 f) = wsort (heard rs f i) := wsort_of_perm (pm.map _)
        rw [elot] at w10
        have d10 := e10.at dfp9
        have lys2 := w10.len
        have lw : (wsort (heard rs f i)).length = rs2.length := by rw [← elot, (wsort_perm _).length_eq, lh]
        refine ⟨p, ys2, rfl, .inl ⟨SqL.of hd10, fun l hl => ?_⟩⟩
        have e11 : Ex [fp] F10 H10 (upd F10 l (.tup ys2)) (upd H10 l (.tup ys2)) := Ex.newF e10.fh hl
        have d11 : (upd H10 l (.tup ys2)) fp = some (.lst ys) := by rw [upd_ne (ne_of_none d10 hl)]; exact d10
        have w11 : Wk (upd F10 l (.tup ys2)) (.tup (wsort (heard rs f i))) (.ref l) := wk_new (Same.free e10.fh hl) w10 (by omega)
        generalize upd F10 l (.tup ys2) = F11 at e11 w11
        generalize upd H10 l (.tup ys2) = H11 at e11 d11
        refine ⟨by show 2 ≤ sizeLine; omega, fun p2 hp2 => ?_⟩
        have e12 : Ex [fp] F11 H11 (upd F11 p2 (.tup [.int (f i : Nat), .ref l])) (upd H11 p2 (.tup [.int (f i : Nat), .ref l])) := Ex.newF e11.fh hp2
        have d12 : (upd H11 p2 (.tup [.int (f i : Nat), .ref l])) fp = some (.lst ys) := by rw [upd_ne (ne_of_none d11 hp2)]; exact d11
        have w12 : Wk (upd F11 p2 (.tup [.int (f i : Nat), .ref l])) (Ly.lotW rs f i) (.ref p2) := wk_new (Same.free e11.fh hp2) (.cons (wk_num.mpr rfl) (.one w11))
        have E12 : Ex [fp] F5 H6 (upd F11 p2 (.tup [.int (f i : Nat), .ref l])) (upd H11 p2 (.tup [.int (f i : Nat), .ref l])) := ((e8.trans (e9.trans e10)).mono (by simp)).trans (e11.trans e12)
        have f12 := E12.nf f5 (ne_none dfp)
        generalize upd F11 p2 (.tup [.int (f i : Nat), .ref l]) = F12 at e12 w12 E12 f12
        generalize upd H11 p2 (.tup [.int (f i : Nat), .ref l]) = H12 at e12 d12 E12
        refine ⟨fp, ys, _, rfl, rfl, d12, by omega, ?_⟩
        have e13 : Ex [fp] F12 H12 F12 (upd H12 fp (.lst (ys ++ [.ref p2]))) := Ex.put e12.fh f12 (by simp)
        exact nk2 _ F12 _ (E12.trans e13) ⟨⟨_, _, _, rfl⟩, f12, _, upd_same, wks_take_snoc (w5.up E12.ff) (lots_get hi2) w12⟩
    · rintro σ1 F5 H5 e5 ⟨⟨u6, u7, u8, rfl⟩, f5, ys, d5, w5⟩
      have lL : (lotsW rs sg.length f).length = sg.length := by simp [lotsW]
      rw [intsV_len, tab_len, List.take_of_length_le (by omega)] at w5
      have lys := w5.len
      have e6 : Ex [] F3 H3 F5 H5 := e0.newly e5 (fun p hp => by rw [List.mem_singleton.mp hp]; exact hfp)
      have e7 := e6.frz hfp d5 f5
      have d7 : (upd F5 fp (.lst ys)) fp = some (.lst ys) := upd_same
      have w7 : Wks (upd F5 fp (.lst ys)) (lotsW rs sg.length f) ys := w5.up (Same.upd f5)
      generalize upd F5 fp (.lst ys) = F7 at e7 d7 w7
      refine r_next ?_
      dsimp only
      refine r_asg (r_call (r_cons ⟨_, rfl, ?_⟩))
      refine ⟨fp, ys, lotsW rs sg.length f, F7, rfl, e7.fh, d7, w7, fun k hk => by have := (lots_kWok rok hk).2.2; omega, by omega, fun q2 F8 H8 e8 hq2 dq2 => ?_⟩
      rw [clStep_tab] at dq2
      have hq20 : H q2 = none := by
        cases z : H q2 with
        | none => rfl
        | some o => exact absurd hq2 ((E3.trans e7).dm q2 (ne_none z))
      exact nk _ F8 H8 (e7.trans e8) ⟨q2, clStep rs sg.length f, ⟨_, _, _, _, _, rfl⟩, hq20, dq2, by rw [hj2]; exact hrun⟩
  · rintro σ1 F3 H3 e3 ⟨q, f, ⟨u4, u5, u6, u7, u8, rfl⟩, hq, dq, hrun⟩
    rw [Nat.sub_self] at hrun
    dsimp only
    refine r_ret ⟨_, rfl, kk q F3 H3 (E1.trans e3) hq ?_⟩
    rw [← hrun]
    exact dq
end
end T3

namespace T3
open PySem PySem.Spec PyProof.Rows L2 Ly
section
variable {P : Program} {w : World} {K : PySem.W.Frag} {mg : Str → Option Value} {base : Heap}
/-! ### the classes of a ring, by the law's numbers and by ranks -/
def pre (n p : Nat) : Nat := (p + n - 1) % n
theorem pre_lt {n p : Nat} (h : 0 < n) : pre n p < n := Nat.mod_lt _ h
theorem pre_iff {n k p : Nat} (hk : k < n) (hp : p < n) : (k + 1) % n = p ↔ k = pre n p := by
  unfold pre
  rcases Nat.lt_or_ge (k + 1) n with h | h
  · rw [Nat.mod_eq_of_lt h]
    rcases Nat.eq_zero_or_pos p with z | z
    · subst z
      rw [Nat.zero_add, Nat.mod_eq_of_lt (by omega)]
      omega
    · have : p + n - 1 = (p - 1) + n := by omega
      rw [this, Nat.add_mod_right, Nat.mod_eq_of_lt (by omega)]
      omega
  · have e : k + 1 = n := by omega
    rw [e, Nat.mod_self]
    rcases Nat.eq_zero_or_pos p with z | z
    · subst z
      rw [Nat.zero_add, Nat.mod_eq_of_lt (by omega)]
      omega
    · have : p + n - 1 = (p - 1) + n := by omega
      rw [this, Nat.add_mod_right, Nat.mod_eq_of_lt (by omega)]
      omega
theorem pre_cyc {ks : List W} {p : Nat} (hp : p < ks.length) (t : Int) : cyc ks ((pre ks.length p : Nat) - t) = cyc ks ((p : Int) - (1 + t)) := by
  refine cyc_eq ?_
  unfold pre
  rw [Int.natCast_emod, Int.emod_sub_emod]
  have : (((p + ks.length - 1 : Nat) : Int) - t) = ((p : Int) - (1 + t)) + ks.length * 1 := by omega
  rw [this, Int.add_mul_emod_self_left]
theorem heard_ring {n p : Nat} (hp : p < n) (f : Nat → Nat) : heard (ringRs n) f p = [.tup [.text "", .text "", .num (f (pre n p) : Nat)]] := by
  have e : ((List.range n).filter fun k => decide ((k + 1) % n = p)) = [pre n p] := by
    refine List.perm_singleton.mp ?_
    refine perm_of_set (List.nodup_iff_pairwise_ne.mpr (List.Pairwise.filter _ (List.nodup_iff_pairwise_ne.mp List.nodup_range))) (by simp) fun x => ?_
    rw [List.mem_filter, List.mem_range, List.mem_singleton]
    constructor
    · rintro ⟨h1, h2⟩
      exact (pre_iff h1 hp).mp (of_decide_eq_true h2)
    · intro h
      have h1 : x < n := by rw [h]; exact pre_lt (by omega)
      exact ⟨h1, decide_eq_true ((pre_iff h1 hp).mpr h)⟩
  unfold heard ringRs
  rw [List.filter_map]
  have e2 : ((fun r : Rd => decide (r.b = p)) ∘ fun k : Nat => (⟨k, (k + 1) % n, .text "", .text ""⟩ : Rd)) = fun k => decide ((k + 1) % n = p) := rfl
  rw [e2, e]
  rfl
theorem lot_ring {n p : Nat} (hp : p < n) (f : Nat → Nat) : Ly.lotW (ringRs n) f p = .tup [.num (f p : Nat), .tup [.tup [.text "", .text "", .num (f (pre n p) : Nat)]]] := by
  unfold Ly.lotW
  rw [heard_ring hp]
  simp [wsort]
theorem lot_iff {n p q : Nat} (hp : p < n) (hq : q < n) (f : Nat → Nat) : Ly.lotW (ringRs n) f p = Ly.lotW (ringRs n) f q ↔ f p = f q ∧ f (pre n p) = f (pre n q) := by
  rw [lot_ring hp, lot_ring hq]
  constructor
  · intro h
    injection h with h
    injection h with h1 h2
    injection h1 with h1
    injection h2 with h2 _
    injection h2 with h2
    injection h2 with h2 _
    injection h2 with h2
    injection h2 with _ h2
    injection h2 with _ h2
    injection h2 with h2 _
    injection h2 with h2
    exact ⟨by omega, by omega⟩
  · rintro ⟨h1, h2⟩
    rw [h1, h2]
/-- a numbering by keys, that tells them apart and leaves no number out -/
structure NumBy (n : Nat) (key : Nat → W) (f : Nat → Nat) : Prop where
  inj : ∀ p q, p < n → q < n → (f p = f q ↔ key p = key q)
  dense : Dense n f
theorem idx_ofW {l : List W} (nd : l.Nodup) {k : W} {v : Nat} (h : l[v]? = some k) : l.idxOf k = v := by
  have hl := List.idxOf_lt_length_of_mem (List.mem_of_getElem? h)
  refine nodup_at nd (x := k) ?_ h
  rw [List.getElem?_eq_getElem hl]
  simp
theorem numBy_once {n : Nat} (n0 : 0 < n) (key : Nat → W) : NumBy n key fun p => (eOnce ((List.range n).map key)).idxOf (key p) := by
  have mem : ∀ p, p < n → key p ∈ eOnce ((List.range n).map key) := fun p hp => (eOnce_mem _ _).mpr (List.mem_map.mpr ⟨p, List.mem_range.mpr hp, rfl⟩)
  have at_ : ∀ p, p < n → (eOnce ((List.range n).map key))[(eOnce ((List.range n).map key)).idxOf (key p)]? = some (key p) := fun p hp => by
    rw [List.getElem?_eq_getElem (List.idxOf_lt_length_of_mem (mem p hp))]
    simp
  refine ⟨fun p q hp hq => ⟨fun e => ?_, fun e => by show (eOnce _).idxOf (key p) = (eOnce _).idxOf (key q); rw [e]⟩, fun v hv => ?_⟩
  · have h1 := at_ p hp
    have e2 : (eOnce ((List.range n).map key)).idxOf (key p) = (eOnce ((List.range n).map key)).idxOf (key q) := e
    rw [e2, at_ q hq] at h1
    exact (Option.some.inj h1).symm
  · · have hne : tab n (fun p => (eOnce ((List.range n).map key)).idxOf (key p)) ≠ [] := by
        intro z
        have := congrArg List.length z
        rw [tab_len] at this
        simp at this
        omega
      obtain ⟨p, hp, hpe⟩ := tab_mem.mp (mxL_mem hne)
      have hl := List.idxOf_lt_length_of_mem (mem p hp)
      have hv2 : v < (eOnce ((List.range n).map key)).length := by
        have : (fun p => (eOnce ((List.range n).map key)).idxOf (key p)) p = (eOnce ((List.range n).map key)).idxOf (key p) := rfl
        omega
      have hm : (eOnce ((List.range n).map key))[v] ∈ (List.range n).map key := (eOnce_mem _ _).mp (List.getElem_mem hv2)
      obtain ⟨i, hi, e⟩ := List.mem_map.mp hm
      refine ⟨i, List.mem_range.mp hi, ?_⟩
      show (eOnce _).idxOf (key i) = v
      exact idx_ofW (eOnce_nodup _) (by rw [e]; exact List.getElem?_eq_getElem hv2)
theorem numBy_nth {n : Nat} (n0 : 0 < n) (key : Nat → W) : NumBy n key fun p => nth ((List.range n).map key) (key p) := by
  have mem : ∀ p, p < n → key p ∈ (List.range n).map key := fun p hp => List.mem_map.mpr ⟨p, List.mem_range.mpr hp, rfl⟩
  refine ⟨fun p q hp hq => ⟨fun e => nth_inj (mem p hp) (mem q hq) e, fun e => by show nth _ (key p) = nth _ (key q); rw [e]⟩, fun v hv => ?_⟩
  have hne : tab n (fun p => nth ((List.range n).map key) (key p)) ≠ [] := by
    intro z
    have := congrArg List.length z
    rw [tab_len] at this
    simp at this
    omega
  obtain ⟨p, hp, hpe⟩ := tab_mem.mp (mxL_mem hne)
  have hl := nth_lt (mem p hp)
  have hv2 : v < (numb ((List.range n).map key)).length := by
    have : (fun p => nth ((List.range n).map key) (key p)) p = nth ((List.range n).map key) (key p) := rfl
    omega
  have hm := numb_mem.mp (List.getElem_mem hv2)
  obtain ⟨i, hi, e⟩ := List.mem_map.mp hm
  refine ⟨i, List.mem_range.mp hi, ?_⟩
  show (numb _).idxOf (key i) = v
  exact idx_ofW (numb_nodup _) (by rw [e]; exact List.getElem?_eq_getElem hv2)
theorem cls_zero {ks : List W} {f : Nat → Nat} (b : NumBy ks.length (fun p => ks.getD p .none) f) : Cls ks 0 f := fun i j hi hj => by
  have g : ∀ p, p < ks.length → ks.getD p .none = cyc ks (p : Int) := fun p hp => by
    have := cyc_nat hp
    simp [List.getD, this]
  rw [b.inj i j hi hj, g i hi, g j hj]
  constructor
  · intro e t ht
    have : t = 0 := by omega
    subst this
    simpa using e
  · intro e
    simpa using e 0 (Nat.le_refl _)
theorem cls_step {ks : List W} {r : Nat} {f g : Nat → Nat} (x : Cls ks r f) (b : NumBy ks.length (Ly.lotW (ringRs ks.length) f) g) : Cls ks (r + 1) g := fun i j hi hj => by
  have p1 := pre_lt (p := i) (show 0 < ks.length by omega)
  have p2 := pre_lt (p := j) (show 0 < ks.length by omega)
  rw [b.inj i j hi hj, lot_iff hi hj, x i j hi hj, x _ _ p1 p2]
  constructor
  · rintro ⟨e1, e2⟩ t ht
    rcases Nat.eq_zero_or_pos t with z | z
    · exact e1 t (by omega)
    · have := e2 (t - 1) (by omega)
      rw [pre_cyc hi, pre_cyc hj] at this
      have e : (1 : Int) + ((t - 1 : Nat) : Int) = t := by omega
      rwa [e] at this
  · intro e
    refine ⟨fun t ht => e t (by omega), fun t ht => ?_⟩
    rw [pre_cyc hi, pre_cyc hj]
    have := e (t + 1) (by omega)
    have e2 : (1 : Int) + (t : Int) = ((t + 1 : Nat) : Int) := by omega
    rwa [e2]
/-- the law's classes -/
theorem cl_cls {ks : List W} (h0 : 0 < ks.length) : ∀ r, Cls ks r (clRun (ringRs ks.length) ks.length r (cl0 ks)) ∧ Dense ks.length (clRun (ringRs ks.length) ks.length r (cl0 ks))
  | 0 => by
    have b := numBy_once h0 fun p => ks.getD p .none
    have e : (List.range ks.length).map (fun p => ks.getD p .none) = ks := by
      apply List.ext_getElem?
      intro i
      rw [List.getElem?_map]
      by_cases h : i < ks.length
      · rw [List.getElem?_range h]; simp [h]
      · rw [List.getElem?_eq_none (by simp; omega), List.getElem?_eq_none (by omega)]; rfl
    rw [e] at b
    exact ⟨cls_zero b, b.dense⟩
  | r + 1 => by
    have b := numBy_once h0 (Ly.lotW (ringRs ks.length) (clRun (ringRs ks.length) ks.length r (cl0 ks)))
    rw [clRun_snoc]
    exact ⟨cls_step (cl_cls h0 r).1 b, b.dense⟩
/-- the ranks, round by round -/
def rkIt (rs : List Rd) (n : Nat) : Nat → (Nat → Nat) → Nat → Nat
  | 0, f => f
  | k + 1, f => rkStep rs n (rkIt rs n k f)
theorem rk_cls {ks : List W} (h0 : 0 < ks.length) : ∀ r, Cls ks r (rkIt (ringRs ks.length) ks.length r (rk0 ks)) ∧ Dense ks.length (rkIt (ringRs ks.length) ks.length r (rk0 ks))
  | 0 => by
    have b := numBy_nth h0 fun p => ks.getD p .none
    have e : (List.range ks.length).map (fun p => ks.getD p .none) = ks := by
      apply List.ext_getElem?
      intro i
      rw [List.getElem?_map]
      by_cases h : i < ks.length
      · rw [List.getElem?_range h]; simp [h]
      · rw [List.getElem?_eq_none (by simp; omega), List.getElem?_eq_none (by omega)]; rfl
    rw [e] at b
    exact ⟨cls_zero b, b.dense⟩
  | r + 1 => by
    have b := numBy_nth h0 (Ly.lotW (ringRs ks.length) (rkIt (ringRs ks.length) ks.length r (rk0 ks)))
    exact ⟨cls_step (rk_cls h0 r).1 b, b.dense⟩
theorem rk_run {ks : List W} {p L : Nat} (h0 : 0 < ks.length) (P : IsPer ks p) (l : IsL ks L) : ∀ (k r : Nat), r ≤ L → L ≤ r + k → rkRun (ringRs ks.length) ks.length (k + 1) (rkIt (ringRs ks.length) ks.length r (rk0 ks)) = rkIt (ringRs ks.length) ks.length L (rk0 ks) ∧ rkCnt (ringRs ks.length) ks.length (k + 1) (rkIt (ringRs ks.length) ks.length r (rk0 ks)) = L - r := by
  intro k
  induction k with
  | zero =>
    intro r h1 h2
    have hr : r = L := by omega
    subst hr
    have st : mxL (tab ks.length (rkStep (ringRs ks.length) ks.length (rkIt (ringRs ks.length) ks.length r (rk0 ks)))) = mxL (tab ks.length (rkIt (ringRs ks.length) ks.length r (rk0 ks))) := (Cls.stop h0 P l (rk_cls h0 r).1 (rk_cls h0 (r + 1)).1 (rk_cls h0 r).2 (rk_cls h0 (r + 1)).2).mpr (Nat.le_refl _)
    refine ⟨?_, ?_⟩
    · unfold rkRun; rw [if_pos st]
    · unfold rkCnt; rw [if_pos st]; omega
  | succ k ih =>
    intro r h1 h2
    have sti := Cls.stop h0 P l (rk_cls h0 r).1 (rk_cls h0 (r + 1)).1 (rk_cls h0 r).2 (rk_cls h0 (r + 1)).2
    rcases Nat.lt_or_ge r L with z | z
    · have st : ¬ mxL (tab ks.length (rkStep (ringRs ks.length) ks.length (rkIt (ringRs ks.length) ks.length r (rk0 ks)))) = mxL (tab ks.length (rkIt (ringRs ks.length) ks.length r (rk0 ks))) := fun q => by
        have := sti.mp q
        omega
      obtain ⟨i1, i2⟩ := ih (r + 1) (by omega) (by omega)
      refine ⟨?_, ?_⟩
      · conv => lhs; unfold rkRun; rw [if_neg st]
        exact i1
      · conv => lhs; unfold rkCnt; rw [if_neg st]
        have e : rkCnt (ringRs ks.length) ks.length (k + 1) (rkStep (ringRs ks.length) ks.length (rkIt (ringRs ks.length) ks.length r (rk0 ks))) = L - (r + 1) := i2
        rw [e]
        omega
    · have hr : r = L := by omega
      subst hr
      have st : mxL (tab ks.length (rkStep (ringRs ks.length) ks.length (rkIt (ringRs ks.length) ks.length r (rk0 ks)))) = mxL (tab ks.length (rkIt (ringRs ks.length) ks.length r (rk0 ks))) := sti.mpr (Nat.le_refl _)
      refine ⟨?_, ?_⟩
      · unfold rkRun; rw [if_pos st]
      · unfold rkCnt; rw [if_pos st]; omega
theorem rkCnt_perm {rs ss : List Rd} (h : rs.Perm ss) (n : Nat) : ∀ (k : Nat) (f : Nat → Nat), rkCnt rs n k f = rkCnt ss n k f
  | 0, f => rfl
  | k + 1, f => by
    unfold rkCnt
    rw [rkStep_perm h n f, rkCnt_perm h n k]
/-- the ranks of a ring in the end, and their rounds -/
theorem rk_ring {ks : List W} {rs : List Rd} {p L : Nat} (h0 : 0 < ks.length) (pm : rs.Perm (ringRs ks.length)) (P : IsPer ks p) (l : IsL ks L) : rkRun rs ks.length ks.length (rk0 ks) = rkIt (ringRs ks.length) ks.length L (rk0 ks) ∧ rkCnt rs ks.length ks.length (rk0 ks) = L := by
  have h1 := isL_le P h0 l
  have h2 := P.le h0
  obtain ⟨k, hk⟩ : ∃ k, ks.length = k + 1 := ⟨ks.length - 1, by omega⟩
  have := rk_run h0 P l k 0 (Nat.zero_le _) (by omega)
  rw [rkRun_perm pm, rkCnt_perm pm]
  rw [← hk] at this
  exact this
/-! ### the lists of places in one class -/
def steps (n p k : Nat) : List Nat := (List.range (n / p)).map fun t => k + t * p
theorem steps_pw {n p k : Nat} (hp : 0 < p) : (steps n p k).Pairwise (· < ·) := by
  unfold steps
  rw [List.pairwise_map]
  refine List.pairwise_lt_range.imp fun {a b} h => ?_
  have : a * p < b * p := Nat.mul_lt_mul_of_pos_right h hp
  omega
theorem steps_mem {n p k x : Nat} (hp : 0 < p) (hd : p ∣ n) (hk : k < p) : x ∈ steps n p k ↔ x < n ∧ x % p = k := by
  obtain ⟨m, rfl⟩ := hd
  unfold steps
  rw [Nat.mul_div_cancel_left m hp, List.mem_map]
  constructor
  · rintro ⟨t, ht, rfl⟩
    have := List.mem_range.mp ht
    refine ⟨?_, ?_⟩
    · have h1 : (t + 1) * p ≤ m * p := Nat.mul_le_mul_right p (by omega)
      rw [Nat.succ_mul] at h1
      rw [Nat.mul_comm p m]
      omega
    · rw [Nat.add_mul_mod_self_right, Nat.mod_eq_of_lt hk]
  · rintro ⟨h1, h2⟩
    refine ⟨x / p, List.mem_range.mpr (Nat.div_lt_of_lt_mul h1), ?_⟩
    have := Nat.mod_add_div x p
    rw [Nat.mul_comm] at this
    omega
theorem lots_ring {n p : Nat} {g : Nat → Nat} (hp : 0 < p) (h0 : 0 < n) (hd : p ∣ n) (hg : ∀ i j, i < n → j < n → (g i = g j ↔ (p : Int) ∣ (i : Int) - j)) : lotsOf (tab n g) = (List.range p).map (steps n p) := by
  have hle := Nat.le_of_dvd h0 hd
  have gm : ∀ i j, i < n → j < n → (g i = g j ↔ i % p = j % p) := fun i j hi hj => by
    rw [hg i j hi hj]
    constructor
    · intro h
      have := Int.emod_eq_emod_iff_emod_sub_eq_zero.mpr (Int.emod_eq_zero_of_dvd h)
      omega
    · intro h
      refine Int.dvd_of_emod_eq_zero (Int.emod_eq_emod_iff_emod_sub_eq_zero.mp ?_)
      omega
  -- what stands first
  have pref : ∀ k, k ≤ n → eOnce (tab k g) = tab (min k p) g := by
    intro k
    induction k with
    | zero => intro _; simp [tab, eOnce]
    | succ k ih =>
      intro hk
      have e1 : (tab n g)[k]? = some (g k) := tab_get (by omega)
      have tk : ∀ m, m ≤ n → (tab n g).take m = tab m g := fun m hm => by
        unfold tab
        rw [← List.map_take, List.take_range, Nat.min_eq_left hm]
      have := eOnce_take e1
      rw [tk _ hk, tk _ (by omega), ih (by omega)] at this
      rw [this]
      by_cases h : k < p
      · have hn : g k ∉ tab (min k p) g := fun q => by
          obtain ⟨j, hj, e⟩ := tab_mem.mp q
          have := (gm j k (by omega) (by omega)).mp e
          rw [Nat.mod_eq_of_lt (by omega), Nat.mod_eq_of_lt h] at this
          omega
        rw [if_neg hn, Nat.min_eq_left (by omega), Nat.min_eq_left (by omega)]
        simp [tab, List.range_succ]
      · have hm : g k ∈ tab (min k p) g := tab_mem.mpr ⟨k % p, by have := Nat.mod_lt k hp; omega, (gm _ k (by have := Nat.mod_lt k hp; omega) (by omega)).mpr (by rw [Nat.mod_mod])⟩
        rw [if_pos hm, Nat.min_eq_right (by omega), Nat.min_eq_right (by omega)]
  unfold lotsOf
  rw [pref n (Nat.le_refl _), Nat.min_eq_right hle]
  unfold tab
  rw [List.map_map]
  refine List.map_congr_left fun k hk => ?_
  have hk2 := List.mem_range.mp hk
  refine pw_perm_eq (R := fun a b : Nat => a < b) (fun a b h1 h2 => by omega) ?_ (places_pw _ _) (steps_pw hp)
  refine perm_of_set ?_ ?_ fun x => ?_
  · exact List.nodup_iff_pairwise_ne.mpr ((places_pw _ _).imp fun h => Nat.ne_of_lt h)
  · exact List.nodup_iff_pairwise_ne.mpr ((steps_pw hp).imp fun h => Nat.ne_of_lt h)
  · show x ∈ places (List.map g (List.range n)) (g k) ↔ _
    rw [places_mem, steps_mem hp hd hk2]
    constructor
    · intro h
      have hx : x < n := by
        have := (List.getElem?_eq_some_iff.mp h).1
        simpa using this
      have e : ((List.range n).map g)[x]? = some (g x) := tab_get hx
      rw [e] at h
      have := (gm x k hx (by omega)).mp (Option.some.inj h)
      rw [Nat.mod_eq_of_lt hk2] at this
      exact ⟨hx, this⟩
    · rintro ⟨h1, h2⟩
      have e : ((List.range n).map g)[x]? = some (g x) := tab_get h1
      rw [e]
      congr 1
      exact (gm x k h1 (by omega)).mpr (by rw [h2, Nat.mod_eq_of_lt hk2])
end
end T3

namespace T3
open PySem PySem.Spec PyProof.Rows L2 Ly
section
variable {P : Program} {w : World} {K : PySem.W.Frag} {mg : Str → Option Value} {base : Heap}
/-! ### the law's longest, the law's classes in the end -/
theorem mt_b {ta : TE} (h : ME ta) : MT (tB ta) := fun σ H Q Q' hq x => h _ _ _ _ (fun v H1 ⟨k, e, y⟩ => ⟨k, e, hq _ _ y⟩) x
theorem mc_len {K : PySem.W.Frag} : MC (RLen K) := fun xs H Q Q' hq ⟨p, ys, a, b, z⟩ => ⟨p, ys, a, b, hq _ _ z⟩
def spLongest : Sp := fun vs H Q _ => ∃ (a : Addr) (p : Nat) (xs : List V) (ks : List W) (F : Hp), vs = [.ref a, .int p] ∧ Same F H ∧ F a = some (.lst xs) ∧ Wks F ks xs ∧ (∀ k ∈ ks, kWok k) ∧ 0 < ks.length ∧ ks.length < 100000 ∧ IsPer ks p ∧
  ∀ (L : Nat) H', IsL ks L → Ex [] F H F H' → Q (.int L) H'
theorem ok_law_longest (T : Top K mg) : Ok P w K mg base "_law_longest" 1 ["_law_signs", "_law_period"] spLongest := by
  refine ok_of T.g__law_longest T.F_law_longest sc_law_longest (fun _ _ _ _ _ _ us hl => match us, hl with | [_, _], _ => rfl) (fun vs H Q E h => ?_) (fun cdv A outer s H vs Q E hr h => ?_)
  · first | (obtain ⟨rfl, _⟩ := h; rfl) | (obtain ⟨_, rfl, _⟩ := h; rfl) | (obtain ⟨_, _, rfl, _⟩ := h; rfl) | (obtain ⟨_, _, _, rfl, _⟩ := h; rfl) | (obtain ⟨_, _, _, _, rfl, _⟩ := h; rfl) | (obtain ⟨_, _, _, _, _, rfl, _⟩ := h; rfl) | (obtain ⟨_, _, _, _, _, _, rfl, _⟩ := h; rfl) | (obtain ⟨_, _, _, _, _, _, _, rfl, _⟩ := h; rfl) | (obtain ⟨_, _, _, _, _, _, _, _, rfl, _⟩ := h; rfl) | (obtain ⟨_, _, _, _, _, _, _, _, _, rfl, _⟩ := h; rfl) | (obtain ⟨_, _, _, _, _, _, _, _, _, _, rfl, _⟩ := h; rfl) | (obtain ⟨_, _, _, _, _, _, _, _, _, _, _, rfl, _⟩ := h; rfl)
  obtain ⟨a, p, xs, ks, F, rfl, hF, ha, hw, hk, k0, k1, P, kk⟩ := h
  refine ⟨_, (pss_cons (ps_par (i := 2) (j := 3) rfl sc_law_longest.nd rfl rfl (by decide) rfl rfl (pa_cons pe_int (pa_cons (pe_callB call_len_seq rfl T.b_len (by decide +kernel) (pa_cons (pv 0) pa_nil)) pa_nil)) rfl)
    (pss_cons (ps_for PassesOwn.never rfl (pi_range1 rfl T.b_range (pa_cons (pv 3) pa_nil)) (pg_name (i := 4) sc_law_longest.nd rfl (Or.inl rfl)) (pss_one (ps_for PassesOwn.never rfl (pi_range1 rfl T.b_range (pa_cons (pv 4) pa_nil)) (pg_name (i := 5) sc_law_longest.nd rfl (Or.inl rfl)) (pss_cons (ps_set (i := 6) sc_law_longest.nd rfl (Or.inl rfl) pe_int)
    (pss_cons (ps_while PassesOwn.never (PW.pt (pw_and (pt_cmpR op_lt (pv 6) (pe_op op_mul pe_int (pv 3)) (nomark _)) (pw_and1 (pt_cmpR (op_eqD (hu64 hr)) (pe_ix ix_list (pv 0) (pe_op op_modN (pe_callTy call_int1 rfl T.b_int (by decide +kernel) (pa_cons (pe_op op_sub (pv 4) (pv 6)) pa_nil)) (pv 3)) (fun _ _ => rfl)) (pe_ix ix_list (pv 0) (pe_op op_modN (pe_callTy call_int1 rfl T.b_int (by decide +kernel) (pa_cons (pe_op op_sub (pv 5) (pv 6)) pa_nil)) (pv 3)) (fun _ _ => rfl)) (nomark _))))) (pss_one (ps_set (i := 6) sc_law_longest.nd rfl (Or.inl rfl) (pe_op op_add (pv 6) pe_int))))
    (pss_one (ps_set (i := 2) sc_law_longest.nd rfl (Or.inl rfl) (pe_ifExp (pt_cmpR op_ne (pe_op op_modN (pe_callTy call_int1 rfl T.b_int (by decide +kernel) (pa_cons (pe_op op_sub (pv 4) (pv 5)) pa_nil)) (pv 1)) pe_int (nomark _)) (pe_callB (call_max2 rfl) rfl T.b_max (by decide +kernel) (pa_cons (pv 2) (pa_cons (pv 6) pa_nil))) (pv 2)))))))))
    (pss_one (ps_ret (pv 2))))), ?_⟩
  have z1 := sizeLine_eq
  have lxs := hw.len
  have hp := P.pos
  have hle := P.le k0
  refine r_seq (r_par (r_c (r_cons (r_cb (r_cons ⟨_, rfl, a, xs, rfl, .inl (SqL.of (hF _ _ ha)), ⟨_, _, rfl, ?_⟩⟩)))))
  rw [lxs]
  dsimp only
  refine r_seq (forg_rng (n := ks.length) [] (fun R h => ⟨_, rfl, h⟩) (by omega) hF (fun i σ1 F5 H5 => F5 = F ∧ ∃ (L : Nat) (u4 u5 u6 : Option V), σ1 = [some (.ref a), some (.int p), some (.int L), some (.int ks.length), u4, u5, u6] ∧ (∀ i' j' : Nat, j' < i' → i' < i → ∀ a, Alk ks i' j' a → a ≤ L) ∧ (L = 0 ∨ ∃ i j, Alk ks i j L)) ⟨rfl, 0, _, _, _, rfl, fun _ _ _ h => by omega, .inl rfl⟩ ?_ ?_)
  · rintro i σ1 F5 H5 Nk hi e5 ⟨rfl, L, u4, u5, u6, rfl, m5, t5⟩ nk
    refine forg_rng (n := i) [] (fun R h => ⟨_, rfl, h⟩) (by omega) e5.fh (fun j σ1 F6 H6 => F6 = F5 ∧ ∃ (L : Nat) (u5 u6 : Option V), σ1 = [some (.ref a), some (.int p), some (.int L), some (.int ks.length), some (.int (i : Nat)), u5, u6] ∧ (∀ i' j' : Nat, j' < i' → (i' < i ∨ (i' = i ∧ j' < j)) → ∀ a, Alk ks i' j' a → a ≤ L) ∧ (L = 0 ∨ ∃ i j, Alk ks i j L)) ⟨rfl, L, _, _, rfl, fun i' j' a b => m5 i' j' a (by omega), t5⟩ ?_ ?_
    · rintro j σ1 F6 H6 Nk2 hj e6 ⟨rfl, L, u5, u6, rfl, m6, t6⟩ nk2
      refine r_seq (r_asg (r_c (r_next ?_)))
      dsimp only
      refine r_seq (while_m (mt_and (mt_tst (me_op m2_I0 (me_var _) (me_op m2_I (me_c _) (me_var _)))) (mt_tst (me_op m2_eqD (me_op m2_ixL (me_var _) (me_op m2_I (me_cb mc_int (ma_cons (me_op m2_I0 (me_var _) (me_var _)) ma_nil)) (me_var _))) (me_op m2_ixL (me_var _) (me_op m2_I (me_cb mc_int (ma_cons (me_op m2_I0 (me_var _) (me_var _)) ma_nil)) (me_var _)))))) (fun σ H7 => ∃ t : Nat, σ = [some (.ref a), some (.int p), some (.int L), some (.int ks.length), some (.int (i : Nat)), some (.int (j : Nat)), some (.int t)] ∧ Ex [] F6 H6 F6 H7 ∧ t ≤ 2 * ks.length ∧ ∀ t' : Nat, t' < t → cyc ks ((i : Int) - t') = cyc ks ((j : Int) - t')) (fun σ _ => match σ with | [_, _, _, _, _, _, some (.int t)] => (2 * ks.length - t).toNat | _ => 0) ⟨0, rfl, Ex.refl e6.fh, Nat.zero_le _, fun t' h => by omega⟩ ?_)
      rintro σ H7 ⟨t, rfl, e7, ht, hag⟩
      refine ⟨_, rfl, _, rfl, _, _, rfl, rfl, .inl ⟨by omega, by omega⟩, _, _, rfl, rfl, _, rfl, ?_⟩
      have i0 : i < ks.length := hi
      have fin : ((p : Int) ∣ (i : Int) - j ∨ Alk ks i j t) → ∀ D : Ends, (∀ L' : Nat, (∀ i' j' : Nat, j' < i' → (i' < i ∨ (i' = i ∧ j' < j + 1)) → ∀ a, Alk ks i' j' a → a ≤ L') → (L' = 0 ∨ ∃ i j, Alk ks i j L') → D.nx [some (.ref a), some (.int p), some (.int L'), some (.int ks.length), some (.int (i : Nat)), some (.int (j : Nat)), some (.int t)] H7) →
          tAsg (tIf (tTest (tOp rNe (tOp RMod (tCB RInt (tCons (tOp RSub (tVar 4) (tVar 5)) tNil)) (tVar 1)) (tC (.int 0)))) (tCB (fun xs H Q => ∃ i j, xs = [.int i, .int j] ∧ Q (.int (if j > i then j else i)) H) (tCons (tVar 2) (tCons (tVar 6) tNil))) (tVar 2)) (gName 2) D [some (.ref a), some (.int p), some (.int L), some (.int ks.length), some (.int (i : Nat)), some (.int (j : Nat)), some (.int t)] H7 := by
        intro key D dn
        have p0 : ((p : Nat) : Int) ≠ 0 := by omega
        refine r_asg (r_if ⟨_, rfl, _, rfl, _, _, rfl, rfl, .inl ⟨_, rfl, _, rfl, _, _, rfl, rfl, p0, rfl, _, rfl, ?_⟩⟩)
        have ev : (((i : Int) - j).fmod (p : Int) = 0) ↔ (p : Int) ∣ (i : Int) - j := by
          rw [Int.fmod_eq_emod_of_nonneg _ (by omega)]
          exact ⟨Int.dvd_of_emod_eq_zero, Int.emod_eq_zero_of_dvd⟩
        refine ite2 (fun hc => ?_) (fun hc => ?_)
        · have nd : ¬ (p : Int) ∣ (i : Int) - j := fun z => by
            have : ¬ decide (V.int (((i : Int) - j).fmod (p : Int)) = V.int 0) = true := by simpa using hc
            exact this (decide_eq_true (congrArg V.int (ev.mpr z)))
          have al := key.resolve_left nd
          refine r_cb ⟨_, rfl, _, rfl, _, _, rfl, ?_⟩
          have em : (if ((t : Nat) : Int) > (L : Int) then ((t : Nat) : Int) else (L : Int)) = ((Nat.max L t : Nat) : Int) := by
            rw [show Nat.max L t = max L t from rfl]
            split <;> omega
          rw [em]
          have le1 : L ≤ Nat.max L t := Nat.le_max_left _ _
          have le2 : t ≤ Nat.max L t := Nat.le_max_right _ _
          refine dn (Nat.max L t) (fun i' j' h1 h2 a' ha' => ?_) ?_
          · rcases Classical.em (i' = i ∧ j' = j) with ⟨z1, z2⟩ | z
            · subst z1
              subst z2
              rw [ha'.uniq al]
              exact le2
            · have := m6 i' j' h1 (by omega) a' ha'
              omega
          · rcases Nat.le_total L t with z | z
            · rw [show Nat.max L t = t from Nat.max_eq_right z]
              exact .inr ⟨_, _, al⟩
            · rw [show Nat.max L t = L from Nat.max_eq_left z]
              exact t6
        · have hdv : (p : Int) ∣ (i : Int) - j := by
            have : decide (V.int (((i : Int) - j).fmod (p : Int)) = V.int 0) = true := by simpa using hc
            exact ev.mp (V.int.inj (of_decide_eq_true this))
          refine ⟨_, rfl, dn L (fun i' j' h1 h2 a' ha' => ?_) t6⟩
          rcases Classical.em (i' = i ∧ j' = j) with ⟨z1, z2⟩ | z
          · subst z1
            subst z2
            exact absurd hdv (ha'.nd P)
          · exact m6 i' j' h1 (by omega) a' ha'
      have done : ∀ L' : Nat, (∀ i' j' : Nat, j' < i' → (i' < i ∨ (i' = i ∧ j' < j + 1)) → ∀ a, Alk ks i' j' a → a ≤ L') → (L' = 0 ∨ ∃ i j, Alk ks i j L') → Nk2 [some (.ref a), some (.int p), some (.int L'), some (.int ks.length), some (.int (i : Nat)), some (.int (j : Nat)), some (.int t)] H7 := fun L' q1 q2 => nk2 _ F6 H7 e7 ⟨rfl, L', _, _, rfl, q1, q2⟩
      refine ite2 (fun hc => ?_) (fun hc => ?_)
      · have hlt : t < 2 * ks.length := by
          have := of_decide_eq_true hc
          omega
        obtain ⟨v1, g1, w1⟩ := ring_at hw k0 ((i : Int) - t)
        obtain ⟨v2, g2, w2⟩ := ring_at hw k0 ((j : Int) - t)
        have b1 := cyc_ok k0 hk ((i : Int) - t)
        have b2 := cyc_ok k0 hk ((j : Int) - t)
        have m0 : ((ks.length : Nat) : Int) ≠ 0 := by omega
        have sq := SqL.of (K := K) (e7.fh _ _ ha)
        refine ⟨_, rfl, _, rfl, _, rfl, _, _, rfl, rfl, .inl ⟨_, rfl, _, rfl, _, _, rfl, rfl, m0, a, xs, _, _, rfl, rfl, sq, g1, _, rfl, _, rfl, _, rfl, _, _, rfl, rfl, .inl ⟨_, rfl, _, rfl, _, _, rfl, rfl, m0, a, xs, _, _, rfl, rfl, sq, g2, _, _, wk_dp e7.fh w1, wk_dp e7.fh w2, b1.shaped, b2.shaped, _, rfl, ?_⟩⟩⟩
        rw [eqv_dec]
        refine ite2 (fun hc2 => ?_) (fun hc2 => ?_)
        · refine r_asg ⟨_, rfl, _, _, rfl, rfl, ⟨⟨t + 1, rfl, e7, hlt, fun t' h => ?_⟩, ?_⟩⟩
          · rcases Nat.lt_or_ge t' t with z | z
            · exact hag t' z
            · have : t' = t := by omega
              subst this
              exact of_decide_eq_true hc2
          · show (2 * (ks.length : Int) - ((t : Int) + 1)).toNat < (2 * (ks.length : Int) - (t : Int)).toNat
            omega
        · refine r_next ?_
          dsimp only
          exact fin (.inr ⟨hag, fun z => hc2 (decide_eq_true z)⟩) _ done
      · have hge : 2 * ks.length ≤ t := by
          have : ¬ ((t : Int) < 2 * (ks.length : Int)) := fun z => hc (decide_eq_true z)
          omega
        refine r_next ?_
        dsimp only
        refine fin ?_ _ done
        rcases Classical.em ((p : Int) ∣ (i : Int) - j) with z | z
        · exact .inl z
        · obtain ⟨A, hA, al⟩ := alk_ex k0 P z
          exact absurd (hag A (by omega)) al.ne
    · rintro σ1 F6 H6 e6 ⟨rfl, L, u5, u6, rfl, m6, t6⟩
      exact nk _ F6 H6 e6 ⟨rfl, L, _, _, _, rfl, fun i' j' a b => m6 i' j' a (by omega), t6⟩
  · rintro σ1 F5 H5 e5 ⟨rfl, L, u4, u5, u6, rfl, m5, t5⟩
    dsimp only
    refine r_ret ⟨_, rfl, kk L _ (isL_of P (fun i j a b => m5 i j a (by omega)) t5) e5⟩
end
end T3

namespace T3
open PySem PySem.Spec PyProof.Rows L2 Ly
section
variable {P : Program} {w : World} {K : PySem.W.Frag} {mg : Str → Option Value} {base : Heap}
/-! ### the classes in the end -/
def spStable : Sp := fun vs H Q _ => ∃ (t sa ra : Addr) (svs rvs : List V) (ks : List W) (p L : Nat) (F : Hp), vs = [.ref t] ∧ Same F H ∧ F t = some (.tup [.ref sa, .ref ra]) ∧ F sa = some (.lst svs) ∧ Wks F ks svs ∧ (∀ k ∈ ks, k.depth ≤ 8) ∧ 0 < ks.length ∧ ks.length < 1000 ∧ F ra = some (.lst rvs) ∧ Rds F (ringRs ks.length) rvs ∧ IsPer ks p ∧ IsL ks L ∧
  ∀ T D F' H', Ex [] F H F' H' → H T = none → F' T = some (.tup [.ref D, .int L]) → F' D = some (.lst (intsV (tab ks.length (clRun (ringRs ks.length) ks.length L (cl0 ks))))) → Q (.ref T) H'
theorem ok_law_stable (T : Top K mg) : Ok P w K mg base "_law_r_stable" 17 ["_law_net"] spStable := by
  have G_classes : Ok P w K mg base "_law_n_classes" 16 ["_law_signs", "_law_roads", "_law_rounds"] spClasses := ok_law_classes T
  refine ok_of T.g__law_r_stable T.F_law_r_stable sc_law_r_stable (fun _ _ _ _ _ _ us hl => match us, hl with | [_], _ => rfl) (fun vs H Q E h => ?_) (fun cdv A outer s H vs Q E hr h => ?_)
  · first | (obtain ⟨rfl, _⟩ := h; rfl) | (obtain ⟨_, rfl, _⟩ := h; rfl) | (obtain ⟨_, _, rfl, _⟩ := h; rfl) | (obtain ⟨_, _, _, rfl, _⟩ := h; rfl) | (obtain ⟨_, _, _, _, rfl, _⟩ := h; rfl) | (obtain ⟨_, _, _, _, _, rfl, _⟩ := h; rfl) | (obtain ⟨_, _, _, _, _, _, rfl, _⟩ := h; rfl) | (obtain ⟨_, _, _, _, _, _, _, rfl, _⟩ := h; rfl) | (obtain ⟨_, _, _, _, _, _, _, _, rfl, _⟩ := h; rfl) | (obtain ⟨_, _, _, _, _, _, _, _, _, rfl, _⟩ := h; rfl) | (obtain ⟨_, _, _, _, _, _, _, _, _, _, rfl, _⟩ := h; rfl) | (obtain ⟨_, _, _, _, _, _, _, _, _, _, _, rfl, _⟩ := h; rfl)
  obtain ⟨t, sa, ra, svs, rvs, ks, p, L, F, rfl, hF, ht, hsa, hsg, hk, k0, k1, hra, hrs, P, l, kk⟩ := h
  refine ⟨_, (pss_cons (ps_asg (pv 0) (pg_tup rfl (pgs_cons (pg_name (i := 1) sc_law_r_stable.nd rfl (Or.inl rfl)) (pgs_cons (pg_name (i := 2) sc_law_r_stable.nd rfl (Or.inl rfl)) pgs_nil))))
    (pss_cons (ps_par (i := 3) (j := 4) rfl sc_law_r_stable.nd rfl rfl (by decide) rfl rfl (pa_cons (pe_ok G_classes hr (pa_cons (pv 1) (pa_cons (pv 2) (pa_cons pe_int pa_nil)))) (pa_cons pe_int pa_nil)) rfl)
    (pss_one (ps_while PassesOwn.never (pt_val pe_bl) (pss_cons (ps_set (i := 5) sc_law_r_stable.nd rfl (Or.inl rfl) (pe_ok G_classes hr (pa_cons (pv 1) (pa_cons (pv 2) (pa_cons (pe_op op_add (pv 4) pe_int) pa_nil)))))
    (pss_cons (ps_if (pt_cmpR op_eq (pe_callB (cr_max rfl) rfl T.b_max (by decide +kernel) (pa_cons (pv 5) pa_nil)) (pe_callB (cr_max rfl) rfl T.b_max (by decide +kernel) (pa_cons (pv 3) pa_nil)) (nomark _)) (pss_one (ps_ret (pe_tup (pa_cons (pv 3) (pa_cons (pv 4) pa_nil))))) pss_nil)
    (pss_one (ps_par (i := 3) (j := 4) rfl sc_law_r_stable.nd rfl rfl (by decide) rfl rfl (pa_cons (pv 5) (pa_cons (pe_op op_add (pv 4) pe_int) pa_nil)) rfl)))))))), ?_⟩
  have z1 := sizeLine_eq
  have rok := ringRs_ok k0
  have lL := isL_le P k0 l
  have lp := P.le k0
  have lr := ringRs_len ks.length
  refine r_seq ⟨_, rfl, t, _, rfl, SqT.of (hF _ _ ht), rfl, _, _, rfl, _, _, rfl, rfl, r_next ?_⟩
  dsimp only
  refine r_seq (r_par (r_cons (r_call (r_cons ⟨_, rfl, r_cons ⟨_, rfl, r_cons (r_c ?_)⟩⟩))))
  refine ⟨sa, ra, svs, rvs, ks, ringRs ks.length, 0, F, rfl, hF, hsa, hsg, hk, k0, k1, hra, hrs, rok, by omega, by omega, fun D0 F1 H1 e1 hD0 dD0 => ⟨_, _, rfl, ?_⟩⟩
  dsimp only
  refine while_m (mt_b (me_c _)) (fun σ H2 => ∃ (r : Nat) (D : Addr) (F2 : Hp) (u5 : Option V), σ = [some (.ref t), some (.ref sa), some (.ref ra), some (.ref D), some (.int r), u5] ∧ Ex [] F H F2 H2 ∧ F2 D = some (.lst (intsV (tab ks.length (clRun (ringRs ks.length) ks.length r (cl0 ks))))) ∧ r ≤ L) (fun σ _ => match σ with | [_, _, _, _, some (.int r), _] => (L - r).toNat | _ => 0) ⟨0, D0, F1, _, rfl, e1, dD0, Nat.zero_le _⟩ ?_
  rintro σ H2 ⟨r, D, F2, u5, rfl, e2, dD, hr⟩
  refine ⟨_, rfl, iteT ?_⟩
  refine r_seq (r_asg (r_call (r_cons ⟨_, rfl, r_cons ⟨_, rfl, r_cons ⟨_, rfl, _, _, rfl, rfl, ?_⟩⟩⟩)))
  refine ⟨sa, ra, svs, rvs, ks, ringRs ks.length, r + 1, F2, rfl, e2.fh, e2.ff _ _ hsa, hsg.up e2.ff, hk, k0, k1, e2.ff _ _ hra, Wks.up e2.ff hrs, rok, by omega, by omega, fun D3 F3 H3 e3 hD3 dD3 => r_next ?_⟩
  dsimp only
  have dD' := e3.ff _ _ dD
  have E3 := e2.trans e3
  have nz : ∀ g : Nat → Nat, 0 < ((tab ks.length g).map fun n : Nat => (n : Int)).length := fun g => by rw [List.length_map, tab_len]; exact k0
  refine r_seq (r_ifS (r_tst (r_op (r_cb (r_cons ⟨_, rfl, D3, (tab ks.length (clRun (ringRs ks.length) ks.length (r + 1) (cl0 ks))).map fun n : Nat => (n : Int), rfl, SqL.of (by rw [← intsV_int]; exact e3.fh _ _ dD3), nz _, fun M hM hle => r_cb (r_cons ⟨_, rfl, D, (tab ks.length (clRun (ringRs ks.length) ks.length r (cl0 ks))).map fun n : Nat => (n : Int), rfl, SqL.of (by rw [← intsV_int]; exact e3.fh _ _ dD'), nz _, fun M' hM' hle' => ?_⟩)⟩)))))
  rw [max_ints hM hle, max_ints hM' hle']
  refine ⟨rfl, _, rfl, ?_⟩
  have c1 := cl_cls k0 r
  have c2 := cl_cls k0 (r + 1)
  have st := Cls.stop k0 P l c1.1 c2.1 c1.2 c2.2
  refine ite2 (fun hc => ?_) (fun hc => ?_)
  · have hs := st.mp (by
      have := V.int.inj (of_decide_eq_true hc)
      omega)
    have hrL : r = L := by omega
    subst hrL
    refine r_ret (r_tup ⟨_, rfl, _, rfl, by show 2 ≤ sizeLine; decide, fun T hT => ?_⟩)
    have e4 : Ex [] F3 H3 (upd F3 T (.tup [.ref D, .int (r : Nat)])) (upd H3 T (.tup [.ref D, .int (r : Nat)])) := Ex.newF e3.fh hT
    refine kk T D _ _ (E3.trans e4) ?_ upd_same (e4.ff _ _ dD')
    cases z : H T with
    | none => rfl
    | some o => exact absurd hT (E3.dm T (ne_none z))
  · have hs : ¬ L ≤ r := fun z => hc (decide_eq_true (by
      have := st.mpr z
      rw [this]))
    refine r_next ?_
    dsimp only
    refine r_par ⟨_, rfl, _, rfl, _, _, rfl, rfl, _, _, rfl, ?_⟩
    refine ⟨⟨r + 1, D3, F3, _, rfl, E3, dD3, by omega⟩, ?_⟩
    show ((L : Int) - ((r : Int) + 1)).toNat < ((L : Int) - (r : Int)).toNat
    omega
end
end T3

namespace T3
open PySem PySem.Spec PyProof.Rows L2 Ly
section
variable {P : Program} {w : World} {K : PySem.W.Frag} {mg : Str → Option Value} {base : Heap}
theorem forg_rngB {n : Nat} {g : TG} {tb : TS} {D : Ends} {σ : L2.St} {F H : Hp} (M : List Addr) (hF : Same F H) (I : Nat → L2.St → Hp → Hp → Prop) (h0 : I 0 σ F H)
    (hs : ∀ i σ1 F1 H1 (Nk : L2.St → Hp → Prop), i < n → Ex M F H F1 H1 → I i σ1 F1 H1 → (∀ σ2 F2 H2, Ex M F1 H1 F2 H2 → I (i + 1) σ2 F2 H2 → Nk σ2 H2) → g (.int (i : Nat)) σ1 H1 fun σ2 H2 => tb { D with nx := Nk, ct := Nk, bk := D.nx } σ2 H2)
    (hd : ∀ σ1 F1 H1, Ex M F H F1 H1 → I n σ1 F1 H1 → D.nx σ1 H1) :
    ∃ W : Nat → Nat → L2.St → Hp → Prop, (∃ m, W 0 m σ H) ∧ ∀ i m σ H, W i m σ H →
      ((Itr 0 (n : Int).toNat).stop i H ∧ D.nx σ H) ∨ ((Itr 0 (n : Int).toNat).go i H ∧ ∃ N : L2.St → Hp → Prop, (∀ σ' H', N σ' H' → ∃ m', m' < m ∧ W (i + 1) m' σ' H') ∧ ∀ x H', (Itr 0 (n : Int).toNat).yld i H x H' → g x σ H' fun σ2 H2 => tb { D with nx := N, ct := N, bk := D.nx } σ2 H2) := by
  have e : ((n : Int).toNat) = n := by omega
  rw [e]
  refine forg_gen walk_rg M hF (fun _ _ _ _ => trivial) I h0 (fun i x σ1 F1 H1 Nk hi hx e1 p k => ?_) hd
  obtain ⟨_, rfl⟩ := rgL_get hx
  have := hs i σ1 F1 H1 Nk hi e1 p k
  simpa using this
theorem Strm.fz {F F2 H H0 : Hp} {st q p : Addr} {c c0 : Int} {o : HO} (s : Strm F H st q c) (h : H0 p = none) (h1 : Strm F2 H0 st q c0) : Strm (upd F p o) H st q c := by
  obtain ⟨a, b, _, _⟩ := h1.hs
  obtain ⟨_, _, c1, c2⟩ := s.hs
  refine s.up ?_ ?_
  · rw [upd_ne]
    · exact c1
    · rintro rfl
      exact a h
  · rw [upd_ne]
    · exact c2
    · rintro rfl
      exact b h
theorem jstep {st q : Addr} {c0 : Int} {f : Nat → Int} {F0 H : Hp} (s0 : Strm F0 H st q c0) : ∀ N k F1 H1 F2 H2, (∀ p ∈ N, H p = none) → Ex N F1 H1 F2 H2 → Strm F1 H1 st q (f k) → Strm F2 H2 st q (f k) := fun N k F1 H1 F2 H2 hN e s => by
  obtain ⟨a, b, _, _⟩ := s0.hs
  exact s.ex e (fun z => a (hN _ z)) (fun z => b (hN _ z))
def spNSigns : Sp := fun vs H Q _ => ∃ (st q : Addr) (many : Nat) (F : Hp) (c : Int), vs = [.ref st, .int many] ∧ Same F H ∧ Strm F H st q c ∧ many < 500 ∧ c < 900000000 ∧
  ∀ p ys sg F' H', Ex [st, q] F H F' H' → Strm F' H' st q (c + 1000) → F' p = some (.lst ys) → Wks F' sg ys → (∀ k ∈ sg, Wok k) → sg.length = many → Q (.ref p) H'
theorem wok_text {s : Str} (h : PyData.canLay0 (.str s) = true := by decide +kernel) : Wok (.text s) := ⟨rfl, h, Nat.zero_le _⟩
def spNRow : Sp := fun vs H Q _ => ∃ (st q : Addr) (many : Nat) (F : Hp) (c : Int), vs = [.ref st, .int many] ∧ Same F H ∧ Strm F H st q c ∧ 0 < many ∧ many < 50 ∧ c < 900000000 ∧
  ∀ v F' H', Ex [st, q] F H F' H' → Strm F' H' st q (c + 1000) → RL 100 F' many v → Q v H'
end
end T3

namespace T3
open PySem PySem.Spec PyProof.Rows L2 Ly
section
variable {P : Program} {w : World} {K : PySem.W.Frag} {mg : Str → Option Value} {base : Heap}
/-! ### drawn signs round a ring -/
theorem r_seqI {t u : TS} {D : Ends} {σ : L2.St} {H : Hp} (Inv : L2.St → Hp → Prop) (h2 : ∀ σ' H', Inv σ' H' → u D σ' H') (h1 : (∀ σ' H', Inv σ' H' → u D σ' H') → t { D with nx := u D } σ H) : tSeq t u D σ H := h1 h2
structure Pat (F : Hp) (sa se : Addr) (n : Nat) : Prop where
  ex : ∃ xs ys, F sa = some (.lst xs) ∧ F se = some (.lst ys) ∧ xs.length = n ∧ ys.length = n ∧ (∀ x ∈ xs, okM F x) ∧ ∀ y ∈ ys, ∃ i : Int, y = V.int i
  pos : 0 < n
  le : n ≤ 10
def spPattern : Sp := fun vs H Q _ => ∃ (st q : Addr) (F : Hp) (c : Int), vs = [.ref st, .int 10] ∧ Same F H ∧ Strm F H st q c ∧ c < 900000000 ∧
  ∀ T sa se n F' H', Ex [st, q] F H F' H' → Strm F' H' st q (c + 100) → F' T = some (.tup [.ref sa, .ref se]) → H sa = none → Pat F' sa se n → Q (.ref T) H'
theorem ok_law_pattern (T : Top K mg) : Ok P w K mg base "_law_r_pattern" 3 ["_law_stream", "_law_most"] spPattern := by
  have G_draw : Ok P w K mg base "_law_draw" 1 ["_law_stream", "_law_many"] spDraw := ok_law_draw T
  have G_pick : Ok P w K mg base "_law_pick" 2 ["_law_stream", "_law_some"] spPick := ok_law_pick T
  refine ok_of T.g__law_r_pattern T.F_law_r_pattern sc_law_r_pattern (fun _ _ _ _ _ _ us hl => match us, hl with | [_, _], _ => rfl) (fun vs H Q E h => ?_) (fun cdv A outer s H vs Q E hr h => ?_)
  · first | (obtain ⟨rfl, _⟩ := h; rfl) | (obtain ⟨_, rfl, _⟩ := h; rfl) | (obtain ⟨_, _, rfl, _⟩ := h; rfl) | (obtain ⟨_, _, _, rfl, _⟩ := h; rfl) | (obtain ⟨_, _, _, _, rfl, _⟩ := h; rfl) | (obtain ⟨_, _, _, _, _, rfl, _⟩ := h; rfl) | (obtain ⟨_, _, _, _, _, _, rfl, _⟩ := h; rfl) | (obtain ⟨_, _, _, _, _, _, _, rfl, _⟩ := h; rfl) | (obtain ⟨_, _, _, _, _, _, _, _, rfl, _⟩ := h; rfl) | (obtain ⟨_, _, _, _, _, _, _, _, _, rfl, _⟩ := h; rfl) | (obtain ⟨_, _, _, _, _, _, _, _, _, _, rfl, _⟩ := h; rfl) | (obtain ⟨_, _, _, _, _, _, _, _, _, _, _, rfl, _⟩ := h; rfl)
  obtain ⟨st, q, F, c, rfl, hF, hS, hc, kk⟩ := h
  refine ⟨_, (pss_cons (ps_asg (pe_tup (pa_cons (pe_op op_add pe_int (pe_ok G_draw hr (pa_cons (pv 0) (pa_cons (pv 1) pa_nil)))) (pa_cons (pe_ok G_draw hr (pa_cons (pv 0) (pa_cons pe_int pa_nil))) pa_nil))) (pg_tup rfl (pgs_cons (pg_name (i := 2) sc_law_r_pattern.nd rfl (Or.inr rfl)) (pgs_cons (pg_name (i := 3) sc_law_r_pattern.nd rfl (Or.inl rfl)) pgs_nil))))
    (pss_cons (ps_set (i := 4) sc_law_r_pattern.nd rfl (Or.inr rfl) (pe_ok G_pick hr (pa_cons (pv 0) (pa_cons (pe_lst (pa_cons (pe_lst (pa_cons pe_str pa_nil)) (pa_cons (pe_lst (pa_cons pe_str (pa_cons pe_str pa_nil))) (pa_cons (pe_lst (pa_cons pe_str (pa_cons pe_str pa_nil))) (pa_cons (pe_lst (pa_cons pe_int (pa_cons (pe_tup (pa_cons pe_str pa_nil)) (pa_cons pe_str pa_nil)))) pa_nil))))) pa_nil))))
    (pss_cons (ps_par (i := 5) (j := 6) rfl sc_law_r_pattern.nd rfl rfl (by decide) rfl rfl (pa_cons (pe_lc (own := [("_law_k", 7)]) (g := (gName 7)) (tt := tYes) (te := (tCall spPick [] E0 (tCons (tVar 0) (tCons (tVar 4) tNil)))) rfl sc_law_r_pattern.nd (pi_range1 rfl T.b_range (pa_cons (pv 2) pa_nil)) (blkOk_by (own := [("_law_k", 7)]) (N := N_law_r_pattern) (sc := defScope s_law_r_pattern) (by decide +kernel)) (fun _ _ _ _ _ => (pg_name (i := 7) sc_law_r_pattern.nd rfl (Or.inl rfl))) (fun _ _ _ _ _ => pts_nil) (fun _ _ _ _ _ => (pe_ok G_pick hr (pa_cons (pv 0) (pa_cons (pv 4) pa_nil))))) (pa_cons (pe_lc (own := [("_law_k", 7)]) (g := (gName 7)) (tt := tYes) (te := (tCall spDraw [] E0 (tCons (tVar 0) (tCons (tC (.int 2)) tNil)))) rfl sc_law_r_pattern.nd (pi_range1 rfl T.b_range (pa_cons (pv 2) pa_nil)) (blkOk_by (own := [("_law_k", 7)]) (N := N_law_r_pattern) (sc := defScope s_law_r_pattern) (by decide +kernel)) (fun _ _ _ _ _ => (pg_name (i := 7) sc_law_r_pattern.nd rfl (Or.inl rfl))) (fun _ _ _ _ _ => pts_nil) (fun _ _ _ _ _ => (pe_ok G_draw hr (pa_cons (pv 0) (pa_cons pe_int pa_nil))))) pa_nil)) rfl)
    (pss_cons (ps_if (pt_cmpR op_eq (pv 3) pe_int (nomark _)) (pss_cons (ps_set (i := 8) sc_law_r_pattern.nd rfl (Or.inl rfl) (pe_ok G_pick hr (pa_cons (pv 0) (pa_cons (pe_lc (own := [("_law_step", 8)]) (g := (gName 8)) (tt := (tTest (tOp rEq (tOp RMod (tVar 2) (tVar 8)) (tC (.int 0))))) (te := (tVar 8)) rfl sc_law_r_pattern.nd (pi_range2 rfl T.b_range (pa_cons pe_int (pa_cons (pe_op op_add (pv 2) pe_int) pa_nil))) (blkOk_by (own := [("_law_step", 8)]) (N := N_law_r_pattern) (sc := defScope s_law_r_pattern) (by decide +kernel)) (fun _ _ _ _ _ => (pg_name (i := 8) sc_law_r_pattern.nd rfl (Or.inl rfl))) (fun _ _ _ _ _ => (pts_one (pt_cmpR op_eq (pe_op op_modN (pv 2) (pv 8)) pe_int (nomark _)))) (fun _ _ _ _ _ => (pv 8))) pa_nil))))
    (pss_one (ps_par (i := 5) (j := 6) rfl sc_law_r_pattern.nd rfl rfl (by decide) rfl rfl (pa_cons (pe_op op_rep (pe_slice sl_list (pv 5) po_none (po_some (pv 8))) (pe_op op_fdivN (pv 2) (pv 8))) (pa_cons (pe_op op_rep (pe_slice sl_list (pv 6) po_none (po_some (pv 8))) (pe_op op_fdivN (pv 2) (pv 8))) pa_nil)) rfl))) pss_nil)
    (pss_cons (ps_if (PW.pt (pw_and (pt_cmpR op_gt (pv 3) pe_int (nomark _)) (pw_and1 (pt_cmpR op_gt (pv 2) pe_int (nomark _))))) (pss_cons (ps_set (i := 9) sc_law_r_pattern.nd rfl (Or.inl rfl) (pe_op op_fdivN (pv 2) pe_int))
    (pss_cons (ps_par (i := 5) (j := 6) rfl sc_law_r_pattern.nd rfl rfl (by decide) rfl rfl (pa_cons (pe_op op_cat (pe_slice sl_list (pv 5) po_none (po_some (pv 9))) (pe_revL (pe_slice sl_list (pv 5) po_none (po_some (pv 9))))) (pa_cons (pe_op op_cat (pe_slice sl_list (pv 6) po_none (po_some (pv 9))) (pe_lc (own := [("_law_sense", 10)]) (g := (gName 10)) (tt := tYes) (te := (tOp RSub (tC (.int 1)) (tVar 10))) rfl sc_law_r_pattern.nd (pi_list (pe_revL (pe_slice sl_list (pv 6) po_none (po_some (pv 9))))) (blkOk_by (own := [("_law_sense", 10)]) (N := N_law_r_pattern) (sc := defScope s_law_r_pattern) (by decide +kernel)) (fun _ _ _ _ _ => (pg_name (i := 10) sc_law_r_pattern.nd rfl (Or.inl rfl))) (fun _ _ _ _ _ => pts_nil) (fun _ _ _ _ _ => (pe_op op_sub pe_int (pv 10))))) pa_nil)) rfl)
    (pss_cons (ps_set (i := 11) sc_law_r_pattern.nd rfl (Or.inl rfl) (pe_ok G_draw hr (pa_cons (pv 0) (pa_cons (pe_callB call_len_seq rfl T.b_len (by decide +kernel) (pa_cons (pv 5) pa_nil)) pa_nil))))
    (pss_one (ps_par (i := 5) (j := 6) rfl sc_law_r_pattern.nd rfl rfl (by decide) rfl rfl (pa_cons (pe_op op_cat (pe_slice sl_list (pv 5) (po_some (pv 11)) po_none) (pe_slice sl_list (pv 5) po_none (po_some (pv 11)))) (pa_cons (pe_op op_cat (pe_slice sl_list (pv 6) (po_some (pv 11)) po_none) (pe_slice sl_list (pv 6) po_none (po_some (pv 11)))) pa_nil)) rfl))))) pss_nil)
    (pss_one (ps_ret (pe_tup (pa_cons (pv 5) (pa_cons (pv 6) pa_nil)))))))))), ?_⟩
  have z1 := sizeLine_eq
  have nw : ∀ {F1 H1 : Hp} {p : Addr}, Ex [st, q] F H F1 H1 → H1 p = none → H p = none := fun {F1 H1 p} e hp => by
    cases z : H p with
    | none => rfl
    | some o => exact absurd hp (e.dm p (ne_none z))
  refine r_seq (r_asg (r_tup (r_cons (r_op (r_c (r_call (r_cons ⟨_, rfl, r_cons ⟨_, rfl, ?_⟩⟩)))))))
  refine ⟨st, q, 10, F, c, rfl, hF, hS, by decide, by decide, by omega, fun d H1 d0 d1 e1 s1 => ⟨_, _, rfl, rfl, r_cons (r_call (r_cons ⟨_, rfl, r_cons (r_c ?_)⟩))⟩⟩
  refine ⟨st, q, 4, F, c + 1, rfl, e1.fh, s1, by decide, by decide, by omega, fun wy H2 w0 w1 e2 s2 => ⟨by show 2 ≤ sizeLine; decide, fun T0 hT0 => ?_⟩⟩
  obtain ⟨m, hm⟩ : ∃ m : Nat, 1 + d = (m : Int) := ⟨(1 + d).toNat, by omega⟩
  rw [show (fun i j : Int => V.int (i + j)) 1 d = V.int (m : Int) from congrArg V.int hm]
  have m1 : 0 < m := by omega
  have m2 : m ≤ 10 := by omega
  have eT : Ex [] F H2 F (upd H2 T0 (.tup [.int m, .int wy])) := Ex.new e2.fh hT0
  have dT : (upd H2 T0 (.tup [.int m, .int wy])) T0 = some (.tup [.int m, .int wy]) := upd_same
  have s3 := s2.ex0 eT
  have E3 : Ex [st, q] F H F (upd H2 T0 (.tup [.int m, .int wy])) := e1.trans (e2.trans (eT.mono (by simp)))
  generalize upd H2 T0 (.tup [.int m, .int wy]) = H3 at eT dT s3 E3
  refine ⟨T0, _, rfl, SqT.of dT, rfl, _, _, rfl, _, _, rfl, rfl, r_next ?_⟩
  dsimp only
  refine r_seq (r_asg (r_call (r_cons ⟨_, rfl, r_cons ?_⟩)))
  refine em_ll (eml_cons (em_cons em_str em_nil) (eml_cons (em_cons em_str (em_cons em_str em_nil)) (eml_cons (em_cons em_str (em_cons em_str em_nil)) (eml_cons (em_cons em_zero (em_cons em_tupa (em_cons em_str em_nil))) eml_nil)))) eT.fh fun a xs F4 H4 e4 ha hl hx => ?_
  refine ⟨st, q, a, xs, F4, c + 1 + 1, rfl, e4.fh, s3.ex0 e4, ha, by omega, by omega, by omega, fun v H5 hv e5 s5 => r_next ?_⟩
  obtain ⟨b, ws, rfl, hb, hb0, hb1, hbw⟩ := hx v hv
  have E5 : Ex [st, q] F H F4 H5 := E3.trans ((e4.mono (by simp)).trans e5)
  dsimp only
  have hs5 := s5.hs
  have alive : ∀ {F1 H1 : Hp} {c1 : Int}, Strm F1 H1 st q c1 → ∀ p ∈ [st, q], H1 p ≠ none := fun {F1 H1 c1} s p hp => by
    have h2 := s.hs
    rcases List.mem_cons.mp hp with z | z
    · rw [z]; exact h2.1
    · rw [List.mem_singleton.mp z]; exact h2.2.1
  refine r_seq (r_par (r_cons (lcg_rng (n := m) [st, q] (fun R h => ⟨_, rfl, h⟩) e5.fh (alive s5) (by omega) (fun k acc F => acc.length = k ∧ ∀ x ∈ acc, okM F x) (fun k F H => Strm F H st q (c + 1 + 1 + 1 + (k : Nat))) (fun _ _ _ _ h q => ⟨q.1, fun x hx => (q.2 x hx).up h⟩) (jstep (f := fun k => c + 1 + 1 + 1 + (k : Nat)) s5) ⟨rfl, by simp⟩ (by simpa using s5) ?_ ?_)))
  · intro k acc F' H' Kk Nk hk e p s6 _ k1 _
    refine ⟨rfl, _, rfl, _, rfl, st, q, b, ws, F', c + 1 + 1 + 1 + (k : Nat), rfl, e.fh, s6, e.ff _ _ hb, hb0, by omega, by omega, fun v H6 hv6 e6 s7 => k1 v F' H6 e6 ⟨by simp [p.1], fun x hx => ?_⟩ (s7.le (by omega))⟩
    rcases List.mem_append.mp hx with z | z
    · exact p.2 x z
    · rw [List.mem_singleton.mp z]
      exact (hbw v hv6).up e.ff
  intro sa xs F6 H6 e6 hsa fsa dsa p6 s6 _
  have e7 := e6.frz hsa dsa fsa
  have s7 := s6.fz (o := .lst xs) hsa s5
  have dsa7 : (upd F6 sa (.lst xs)) sa = some (.lst xs) := upd_same
  have w7 : ∀ x ∈ xs, okM (upd F6 sa (.lst xs)) x := fun x hx => (p6.2 x hx).up (Same.upd fsa)
  have lxs := p6.1
  generalize upd F6 sa (.lst xs) = F7 at e7 s7 dsa7 w7
  have E7 := E5.trans e7
  have hsa0 := nw E5 hsa
  refine r_cons (lcg_rng (n := m) [st, q] (fun R h => ⟨_, rfl, h⟩) e7.fh (alive s7) (by omega) (fun k acc _ => acc.length = k ∧ ∀ y ∈ acc, ∃ i : Int, y = V.int i) (fun k F H => Strm F H st q (c + 20 + (k : Nat))) (fun _ _ _ _ _ q => q) (jstep (f := fun k => c + 20 + (k : Nat)) s7) ⟨rfl, by simp⟩ (s7.le (by omega)) ?_ ?_)
  · intro k acc F' H' Kk Nk hk e p s8 _ k1 _
    refine ⟨rfl, _, rfl, st, q, 2, F', c + 20 + (k : Nat), rfl, e.fh, s8, by decide, by decide, by omega, fun d H9 g0 g1 e9 s9 => k1 _ F' H9 e9 ⟨by simp [p.1], fun y hy => ?_⟩ (s9.le (by omega))⟩
    rcases List.mem_append.mp hy with z | z
    · exact p.2 y z
    · exact ⟨d, List.mem_singleton.mp z⟩
  intro se ys F8 H8 e8 hse fse dse p8 s8 _
  have e9 := e8.frz hse dse fse
  have s9 := s8.fz (o := .lst ys) hse s7
  have dse9 : (upd F8 se (.lst ys)) se = some (.lst ys) := upd_same
  have lys := p8.1
  have iys := p8.2
  generalize upd F8 se (.lst ys) = F9 at e9 s9 dse9
  have E9 := E7.trans e9
  have pat : Pat F9 sa se m := ⟨⟨xs, ys, e9.ff _ _ dsa7, dse9, lxs, lys, fun x hx => (w7 x hx).up e9.ff, iys⟩, m1, m2⟩
  refine ⟨_, _, rfl, ?_⟩
  dsimp only
  let Inv : Int → L2.St → Hp → Prop := fun k σ' H' => ∃ (sa se : Addr) (n : Nat) (F2 : Hp) (u8 u9 u11 : Option V), σ' = [some (.ref st), some (.int 10), some (.int m), some (.int wy), some (.ref b), some (.ref sa), some (.ref se), none, u8, u9, none, u11] ∧ Ex [st, q] F H F2 H' ∧ Strm F2 H' st q (c + k) ∧ Pat F2 sa se n ∧ (n = m ∨ 99 < k) ∧ H sa = none
  refine r_seqI (Inv 50) ?_ fun nxt => ?_
  · rintro σ' H' ⟨sa, se, n, F2, u8, u9, u11, rfl, E2, s2, pt, hnm, hsa0⟩
    refine r_seqI (Inv 100) ?_ fun nxt => ?_
    · rintro σ' H' ⟨sa, se, n, F2, u8, u9, u11, rfl, E2, s2, pt, _, hsa0⟩
      refine r_ret (r_tup ⟨_, rfl, _, rfl, by show 2 ≤ sizeLine; decide, fun T hT => ?_⟩)
      have e3 : Ex [] F2 H' (upd F2 T (.tup [.ref sa, .ref se])) (upd H' T (.tup [.ref sa, .ref se])) := Ex.newF E2.fh hT
      obtain ⟨xs, ys, a1, a2, a3, a4, a5, a6⟩ := pt.ex
      exact kk T sa se n _ _ (E2.trans (e3.mono (by simp))) (s2.ex0 e3) upd_same hsa0 ⟨⟨xs, ys, e3.ff _ _ a1, e3.ff _ _ a2, a3, a4, fun x hx => (a5 x hx).up e3.ff, a6⟩, pt.pos, pt.le⟩
    · -- mirrored
      refine r_ifS ⟨_, rfl, _, _, rfl, rfl, _, rfl, ?_⟩
      have keep : Inv 100 [some (.ref st), some (.int 10), some (.int m), some (.int wy), some (.ref b), some (.ref sa), some (.ref se), none, u8, u9, none, u11] H' := ⟨sa, se, n, F2, u8, u9, u11, rfl, E2, s2.le (by omega), pt, .inr (by omega), hsa0⟩
      refine ite2 (fun _ => ⟨_, rfl, _, _, rfl, rfl, _, rfl, ite2 (fun hm1 => ?_) (fun _ => r_next (nxt _ _ keep))⟩) (fun _ => r_next (nxt _ _ keep))
      obtain rfl : n = m := by rcases hnm with z | z <;> omega
      obtain ⟨xs, ys, a1, a2, a3, a4, a5, a6⟩ := pt.ex
      have hm2 : 1 < n := by
        have := of_decide_eq_true hm1
        omega
      refine r_seq (r_asg ⟨_, rfl, _, _, rfl, rfl, ⟨by decide, by decide⟩, r_next ?_⟩)
      have eh : (fun i j : Int => V.int (i.fdiv j)) (n : Int) 2 = V.int ((n / 2 : Nat) : Int) := by
        show V.int ((n : Int).fdiv 2) = _
        rw [Int.fdiv_eq_ediv_of_nonneg _ (by omega)]
        rfl
      rw [eh]
      dsimp only
      have hh : n / 2 ≤ n := Nat.div_le_self _ _
      have h0 : 0 < n / 2 := by omega
      refine r_seq (r_par (r_cons (cat_mirror (i := n / 2) rfl rfl E2.fh a1 (by omega) (by omega) fun p4 H4 e4 hp4 => ?_)))
      have d4 : (upd F2 p4 (.lst (xs.take (n / 2) ++ (xs.take (n / 2)).reverse))) p4 = some (.lst (xs.take (n / 2) ++ (xs.take (n / 2)).reverse)) := upd_same
      generalize upd F2 p4 (.lst (xs.take (n / 2) ++ (xs.take (n / 2)).reverse)) = F4 at e4 d4
      have E4 := E2.trans (e4.mono (M' := [st, q]) (by simp))
      have s4 := s2.ex0 e4
      have hp40 : H p4 = none := nw E2 hp4
      have a2' := e4.ff _ _ a2
      refine r_cons ⟨_, rfl, _, rfl, _, rfl, se, _, rfl, SqL.of (e4.fh _ _ a2'), fun p5 hp5 => ?_⟩
      rw [cut_to _ (by omega) (by omega)]
      have d5 : (upd H4 p5 (.lst (ys.take (n / 2)))) p5 = some (.lst (ys.take (n / 2))) := upd_same
      have e5' : Ex [] F4 H4 F4 (upd H4 p5 (.lst (ys.take (n / 2)))) := Ex.new e4.fh hp5
      have s5' := s4.ex0 e5'
      generalize upd H4 p5 (.lst (ys.take (n / 2))) = H5' at d5 e5' s5'
      refine lcg_eval (fun Q Q' hq h => rev_mono Q' hq h) (rev_cut (i := n / 2) rfl rfl e5'.fh a2' (by omega) (by omega) fun p6 H6' e6' hp6 d6 => ?_)
      have hp6F : F4 p6 = none := Same.free e5'.fh hp6
      have e7' := e6'.frz hp6 d6 hp6F
      have d56 := e6'.at d5
      have s7' := s5'.ex0 e7'
      have d7 : (upd F4 p6 (.lst (ys.take (n / 2)).reverse)) p6 = some (.lst (ys.take (n / 2)).reverse) := upd_same
      have a27 := e7'.ff _ _ a2'
      generalize upd F4 p6 (.lst (ys.take (n / 2)).reverse) = F7' at e7' d7 s7' a27
      refine ⟨p6, _, F7', fun k acc _ => acc.length = k ∧ ∀ y ∈ acc, ∃ i : Int, y = V.int i, rfl, e7'.fh, d7, by rw [List.length_reverse, List.length_take]; omega, fun _ _ _ _ _ h => h, ⟨rfl, by simp⟩, ?_, ?_⟩
      · intro k x acc F8' H8' Kk Nk hk hx e8' p8' _ k8 _
        obtain ⟨iv, rfl⟩ := a6 x (List.mem_of_mem_take (List.mem_reverse.mp (List.mem_of_getElem? hx)))
        refine ⟨rfl, _, rfl, _, _, rfl, rfl, k8 _ F8' H8' (Ex.refl e8'.fh) ⟨by simp [p8'.1], fun y hy => ?_⟩⟩
        rcases List.mem_append.mp hy with z | z
        · exact p8'.2 y z
        · exact ⟨_, List.mem_singleton.mp z⟩
      · intro D8 acc F8' H8' e8' hD8 fD8 dD8 p8' _
        have d58 := e8'.at d56
        have l8 : acc.length = n / 2 := by rw [p8'.1, List.length_reverse, List.length_take]; omega
        have lt5 : (ys.take (n / 2)).length = n / 2 := by rw [List.length_take]; omega
        refine ⟨p5, D8, _, _, rfl, rfl, d58, dD8, by rw [l8, lt5]; omega, fun p9 hp9 => ⟨_, _, rfl, ?_⟩⟩
        have e9' : Ex [] F8' H8' (upd F8' p9 (.lst (ys.take (n / 2) ++ acc))) (upd H8' p9 (.lst (ys.take (n / 2) ++ acc))) := Ex.newF e8'.fh hp9
        have d9' : (upd F8' p9 (.lst (ys.take (n / 2) ++ acc))) p9 = some (.lst (ys.take (n / 2) ++ acc)) := upd_same
        have E9' : Ex [] F4 H4 (upd F8' p9 (.lst (ys.take (n / 2) ++ acc))) (upd H8' p9 (.lst (ys.take (n / 2) ++ acc))) := e5'.trans (e7'.trans (e8'.trans e9'))
        generalize upd F8' p9 (.lst (ys.take (n / 2) ++ acc)) = F10 at e9' d9' E9'
        generalize upd H8' p9 (.lst (ys.take (n / 2) ++ acc)) = H10 at e9' E9'
        have s10 := s4.ex0 E9'
        have d410 := E9'.ff _ _ d4
        have ll4 : (xs.take (n / 2) ++ (xs.take (n / 2)).reverse).length = 2 * (n / 2) := by rw [List.length_append, List.length_reverse, List.length_take]; omega
        have ll9 : (ys.take (n / 2) ++ acc).length = 2 * (n / 2) := by rw [List.length_append, lt5, l8]; omega
        have ok10 : ∀ x ∈ xs.take (n / 2) ++ (xs.take (n / 2)).reverse, okM F10 x := fun x hx => by
          have hx2 : x ∈ xs := by
            rcases List.mem_append.mp hx with z | z
            · exact List.mem_of_mem_take z
            · exact List.mem_of_mem_take (List.mem_reverse.mp z)
          exact ((a5 x hx2).up e4.ff).up E9'.ff
        have in10 : ∀ y ∈ ys.take (n / 2) ++ acc, ∃ i : Int, y = V.int i := fun y hy => by
          rcases List.mem_append.mp hy with z | z
          · exact a6 y (List.mem_of_mem_take z)
          · exact p8'.2 y z
        refine r_next ?_
        dsimp only
        refine r_seq (r_asg (r_call (r_cons ⟨_, rfl, r_cons (r_cb (r_cons ⟨_, rfl, p4, _, rfl, .inl (SqL.of (E9'.fh _ _ d410)), ?_⟩))⟩)))
        rw [ll4]
        refine ⟨st, q, ((2 * (n / 2) : Nat) : Int), F10, c + 50, rfl, E9'.fh, s10, by omega, by omega, by omega, fun sp H11 g0 g1 e11 s11 => r_next ?_⟩
        obtain ⟨spn, rfl⟩ : ∃ spn : Nat, sp = (spn : Int) := ⟨sp.toNat, by omega⟩
        dsimp only
        refine r_par (r_cons (cat_turn (i := spn) rfl rfl e11.fh d410 (by omega) (by omega) fun p12 H12 e12 hp12 => r_cons (cat_turn (i := spn) rfl rfl e12.fh (e12.ff _ _ d9') (by omega) (by omega) fun p13 H13 e13 hp13 => ⟨_, _, rfl, ?_⟩)))
        have E11 : Ex [st, q] F H F10 H11 := E4.trans ((E9'.mono (by simp)).trans e11)
        have E13 := E11.trans ((e12.trans e13).mono (M' := [st, q]) (by simp))
        refine nxt _ _ ⟨p12, p13, 2 * (n / 2), _, _, _, _, rfl, E13, (s11.ex0 (e12.trans e13)).le (by omega), ⟨⟨_, _, e13.ff _ _ upd_same, upd_same, by rw [List.length_append, List.length_drop, List.length_take]; omega, by rw [List.length_append, List.length_drop, List.length_take]; omega, fun x hx => ?_, fun y hy => ?_⟩, by omega, by omega⟩, .inr (by omega), nw E11 hp12⟩
        · have hx2 : x ∈ xs.take (n / 2) ++ (xs.take (n / 2)).reverse := by
            rcases List.mem_append.mp hx with z | z
            · exact List.mem_of_mem_drop z
            · exact List.mem_of_mem_take z
          exact (ok10 x hx2).up (Same.trans e12.ff e13.ff)
        · refine in10 y ?_
          rcases List.mem_append.mp hy with z | z
          · exact List.mem_of_mem_drop z
          · exact List.mem_of_mem_take z
  · -- with a period
    refine r_ifS ⟨_, rfl, rfl, _, rfl, ?_⟩
    refine ite2 (fun _ => ?_) (fun _ => r_next (nxt _ _ ⟨sa, se, m, F9, _, _, _, rfl, E9, s9.le (by omega), pat, .inl rfl, hsa0⟩))
    refine r_seq (r_asg (r_call (r_cons ⟨_, rfl, r_cons ?_⟩)))
    refine lcg_rng2 (lo := 1) (hi := m + 1) [] (fun R h => r_cons (r_c (r_cons ⟨_, rfl, _, _, rfl, rfl, h⟩))) (by omega) (by omega) e9.fh (by simp) (fun k acc _ => acc = intsV (divs m k)) (fun _ _ _ => True) (fun _ _ _ _ _ h => h) (fun _ _ _ _ _ _ _ _ _ => trivial) rfl trivial ?_ ?_
    · intro k acc F' H' Kk Nk hk2 e p _ _ k1 k2
      have ev : (((m : Nat) : Int).fmod ((1 + k : Nat) : Int) = 0) ↔ m % (k + 1) = 0 := by
        rw [Int.fmod_eq_emod_of_nonneg _ (by omega), ← Int.natCast_emod, Nat.add_comm 1 k]
        omega
      refine ⟨rfl, _, rfl, _, rfl, _, _, rfl, rfl, by omega, rfl, _, rfl, ite2 (fun hc => ⟨_, rfl, k1 _ F' H' (Ex.refl e.fh) ?_ trivial⟩) (fun hc => k2 F' H' (Ex.refl e.fh) ?_ trivial)⟩
      · have := ev.mp (V.int.inj (of_decide_eq_true hc))
        rw [p, divs_snoc, if_pos this, Nat.add_comm 1 k]
        simp [intsV]
      · rw [p, divs_snoc, if_neg fun z => hc (decide_eq_true (congrArg V.int (ev.mpr z)))]
    · intro D acc F1 H1 e1 hD fD dD p _ _
      rw [show m + 1 - 1 = m by omega] at p
      have e2 := e1.frz hD dD fD
      have dD2 : (upd F1 D (.lst acc)) D = some (.lst acc) := upd_same
      have s10 := s9.ex0 e2
      generalize upd F1 D (.lst acc) = F10 at e2 dD2 s10
      have ne : 0 < acc.length := by
        rw [p, intsV_len]
        exact List.length_pos_of_mem (divs_mem.mpr ⟨m1, Nat.le_refl _, Nat.dvd_refl _⟩)
      have le : acc.length ≤ m := by
        rw [p, intsV_len]
        have h2 : (divs m m).length ≤ ((List.range m).map (· + 1)).length := List.length_filter_le _ _
        simpa using h2
      refine ⟨st, q, D, acc, F10, c + 40, rfl, e2.fh, s10.le (by omega), dD2, by omega, by omega, by omega, fun v H11 hv e11 s11 => r_next ?_⟩
      obtain ⟨dv, hdv, rfl⟩ : ∃ dv : Nat, dv ∈ divs m m ∧ v = V.int (dv : Nat) := by
        rw [p] at hv
        obtain ⟨dv, h1, h2⟩ := List.mem_map.mp hv
        exact ⟨dv, h1, h2.symm⟩
      obtain ⟨q1, q2, q3⟩ := divs_mem.mp hdv
      obtain ⟨xs, ys, a1, a2, a3, a4, a5, a6⟩ := pat.ex
      have le2 := Same.trans e2.ff e11.ff
      dsimp only
      have ml : ∀ zs : List V, zs.length = m → ((List.replicate (m / dv) (zs.take dv)).flatten).length = m := fun zs hz => by
        simp only [List.length_flatten, List.map_replicate, List.sum_replicate_nat, List.length_take]
        rw [hz, Nat.min_eq_left q2]
        exact Nat.div_mul_cancel q3
      have mm : ∀ zs : List V, ∀ x ∈ (List.replicate (m / dv) (zs.take dv)).flatten, x ∈ zs := fun zs x hx => by
        obtain ⟨l, hl, hxl⟩ := List.mem_flatten.mp hx
        rw [(List.mem_replicate.mp hl).2] at hxl
        exact List.mem_of_mem_take hxl
      refine r_par (r_cons (rep_cut (i := dv) (n := m) rfl rfl rfl e11.fh (le2 _ _ a1) (by omega) q1 (by omega) (by omega) fun p12 H12 e12 hp12 => r_cons (rep_cut (i := dv) (n := m) rfl rfl rfl e12.fh (e12.ff _ _ (le2 _ _ a2)) (by omega) q1 (by omega) (by omega) fun p13 H13 e13 hp13 => ⟨_, _, rfl, ?_⟩)))
      have E11 : Ex [st, q] F H F10 H11 := E9.trans ((e2.mono (by simp)).trans e11)
      have E13 := E11.trans ((e12.trans e13).mono (M' := [st, q]) (by simp))
      refine nxt _ _ ⟨p12, p13, m, _, _, _, _, rfl, E13, (s11.ex0 (e12.trans e13)).le (by omega), ⟨⟨_, _, e13.ff _ _ upd_same, upd_same, ml xs a3, ml ys a4, fun x hx => ?_, fun y hy => a6 y (mm ys y hy)⟩, m1, m2⟩, .inl rfl, nw E11 hp12⟩
      exact (((a5 x (mm xs x hx)).up le2).up e12.ff).up e13.ff
end
end T3

namespace T3
open PySem PySem.Spec PyProof.Rows L2 Ly
section
variable {P : Program} {w : World} {K : PySem.W.Frag} {mg : Str → Option Value} {base : Heap}
/-! ### lists in the place of tuples -/
mutual
def nds : PyData → Nat
  | .list ds => ndsAll ds + 1
  | .tuple ds => ndsAll ds + 1
  | _ => 0
def ndsAll : List PyData → Nat
  | [] => 0
  | d :: ds => nds d + ndsAll ds
end
theorem ndsAll_snoc (d : PyData) : ∀ ds : List PyData, ndsAll (ds ++ [d]) = ndsAll ds + nds d
  | [] => by simp [ndsAll]
  | e :: ds => by
    simp only [List.cons_append, ndsAll, ndsAll_snoc d ds]
    omega
theorem ndsAll_take {ds : List PyData} {k : Nat} {d : PyData} (h : ds[k]? = some d) : ndsAll (ds.take (k + 1)) = ndsAll (ds.take k) + nds d := by
  rw [List.take_add_one, h]
  exact ndsAll_snoc d _
theorem ndsAll_le (k : Nat) : ∀ ds : List PyData, ndsAll (ds.take k) ≤ ndsAll ds := by
  induction k with
  | zero => intro ds; simp [ndsAll]
  | succ k ih =>
    intro ds
    cases ds with
    | nil => simp [ndsAll]
    | cons d ds =>
      have := ih ds
      simp only [List.take_succ_cons, ndsAll]
      omega
theorem nds_at {d : PyData} : ∀ {ds : List PyData} {k : Nat}, ds[k]? = some d → ndsAll (ds.take k) + nds d ≤ ndsAll ds := fun {ds k} h => by
  have := ndsAll_take h
  have := ndsAll_le (k + 1) ds
  omega
theorem toWs_take (ds : List PyData) (k : Nat) : toWs (ds.take k) = (toWs ds).take k := by
  induction k generalizing ds with
  | zero => simp [toWs]
  | succ k ih =>
    cases ds with
    | nil => simp [toWs]
    | cons d ds => simp [toWs, ih]
theorem toWs_snoc (d : PyData) : ∀ ds : List PyData, toWs (ds ++ [d]) = toWs ds ++ [toW d]
  | [] => by simp [toWs]
  | e :: ds => by simp [toWs, toWs_snoc d ds]
theorem wordys_snoc (d : PyData) : ∀ ds : List PyData, wordys (ds ++ [d]) = (wordys ds && wordy d)
  | [] => by simp [wordys]
  | e :: ds => by simp [wordys, wordys_snoc d ds, Bool.and_assoc]
theorem deps_snoc (d : PyData) (m : Nat) : ∀ ds : List PyData, PyData.depthAll ds ≤ m → d.depth ≤ m → PyData.depthAll (ds ++ [d]) ≤ m
  | [], _, h => by simp [PyData.depthAll]; exact h
  | e :: ds, h1, h2 => by
    simp only [List.cons_append, PyData.depthAll] at h1 ⊢
    have := deps_snoc d m ds (by omega) h2
    omega
theorem dds_snoc {F : Hp} {d : PyData} {v : V} (h : Dd F d v) : ∀ {ds : List PyData} {vs : List V}, Dds F ds vs → Dds F (ds ++ [d]) (vs ++ [v])
  | [], vs, h2 => by
    have := dds_nil.mp h2
    subst this
    simp [Dds]
    exact h
  | e :: ds, vs, h2 => by
    simp only [Dds] at h2
    obtain ⟨u, r, rfl, h3, h4⟩ := h2
    simp only [List.cons_append, Dds]
    exact ⟨u, r ++ [v], rfl, h3, dds_snoc h h4⟩
def spLoose (n : Nat) : Sp := fun vs H Q _ => ∃ (st q : Addr) (x : V) (d : PyData) (F : Hp) (c : Int), vs = [.ref st, x] ∧ Same F H ∧ Strm F H st q c ∧ Dd F d x ∧ wordy d = true ∧ d.depth < n ∧ c + nds d < 900000000 ∧
  ∀ v d' F' H', Ex [st, q] F H F' H' → Strm F' H' st q (c + nds d) → Dd F' d' v → toW d' = toW d → wordy d' = true → d'.depth ≤ d.depth → seqy d' = seqy d → Q v H'
theorem ok_law_loose (T : Top K mg) : ∀ n : Nat, Ok P w K mg base "_law_loose" (n + 2) ["_law_stream", "_law_thing"] (spLoose n)
  | 0 => ok_never T.g__law_loose T.F_law_loose (fun _ _ _ _ _ _ us hl => match us, hl with | [_, _], _ => rfl) fun vs H Q E h => by
    obtain ⟨st, q, x, d, F, c, _, _, _, _, _, h, _⟩ := h
    omega
  | n + 1 => by
    have G_draw : Ok P w K mg base "_law_draw" 1 ["_law_stream", "_law_many"] spDraw := ok_law_draw T
    have G_loose : Ok P w K mg base "_law_loose" (n + 2) ["_law_stream", "_law_thing"] (spLoose n) := ok_law_loose T n
    refine ok_of T.g__law_loose T.F_law_loose sc_law_loose (fun _ _ _ _ _ _ us hl => match us, hl with | [_, _], _ => rfl) (fun vs H Q E h => ?_) (fun cdv A outer s H vs Q E hr h => ?_)
    · first | (obtain ⟨rfl, _⟩ := h; rfl) | (obtain ⟨_, rfl, _⟩ := h; rfl) | (obtain ⟨_, _, rfl, _⟩ := h; rfl) | (obtain ⟨_, _, _, rfl, _⟩ := h; rfl) | (obtain ⟨_, _, _, _, rfl, _⟩ := h; rfl) | (obtain ⟨_, _, _, _, _, rfl, _⟩ := h; rfl) | (obtain ⟨_, _, _, _, _, _, rfl, _⟩ := h; rfl) | (obtain ⟨_, _, _, _, _, _, _, rfl, _⟩ := h; rfl) | (obtain ⟨_, _, _, _, _, _, _, _, rfl, _⟩ := h; rfl) | (obtain ⟨_, _, _, _, _, _, _, _, _, rfl, _⟩ := h; rfl) | (obtain ⟨_, _, _, _, _, _, _, _, _, _, rfl, _⟩ := h; rfl) | (obtain ⟨_, _, _, _, _, _, _, _, _, _, _, rfl, _⟩ := h; rfl)
    obtain ⟨st, q, x, d, F, c, rfl, hF, hS, hx, hw, hn, hc, kk⟩ := h
    refine ⟨_, (pss_cons (ps_if (pt_not (pt_val (pe_callB call_isiT rfl T.b_isinstance (by decide +kernel) (pa_cons (pv 1) (pa_cons (pe_tup (pa_cons (pe_bltn rfl T.b_list (by decide +kernel) (show RelV (.ty "list") _ from rfl)) (pa_cons (pe_bltn rfl T.b_tuple (by decide +kernel) (show RelV (.ty "tuple") _ from rfl)) pa_nil))) pa_nil))))) (pss_one (ps_ret (pv 1))) pss_nil)
    (pss_cons (ps_setLc (i := 2) (own := [("_law_part", 3)]) (g := (gName 3)) (tt := tYes) (te := (tCall (spLoose n) [] E0 (tCons (tVar 0) (tCons (tVar 3) tNil)))) rfl sc_law_loose.nd rfl rfl (sw_true rfl rfl rfl (by decide +kernel)) (pi_seqV (pv 1)) (blkOk_by (own := [("_law_part", 3)]) (N := N_law_loose) (sc := defScope s_law_loose) (by decide +kernel)) (fun _ _ _ _ _ => (pg_name (i := 3) sc_law_loose.nd rfl (Or.inl rfl))) (fun _ _ _ _ _ => pts_nil) (fun _ _ _ _ _ => (pe_ok G_loose hr (pa_cons (pv 0) (pa_cons (pv 3) pa_nil)))))
    (pss_one (ps_ret (pe_ifExp (pt_cmpR op_eq (pe_ok G_draw hr (pa_cons (pv 0) (pa_cons pe_int pa_nil))) pe_int (nomark _)) (pv 2) (pe_callTy call_tuple_of rfl T.b_tuple (by decide +kernel) (pa_cons (pv 2) pa_nil))))))), ?_⟩
    have z1 := sizeLine_eq
    refine r_seq (r_ifS ?_)
    refine ⟨_, rfl, by show 2 ≤ sizeLine; decide, fun p hp => ?_⟩
    have e : Ex [] F H F (upd H p (.tup [.ty "list", .ty "tuple"])) := Ex.new hF hp
    have tx := dd_tyx (K := K) hx e.fh
    have sE := hS.ex0 e
    have dP : (upd H p (.tup [.ty "list", .ty "tuple"])) p = some (.tup [.ty "list", .ty "tuple"]) := upd_same
    generalize (upd H p (.tup [.ty "list", .ty "tuple"])) = H1 at e tx sE dP
    refine ⟨_, p, _, .type (tyN d), [.type "list", .type "tuple"], seqy d, rfl, dP, .cons (.ty _) (.cons (.ty _) .nil), tx, kit_seq d, _, rfl, ?_⟩
    have alt : (seqy d = false ∧ nds d = 0) ∨ ∃ (ds : List PyData) (a : Addr) (vs : List V), seqy d = true ∧ x = .ref a ∧ (F a = some (.lst vs) ∨ F a = some (.tup vs)) ∧ Dds F ds vs ∧ ds.length < 1000000 ∧ wordys ds = true ∧ nds d = ndsAll ds + 1 ∧ toW d = .tup (toWs ds) ∧ d.depth = PyData.depthAll ds + 1 := by
      cases d with
      | list ds =>
        obtain ⟨a, vs, h1, h2, h3, h4⟩ := dd_list.mp hx
        exact .inr ⟨ds, a, vs, rfl, h1, .inl h2, h3, h4, by simpa [wordy] using hw, rfl, by simp [toW], by simp [PyData.depth]⟩
      | tuple ds =>
        obtain ⟨a, vs, h1, h2, h3, h4⟩ := dd_tuple.mp hx
        exact .inr ⟨ds, a, vs, rfl, h1, .inr h2, h3, h4, by simpa [wordy] using hw, rfl, by simp [toW], by simp [PyData.depth]⟩
      | _ => exact .inl ⟨rfl, rfl⟩
    rcases alt with ⟨hs, h0⟩ | ⟨ds, a, vs, hs, rfl, ha, hds, hl, hws, hnd, htw, hdp⟩
    · rw [hs]
      refine iteT (r_ret ⟨_, rfl, ?_⟩)
      exact kk x d F H1 (e.mono (by simp)) (sE.le (by omega)) hx rfl hw (Nat.le_refl _) rfl
    · rw [hs]
      refine iteF (r_next ?_)
      dsimp only
      have lvs := hds.len
      have hsE := sE.hs
      refine r_seq (r_asg (lcg_seqV [st, q] rfl ha e.fh (fun p hp => by
        rcases List.mem_cons.mp hp with z | z
        · rw [z]; exact hsE.1
        · rw [List.mem_singleton.mp z]; exact hsE.2.1) (by omega)
        (fun k acc F => ∃ ds' : List PyData, Dds F ds' acc ∧ toWs ds' = (toWs ds).take k ∧ wordys ds' = true ∧ PyData.depthAll ds' ≤ PyData.depthAll ds ∧ ds'.length = k) (fun k F H => Strm F H st q (c + (ndsAll (ds.take k) : Nat))) (fun k acc F F2 h ⟨ds', a1, a2⟩ => ⟨ds', Dds.up h a1, a2⟩) (jstep (f := fun k => c + (ndsAll (ds.take k) : Nat)) sE) ⟨[], by simp [Dds], by simp [toWs], by simp [wordys], by simp [PyData.depthAll], rfl⟩ (by simpa [ndsAll] using sE) ?_ ?_))
      · rintro k y acc F' H' Kk Nk hk hy e4 ⟨ds', a1, a2, a3, a4, a5⟩ s4 _ k1 _
        obtain ⟨dk, hdk, ddk⟩ := hds.get hy
        have hm := List.mem_of_getElem? hdk
        have dep := depth_mem hm
        have nd1 := nds_at hdk
        have nd2 := ndsAll_take hdk
        refine ⟨rfl, _, rfl, _, rfl, st, q, y, dk, F', c + (ndsAll (ds.take k) : Nat), rfl, e4.fh, s4, ddk.up e4.ff, wordys_mem hws hm, by omega, by omega, fun v d' F5 H5 e5 s5 dd5 tw5 w5 dp5 _ => k1 v F5 H5 e5 ⟨ds' ++ [d'], dds_snoc dd5 (Dds.up e5.ff a1), ?_, ?_, deps_snoc d' _ ds' a4 (by omega), by simp [a5]⟩ (s5.le (by omega))⟩
        · rw [toWs_snoc, a2, tw5, toWs_at hdk]
        · rw [wordys_snoc, a3, w5]
          rfl
      · rintro D acc F' H' e4 hD fD dD ⟨ds', a1, a2, a3, a4, a5⟩ s4 _
        rw [List.take_of_length_le (by rw [toWs_len]; omega)] at a2
        rw [List.take_of_length_le (by omega)] at s4
        have e5 := e4.frz hD dD fD
        have s5 := s4.fz (o := .lst acc) hD sE
        have dD5 : (upd F' D (.lst acc)) D = some (.lst acc) := upd_same
        have a15 : Dds (upd F' D (.lst acc)) ds' acc := Dds.up (Same.upd fD) a1
        generalize upd F' D (.lst acc) = F5 at e5 s5 dD5 a15
        have E5 : Ex [st, q] F H F5 H' := (e.mono (by simp)).trans e5
        refine r_next ?_
        dsimp only
        refine r_ret (r_if ⟨_, rfl, st, q, 3, F5, c + (ndsAll ds : Nat), rfl, e5.fh, s5, by decide, by decide, by omega, fun g H6 g0 g1 e6 s6 => ⟨rfl, _, rfl, ?_⟩⟩)
        refine ite2 (fun _ => ⟨_, rfl, ?_⟩) (fun _ => r_cb (r_cons ⟨_, rfl, D, acc, rfl, .inl ⟨SqL.of (e6.fh _ _ dD5), fun l hl => ?_⟩⟩))
        · exact kk _ (.list ds') F5 H6 (E5.trans e6) (s6.le (by omega)) (dd_list.mpr ⟨D, acc, rfl, dD5, a15, by omega⟩) (by rw [htw]; simp [toW, a2]) (by simpa [wordy] using a3) (by rw [hdp]; simp [PyData.depth]; exact a4) hs.symm
        · have e7 : Ex [] F5 H6 (upd F5 l (.tup acc)) (upd H6 l (.tup acc)) := Ex.newF e6.fh hl
          exact kk _ (.tuple ds') _ _ ((E5.trans e6).trans (e7.mono (by simp))) ((s6.ex0 e7).le (by omega)) (dd_tuple.mpr ⟨l, acc, rfl, upd_same, Dds.up e7.ff a15, by omega⟩) (by rw [htw]; simp [toW, a2]) (by simpa [wordy] using a3) (by rw [hdp]; simp [PyData.depth]; exact a4) hs.symm
end
end T3

namespace T3
open PySem PySem.Spec PyProof.Rows L2 Ly
section
variable {P : Program} {w : World} {K : PySem.W.Frag} {mg : Str → Option Value} {base : Heap}
/-! ### lists of numbers as they are told -/
theorem dds_of {F : Hp} : ∀ {ds : List PyData} {vs : List V}, vs.length = ds.length → (∀ (i : Nat) d v, ds[i]? = some d → vs[i]? = some v → Dd F d v) → Dds F ds vs
  | [], vs, hl, _ => by
    cases vs with
    | nil => simp [Dds]
    | cons a r => simp at hl
  | d :: ds, vs, hl, h => by
    cases vs with
    | nil => simp at hl
    | cons a r =>
      have h2 := dds_of (F := F) (ds := ds) (vs := r) (by simpa using hl) fun i d' v h1 h2 => h (i + 1) d' v (by simpa using h1) (by simpa using h2)
      have h1 := h 0 d a rfl rfl
      simp only [Dds]
      exact ⟨a, r, rfl, h1, h2⟩
def intsD (l : List Nat) : PyData := .list (l.map fun n : Nat => PyData.int (n : Int))
theorem intsD_dd {F : Hp} {q : Addr} {l : List Nat} (h : F q = some (.lst (intsV l))) (hl : l.length < 1000000) : Dd F (intsD l) (.ref q) := dd_list.mpr ⟨q, _, rfl, h, dds_of (by simp [intsV]) fun i d v h1 h2 => by
  rw [List.getElem?_map] at h1
  rw [intsV_get] at h2
  cases z : l[i]? with
  | none => rw [z] at h1; cases h1
  | some n =>
    rw [z] at h1 h2
    obtain rfl := Option.some.inj h1
    obtain rfl := Option.some.inj h2
    exact dd_int.mpr rfl, by simpa using hl⟩
theorem lstys_ints : ∀ l : List Nat, lstys (l.map fun n : Nat => PyData.int (n : Int)) = true
  | [] => by simp [lstys]
  | n :: l => by simp [lstys, lsty, lstys_ints l]
theorem intsD_ty (l : List Nat) : lsty (intsD l) = true := by simp [intsD, lsty, lstys_ints]
theorem dep_nats : ∀ l : List Nat, PyData.depthAll (l.map fun n : Nat => PyData.int (n : Int)) = 0
  | [] => by simp [PyData.depthAll]
  | n :: l => by simp [PyData.depthAll, PyData.depth, dep_nats l]
theorem intsD_dep (l : List Nat) : (intsD l).depth = 1 := by simp [intsD, PyData.depth, dep_nats]
theorem lls_ty : ∀ ls : List (List Nat), lstys (ls.map intsD) = true
  | [] => by simp [lstys]
  | n :: l => by simp [lstys, intsD_ty, lls_ty l]
theorem lls_dep : ∀ ls : List (List Nat), PyData.depthAll (ls.map intsD) ≤ 1
  | [] => by simp [PyData.depthAll]
  | n :: l => by
    have := lls_dep l
    simp only [List.map_cons, PyData.depthAll, intsD_dep]
    omega
theorem ll_dd {F : Hp} {D : Addr} {ls : List (List Nat)} (h : LL F D ls) (hl : ls.length < 1000000) (h2 : ∀ l ∈ ls, l.length < 1000000) : Dd F (.list (ls.map intsD)) (.ref D) := by
  obtain ⟨vs, a, b, c⟩ := h
  refine dd_list.mpr ⟨D, vs, rfl, a, dds_of (by rw [b, List.length_map]) fun i d v h3 h4 => ?_, by simpa using hl⟩
  rw [List.getElem?_map] at h3
  cases z : ls[i]? with
  | none => rw [z] at h3; cases h3
  | some l =>
    rw [z] at h3
    obtain rfl := Option.some.inj h3
    obtain ⟨q, h5, h6⟩ := c i l z
    rw [h5] at h4
    obtain rfl := Option.some.inj h4
    exact intsD_dd h6 (h2 l (List.mem_of_getElem? z))
end
end T3

namespace T3
open PySem PySem.Spec PyProof.Rows L2 Ly
section
variable {P : Program} {w : World} {K : PySem.W.Frag} {mg : Str → Option Value} {base : Heap}
/-! ### one ring is right -/
theorem rgVC_steps {n p k : Nat} : rgVC (k : Int) (p : Int) (n / p) = intsV (steps n p k) := by
  unfold rgVC intsV steps
  rw [List.map_map]
  refine List.map_congr_left fun t _ => ?_
  show V.int ((k : Int) + (t : Int) * (p : Int)) = V.int ((k + t * p : Nat) : Int)
  congr 1
theorem wok_kwok {k : W} (h : Wok k) : kWok k := ⟨h.fl, h.lay, by have := h.dp; omega⟩
structure Rg (F : Hp) (a : Addr) (xs : List V) (ks : List W) : Prop where
  at_ : F a = some (.lst xs)
  w : Wks F ks xs
  ok : ∀ k ∈ ks, Wok k
  pos : 0 < ks.length
  sml : ks.length < 500
theorem Rg.up {F F2 : Hp} {a : Addr} {xs : List V} {ks : List W} (r : Rg F a xs ks) (h : Same F F2) : Rg F2 a xs ks := ⟨h _ _ r.at_, r.w.up h, r.ok, r.pos, r.sml⟩
theorem Rg.ful {F : Hp} {a : Addr} {xs : List V} {ks : List W} (r : Rg F a xs ks) : wordys (NestedKey.datas ks) = true := by
  rw [wordys_datas]
  exact fulls_of fun k hk => (r.ok k hk).fl
theorem Rg.dep {F : Hp} {a : Addr} {xs : List V} {ks : List W} (r : Rg F a xs ks) : PyData.depthAll (NestedKey.datas ks) < 6 := by
  rw [depths_datas]
  have := dall_le (n := 5) (ks := ks) fun k hk => by have := (r.ok k hk).dp; omega
  omega
/-- what least_period and ring_rounds of some signs are to be -/
theorem due2 {F H : Hp} {σ : L2.St} {i : Nat} {a : Addr} {xs : List V} {ds : List PyData} {Q : VK} (hi : σ[i]? = some (some (.ref a))) (hF : Same F H) (ha : F a = some (.lst xs) ∨ F a = some (.tup xs)) (hw : Dds F ds xs) (ho : wordys ds = true) (hk : ∀ k ∈ toWs ds, kWok k) (hd : PyData.depthAll ds < 6) (h0 : 0 < ds.length) (h1 : ds.length < 100000)
    (k : ∀ (p L : Nat) (q : Addr) H', IsPer (toWs ds) p → IsL (toWs ds) L → Ex [] F H (upd F q (.lst (intsV [p, L]))) H' → H q = none → Q (.ref q) H') :
    tLst (tCons (tCall spLeast [] E0 (tCons (tVar i) tNil)) (tCons (tCall spRounds [] E0 (tCons (tVar i) tNil)) tNil)) σ H Q := by
  refine ⟨_, hi, a, xs, ds, F, rfl, hF, ha, hw, ho, hk, hd, h0, h1, fun p F1 H1 P e1 => ⟨_, hi, a, xs, ds, F, rfl, fun b o z => e1.fh b o (e1.ff b o z), ha, hw, ho, hk, hd, h0, h1, fun L H2 l e2 => ⟨by show 2 ≤ sizeLine; decide, fun q hq => ?_⟩⟩⟩
  have E := e1.drop.trans e2
  refine k p L q _ P l (E.trans (Ex.newF e2.fh hq)) ?_
  cases z : H q with
  | none => rfl
  | some o => exact absurd hq (E.dm q (ne_none z))
def spOneR (K : PySem.W.Frag) : Sp := fun vs H Q _ => ∃ (a : Addr) (xs : List V) (ks : List W) (F : Hp), vs = [.ref a] ∧ Same F H ∧ Rg F a xs ks ∧ ∀ H', Ex [] F H F H' → Q (.bl true) H'
theorem ok_one_right (T : Top K mg) : Ok P w K mg base "_law_one_right" 19 ["_law_signs"] (spOneR K) := by
  have G_lperiod : Ok P w K mg base "_law_r_period" 1 ["_law_row"] spLPeriod := ok_law_period T
  have G_stable : Ok P w K mg base "_law_r_stable" 17 ["_law_net"] spStable := ok_law_stable T
  have G_same : Ok P w K mg base "_law_same" 5 ["_law_found", "_law_due"] (spSameD 4) := ok_same T 4
  have G_least_period : Ok P w K mg base "least_period" 12 ["signs"] spLeast := ok_least_period T
  have G_ring_rounds : Ok P w K mg base "ring_rounds" 12 ["signs"] spRounds := ok_ring_rounds T
  have G_longest : Ok P w K mg base "_law_longest" 1 ["_law_signs", "_law_period"] spLongest := ok_law_longest T
  have G_ring : Ok P w K mg base "one_way_ring" 16 ["signs"] (spRing K) := ok_one_way_ring T
  have G_kinds : Ok P w K mg base "kinds_for_ever" 18 ["net"] (spKinds K) := ok_kinds_for_ever T
  have G_needed : Ok P w K mg base "rounds_needed" 18 ["net"] (spNeeded K) := ok_rounds_needed T
  refine ok_of T.g__law_one_right T.F_law_one_right sc_law_one_right (fun _ _ _ _ _ _ us hl => match us, hl with | [_], _ => rfl) (fun vs H Q E h => ?_) (fun cdv A outer s H vs Q E hr h => ?_)
  · first | (obtain ⟨rfl, _⟩ := h; rfl) | (obtain ⟨_, rfl, _⟩ := h; rfl) | (obtain ⟨_, _, rfl, _⟩ := h; rfl) | (obtain ⟨_, _, _, rfl, _⟩ := h; rfl) | (obtain ⟨_, _, _, _, rfl, _⟩ := h; rfl) | (obtain ⟨_, _, _, _, _, rfl, _⟩ := h; rfl) | (obtain ⟨_, _, _, _, _, _, rfl, _⟩ := h; rfl) | (obtain ⟨_, _, _, _, _, _, _, rfl, _⟩ := h; rfl) | (obtain ⟨_, _, _, _, _, _, _, _, rfl, _⟩ := h; rfl) | (obtain ⟨_, _, _, _, _, _, _, _, _, rfl, _⟩ := h; rfl) | (obtain ⟨_, _, _, _, _, _, _, _, _, _, rfl, _⟩ := h; rfl) | (obtain ⟨_, _, _, _, _, _, _, _, _, _, _, rfl, _⟩ := h; rfl)
  obtain ⟨a, xs, ks, F, rfl, hF, rg, kk⟩ := h
  refine ⟨_, (pss_cons (ps_asg (pe_tup (pa_cons (pe_ok G_lperiod hr (pa_cons (pv 0) pa_nil)) (pa_cons (pe_callB call_len_seq rfl T.b_len (by decide +kernel) (pa_cons (pv 0) pa_nil)) pa_nil))) (pg_tup rfl (pgs_cons (pg_name (i := 1) sc_law_one_right.nd rfl (Or.inr rfl)) (pgs_cons (pg_name (i := 2) sc_law_one_right.nd rfl (Or.inr rfl)) pgs_nil))))
    (pss_cons (ps_set (i := 3) sc_law_one_right.nd rfl (Or.inl rfl) (pe_tup (pa_cons (pv 0) (pa_cons (pe_lc (own := [("_law_place", 4)]) (g := (gName 4)) (tt := tYes) (te := (tTup (tCons (tVar 4) (tCons (tOp RMod (tCB RInt (tCons (tOp RAdd (tVar 4) (tC (.int 1))) tNil)) (tVar 2)) (tCons (tC (.str "")) (tCons (tC (.str "")) tNil)))))) rfl sc_law_one_right.nd (pi_range1 rfl T.b_range (pa_cons (pv 2) pa_nil)) (blkOk_by (own := [("_law_place", 4)]) (N := N_law_one_right) (sc := defScope s_law_one_right) (by decide +kernel)) (fun _ _ _ _ _ => (pg_name (i := 4) sc_law_one_right.nd rfl (Or.inl rfl))) (fun _ _ _ _ _ => pts_nil) (fun _ _ _ _ _ => (pe_tup (pa_cons (pv 4) (pa_cons (pe_op op_modN (pe_callTy call_int1 rfl T.b_int (by decide +kernel) (pa_cons (pe_op op_add (pv 4) pe_int) pa_nil)) (pv 2)) (pa_cons pe_str (pa_cons pe_str pa_nil))))))) pa_nil))))
    (pss_cons (ps_asg (pe_ok G_stable hr (pa_cons (pv 3) pa_nil)) (pg_tup rfl (pgs_cons (pg_name (i := 5) sc_law_one_right.nd rfl (Or.inl rfl)) (pgs_cons (pg_name (i := 6) sc_law_one_right.nd rfl (Or.inl rfl)) pgs_nil))))
    (pss_cons (ps_if (pt_not (pt_val (pe_ok G_same hr (pa_cons (pe_lst (pa_cons (pe_ok G_least_period hr (pa_cons (pv 0) pa_nil)) (pa_cons (pe_ok G_ring_rounds hr (pa_cons (pv 0) pa_nil)) pa_nil))) (pa_cons (pe_lst (pa_cons (pv 1) (pa_cons (pv 6) pa_nil))) pa_nil))))) (pss_one (ps_ret pe_bl)) pss_nil)
    (pss_cons (ps_if (PW.pt (pw_or (pt_cmpR op_ne (pv 6) (pe_ok G_longest hr (pa_cons (pv 0) (pa_cons (pv 1) pa_nil))) (nomark _)) (pw_or1 (pt_cmpR op_gt (pv 6) (pe_callB (call_max2 rfl) rfl T.b_max (by decide +kernel) (pa_cons pe_int (pa_cons (pe_op op_sub (pv 1) pe_int) pa_nil))) (nomark _))))) (pss_one (ps_ret pe_bl)) pss_nil)
    (pss_cons (ps_for PassesOwn.never rfl (pi_range1 rfl T.b_range (pa_cons (pv 2) pa_nil)) (pg_name (i := 7) sc_law_one_right.nd rfl (Or.inl rfl)) (pss_one (ps_for PassesOwn.never rfl (pi_range1 rfl T.b_range (pa_cons (pv 2) pa_nil)) (pg_name (i := 8) sc_law_one_right.nd rfl (Or.inl rfl)) (pss_one (ps_if (pt_cmpR op_ne (pe_cmpR op_eq (pe_ix ix_list (pv 5) (pv 7) (fun _ _ => rfl)) (pe_ix ix_list (pv 5) (pv 8) (fun _ _ => rfl)) (nomark _)) (pe_cmpR op_eq (pe_op op_modN (pe_callTy call_int1 rfl T.b_int (by decide +kernel) (pa_cons (pe_op op_sub (pv 7) (pv 8)) pa_nil)) (pv 1)) pe_int (nomark _)) (nomark _)) (pss_one (ps_ret pe_bl)) pss_nil)))))
    (pss_cons (ps_set (i := 9) sc_law_one_right.nd rfl (Or.inl rfl) (pe_ok G_ring hr (pa_cons (pe_callTy call_tuple_of rfl T.b_tuple (by decide +kernel) (pa_cons (pv 0) pa_nil)) pa_nil)))
    (pss_cons (ps_setLc (i := 10) (own := [("_law_place", 4)]) (g := (gName 4)) (tt := tYes) (te := (tLstRg3 (tCons (tVar 4) (tCons (tVar 2) (tCons (tVar 1) tNil))))) rfl sc_law_one_right.nd rfl rfl (sw_true rfl rfl rfl (by decide +kernel)) (pi_range1 rfl T.b_range (pa_cons (pv 1) pa_nil)) (blkOk_by (own := [("_law_place", 4)]) (N := N_law_one_right) (sc := defScope s_law_one_right) (by decide +kernel)) (fun _ _ _ _ _ => (pg_name (i := 4) sc_law_one_right.nd rfl (Or.inl rfl))) (fun _ _ _ _ _ => pts_nil) (fun _ _ _ _ _ => (pe_listRg3 (by rfl) (by rfl) T.b_list (by rfl) T.b_range (pa_cons (pv 4) (pa_cons (pv 2) (pa_cons (pv 1) pa_nil))))))
    (pss_one (ps_ret (pe_ok G_same hr (pa_cons (pe_lst (pa_cons (pe_ok G_kinds hr (pa_cons (pv 9) pa_nil)) (pa_cons (pe_ok G_needed hr (pa_cons (pv 9) pa_nil)) pa_nil))) (pa_cons (pe_lst (pa_cons (pv 10) (pa_cons (pv 6) pa_nil))) pa_nil))))))))))))), ?_⟩
  have z1 := sizeLine_eq
  have k0 := rg.pos
  have k1 := rg.sml
  have lxs := rg.w.len
  have kok : ∀ k ∈ ks, kWok k := fun k hk => wok_kwok (rg.ok k hk)
  refine r_seq (r_asg (r_tup (r_cons (r_call (r_cons ⟨_, rfl, ?_⟩)))))
  refine ⟨a, xs, ks, F, rfl, hF, rg.at_, rg.w, kok, k0, by omega, fun p H1 P e1 => r_cons (r_cb (r_cons ⟨_, rfl, a, xs, rfl, .inl (SqL.of (e1.fh _ _ rg.at_)), ⟨by show 2 ≤ sizeLine; decide, fun T0 hT0 => ?_⟩⟩))⟩
  rw [lxs]
  have hp := P.pos
  have hle := P.le k0
  obtain ⟨L, l⟩ := isL_ex P k0
  have lL := isL_le P k0 l
  have e2 : Ex [] F H1 F (upd H1 T0 (.tup [.int p, .int ks.length])) := Ex.new e1.fh hT0
  have d2 : (upd H1 T0 (.tup [.int p, .int ks.length])) T0 = some (.tup [.int p, .int ks.length]) := upd_same
  generalize upd H1 T0 (.tup [.int p, .int ks.length]) = H2 at e2 d2
  have E2 := e1.trans e2
  refine ⟨T0, _, rfl, SqT.of d2, rfl, _, _, rfl, _, _, rfl, rfl, r_next ?_⟩
  dsimp only
  -- the net
  refine r_seq (r_asg (r_tup (r_cons ⟨_, rfl, r_cons (lcg_rng (n := ks.length) [] (fun R h => ⟨_, rfl, h⟩) e2.fh (by simp) (by omega) (fun k acc F => Rds F ((ringRs ks.length).take k) acc) (fun _ _ _ => True) (fun _ _ _ _ h q => Wks.up h q) (fun _ _ _ _ _ _ _ _ _ => trivial) (by simp [Rds]; exact Wks.nil) trivial ?_ ?_)⟩)))
  · intro k acc F' H' Kk Nk hk2 e p _ _ k1 _
    have m0 : ((ks.length : Nat) : Int) ≠ 0 := by omega
    have em : (((k : Nat) : Int) + 1).fmod ((ks.length : Nat) : Int) = (((k + 1) % ks.length : Nat) : Int) := by
      rw [Int.fmod_eq_emod_of_nonneg _ (by omega), Int.natCast_emod, Int.natCast_add]
      rfl
    refine ⟨rfl, _, rfl, _, rfl, _, _, rfl, rfl, .inl ⟨_, rfl, _, rfl, _, _, rfl, rfl, m0, by show 4 ≤ sizeLine; omega, fun p5 hp5 => ?_⟩⟩
    have f5 : F' p5 = none := Same.free e.fh hp5
    dsimp only
    rw [em]
    have wn : Wk (upd F' p5 (.tup [.int (k : Nat), .int ((k + 1) % ks.length : Nat), .str "", .str ""])) (Rd.mk k ((k + 1) % ks.length) (.text "") (.text "")).w (.ref p5) := Rd.wk_new f5 (wk_text.mpr rfl) (wk_text.mpr rfl)
    refine k1 _ _ _ (Ex.newF e.fh hp5) ?_ trivial
    rw [List.take_add_one, ringRs_get hk2]
    exact Rds.app (Wks.up (Same.upd f5) p) wn
  intro D3 acc3 F3 H3 e3 hD3 fD3 dD3 p3 _ _
  rw [List.take_of_length_le (by rw [ringRs_len]; exact Nat.le_refl _)] at p3
  have e4 := e3.frz hD3 dD3 fD3
  have d4 : (upd F3 D3 (.lst acc3)) D3 = some (.lst acc3) := upd_same
  have w4 : Rds (upd F3 D3 (.lst acc3)) (ringRs ks.length) acc3 := Wks.up (Same.upd fD3) p3
  generalize upd F3 D3 (.lst acc3) = F4 at e4 d4 w4
  refine ⟨by show 2 ≤ sizeLine; decide, fun T5 hT5 => r_next ?_⟩
  have e5 : Ex [] F4 H3 (upd F4 T5 (.tup [.ref a, .ref D3])) (upd H3 T5 (.tup [.ref a, .ref D3])) := Ex.newF e4.fh hT5
  have d5 : (upd F4 T5 (.tup [.ref a, .ref D3])) T5 = some (.tup [.ref a, .ref D3]) := upd_same
  dsimp only
  show tSeq _ _ _ _ (upd H3 T5 (.tup [.ref a, .ref D3]))
  generalize upd F4 T5 (.tup [.ref a, .ref D3]) = F5 at e5 d5
  generalize upd H3 T5 (.tup [.ref a, .ref D3]) = H5 at e5
  have le5 := Same.trans e4.ff e5.ff
  have rg5 := rg.up le5
  have E5 := E2.trans (e4.trans e5)
  refine r_seq (r_asg (r_call (r_cons ⟨_, rfl, ?_⟩)))
  refine ⟨T5, a, D3, xs, acc3, ks, p, L, F5, rfl, e5.fh, d5, rg5.at_, rg5.w, fun k hk => by have := (kok k hk).2.2; omega, k0, by omega, e5.ff _ _ d4, Wks.up e5.ff w4, P, l, fun T6 D6 F6 H6 e6 hT6 dT6 dD6 => ?_⟩
  refine ⟨T6, _, rfl, SqT.of (e6.fh _ _ dT6), rfl, _, _, rfl, _, _, rfl, rfl, r_next ?_⟩
  dsimp only
  have rg6 := rg5.up e6.ff
  have E6 := E5.trans e6
  have lld := datas_len ks
  -- least_period, ring_rounds
  refine r_seq (r_ifS ?_)
  show tCall (spSameD 4) [] E0 (tCons (tLst _) (tCons (tLst _) tNil)) _ H6 _
  refine r_call (r_cons (due2 (i := 0) rfl e6.fh (.inl rg6.at_) (wks_dds rg6.w) rg6.ful (by rw [toWs_datas]; exact kok) rg6.dep (by omega) (by omega) fun p' L' q7 H7 P' l' e7 hq7 => ?_))
  rw [toWs_datas] at P' l'
  obtain rfl := P'.uniq P
  obtain rfl := l'.uniq l
  have d7 : (upd F6 q7 (.lst (intsV [p', L']))) q7 = some (.lst (intsV [p', L'])) := upd_same
  generalize upd F6 q7 (.lst (intsV [p', L'])) = F7 at e7 d7
  refine r_cons ⟨_, rfl, _, rfl, by show 2 ≤ sizeLine; decide, fun q8 hq8 => ?_⟩
  have e8 : Ex [] F7 H7 (upd F7 q8 (.lst (intsV [p', L']))) (upd H7 q8 (.lst (intsV [p', L']))) := Ex.newF e7.fh hq8
  have d8 : (upd F7 q8 (.lst (intsV [p', L']))) q8 = some (.lst (intsV [p', L'])) := upd_same
  have d78 := e8.ff _ _ d7
  show tNil _ (upd H7 q8 (.lst (intsV [p', L']))) _
  generalize upd F7 q8 (.lst (intsV [p', L'])) = F8 at e8 d8 d78
  generalize upd H7 q8 (.lst (intsV [p', L'])) = H8 at e8
  refine ⟨.ref q7, .ref q8, intsD [p', L'], F8, rfl, e8.fh, intsD_dd d78 (by simp), intsD_dd d8 (by simp), intsD_ty _, by rw [intsD_dep]; decide, fun H9 e9 => ⟨_, rfl, iteF (r_next ?_)⟩⟩
  dsimp only
  have E9 := E6.trans (e7.trans (e8.trans e9))
  have le68 := Same.trans e7.ff e8.ff
  have rg8 := rg6.up le68
  have dD8 := le68 _ _ dD6
  -- the longest
  refine r_seq (r_ifS ⟨_, rfl, _, rfl, _, rfl, a, p', xs, ks, F8, rfl, e9.fh, rg8.at_, rg8.w, kok, k0, by omega, P, fun L2 H10 l2 e10 => ?_⟩)
  obtain rfl := l2.uniq l
  refine ⟨rfl, _, rfl, iteF' (by simp) ⟨_, rfl, _, rfl, _, _, rfl, rfl, _, _, rfl, _, _, rfl, rfl, _, rfl, iteF' ?_ (r_next ?_)⟩⟩
  · have : ¬ ((if ((p' : Int) - 2) > 0 then (p' : Int) - 2 else 0) < (L2 : Int)) := by split <;> omega
    simpa using this
  dsimp only
  -- the classes
  have cl := cl_cls k0 L2
  have at_ : ∀ {H : Hp} {i : Nat}, Same F8 H → i < ks.length → atI (intsV (tab ks.length (clRun (ringRs ks.length) ks.length L2 (cl0 ks)))) (i : Int) = some (.int (clRun (ringRs ks.length) ks.length L2 (cl0 ks) i : Nat)) := fun {H i} _ hi => atI_nat (by rw [intsV_get, tab_get hi]; rfl)
  refine r_seq (forg_rng (n := ks.length) [] (fun R h => ⟨_, rfl, h⟩) (by omega) e10.fh (fun i σ1 F1 H1 => F1 = F8 ∧ ∃ u7 u8, σ1 = [some (.ref a), some (.int p'), some (.int ks.length), some (.ref T5), none, some (.ref D6), some (.int L2), u7, u8, none, none]) ⟨rfl, _, _, rfl⟩ ?_ ?_)
  · rintro i σ1 F1 H11 Nk hi e11 ⟨rfl, u7, u8, rfl⟩ nk
    refine forg_rng (n := ks.length) [] (fun R h => ⟨_, rfl, h⟩) (by omega) e11.fh (fun j σ1 F2 H2 => F2 = F1 ∧ ∃ u8, σ1 = [some (.ref a), some (.int p'), some (.int ks.length), some (.ref T5), none, some (.ref D6), some (.int L2), some (.int (i : Nat)), u8, none, none]) ⟨rfl, _, rfl⟩ ?_ ?_
    · rintro j σ1 F2 H12 Nk2 hj e12 ⟨rfl, u8, rfl⟩ nk2
      have sq := SqL.of (K := K) (e12.fh _ _ dD8)
      have p0 : ((p' : Nat) : Int) ≠ 0 := by omega
      refine r_ifS ⟨_, rfl, _, rfl, D6, _, _, _, rfl, rfl, sq, at_ e12.fh hi, _, rfl, _, rfl, D6, _, _, _, rfl, rfl, sq, at_ e12.fh hj, rfl, _, rfl, _, rfl, _, _, rfl, rfl, .inl ⟨_, rfl, _, rfl, _, _, rfl, rfl, p0, rfl, rfl, _, rfl, ?_⟩⟩
      have ev : (((i : Int) - j).fmod (p' : Int) = 0) ↔ (p' : Int) ∣ (i : Int) - j := by
        rw [Int.fmod_eq_emod_of_nonneg _ (by omega)]
        exact ⟨Int.dvd_of_emod_eq_zero, Int.emod_eq_zero_of_dvd⟩
      have cf := Cls.fin k0 P l cl.1 (Nat.le_refl _) hi hj
      have eb : decide (V.int (clRun (ringRs ks.length) ks.length L2 (cl0 ks) i : Nat) = V.int (clRun (ringRs ks.length) ks.length L2 (cl0 ks) j : Nat)) = decide ((fun i j : Int => V.int (i.fmod j)) ((i : Int) - j) (p' : Int) = V.int 0) := by
        rw [decide_eq_decide]
        constructor
        · intro z
          have := V.int.inj z
          exact congrArg V.int (ev.mpr (cf.mp (by omega)))
        · intro z
          have := cf.mpr (ev.mp (V.int.inj z))
          rw [this]
      refine iteF' (by rw [eb]; simp) (r_next ?_)
      exact nk2 _ F2 H12 (Ex.refl e12.fh) ⟨rfl, _, rfl⟩
    · rintro σ1 F2 H12 e12 ⟨rfl, u8, rfl⟩
      exact nk _ F2 H12 e12 ⟨rfl, _, _, rfl⟩
  rintro σ1 F1 H11 e11 ⟨rfl, u7, u8, rfl⟩
  dsimp only
  -- the ring made
  refine r_seq (r_asg (r_call (r_cons (r_cb (r_cons ⟨_, rfl, a, xs, rfl, .inl ⟨SqL.of (e11.fh _ _ rg8.at_), fun t12 ht12 => ?_⟩⟩)))))
  have e12 : Ex [] F1 H11 (upd F1 t12 (.tup xs)) (upd H11 t12 (.tup xs)) := Ex.newF e11.fh ht12
  have d12 : (upd F1 t12 (.tup xs)) t12 = some (.tup xs) := upd_same
  show tNil _ (upd H11 t12 (.tup xs)) _
  generalize upd F1 t12 (.tup xs) = F12 at e12 d12
  generalize upd H11 t12 (.tup xs) = H12 at e12
  have rg12 := rg8.up e12.ff
  refine ⟨t12, xs, NestedKey.datas ks, F12, rfl, e12.fh, .inr d12, wks_dds rg12.w, rg12.ful, rg12.dep, by rw [toWs_datas]; exact rg12.ok, by omega, by omega, fun y rs' F13 H13 pm e13 nn => r_next ?_⟩
  rw [toWs_datas] at nn
  rw [lld] at pm
  dsimp only
  -- the lists that are due
  refine r_seq (r_asg (lcg_rng (n := p') [] (fun R h => ⟨_, rfl, h⟩) e13.fh (by simp) (by omega) (fun k acc F => acc.length = k ∧ ∀ i, i < k → ∃ q, acc[i]? = some (V.ref q) ∧ F q = some (.lst (intsV (steps ks.length p' i)))) (fun _ _ _ => True) (fun k acc F F2 h ⟨a1, a2⟩ => ⟨a1, fun i hi => by
    obtain ⟨q, b1, b2⟩ := a2 i hi
    exact ⟨q, b1, h _ _ b2⟩⟩) (fun _ _ _ _ _ _ _ _ _ => trivial) ⟨rfl, fun i hi => by omega⟩ trivial ?_ ?_))
  · rintro k acc F' H' Kk Nk hk2 e ⟨a1, a2⟩ _ _ k1 _
    have hnp : ks.length / p' ≤ ks.length := Nat.div_le_self _ _
    refine ⟨rfl, _, rfl, _, rfl, _, rfl, _, _, _, ks.length / p', rfl, rgC_pos hp k0 P.dvd hk2 (by omega), by omega, fun q hq => ?_⟩
    rw [rgVC_steps]
    have en : Ex [] F' H' (upd F' q (.lst (intsV (steps ks.length p' k)))) (upd H' q (.lst (intsV (steps ks.length p' k)))) := Ex.newF e.fh hq
    refine k1 _ _ _ en ⟨by simp [a1], fun i hi => ?_⟩ trivial
    rcases Nat.lt_or_ge i k with z | z
    · obtain ⟨q2, b1, b2⟩ := a2 i z
      exact ⟨q2, by rw [List.getElem?_append_left (by omega)]; exact b1, en.ff _ _ b2⟩
    · have : i = k := by omega
      subst this
      exact ⟨q, by rw [List.getElem?_append_right (by omega), a1]; simp, upd_same⟩
  rintro D14 acc14 F14 H14 e14 hD14 fD14 dD14 ⟨a1, a2⟩ _ _
  have e15 := e14.frz hD14 dD14 fD14
  have le14 : Same F14 (upd F14 D14 (.lst acc14)) := Same.upd fD14
  have ll15 : LL (upd F14 D14 (.lst acc14)) D14 ((List.range p').map (steps ks.length p')) := ⟨acc14, upd_same, by simp [a1], fun i m hm => by
    rw [List.getElem?_map] at hm
    have hi : i < p' := by
      rcases Nat.lt_or_ge i p' with z | z
      · exact z
      · rw [List.getElem?_eq_none (by simp; omega)] at hm
        cases hm
    rw [List.getElem?_range hi] at hm
    obtain rfl := Option.some.inj hm
    obtain ⟨q, b1, b2⟩ := a2 i hi
    exact ⟨q, b1, le14 _ _ b2⟩⟩
  generalize upd F14 D14 (.lst acc14) = F15 at e15 ll15
  have nn15 := NetF.up e15.ff nn
  refine r_next ?_
  dsimp only
  refine r_ret (r_call (r_cons ?_))
  refine ⟨_, rfl, y, ks, rs', F15, rfl, e15.fh, nn15, fun D16 F16 H16 e16 ll16 hD16 => ⟨_, rfl, y, ks, rs', F16, rfl, e16.fh, NetF.up e16.ff nn15, fun H17 e17 => ⟨by show 2 ≤ sizeLine; decide, fun q18 hq18 => ?_⟩⟩⟩
  obtain ⟨r1, r2⟩ := rk_ring k0 pm P l
  have elots : lotsOf (tab ks.length (rkOf ks rs')) = (List.range p').map (steps ks.length p') := by
    have e : rkOf ks rs' = rkIt (ringRs ks.length) ks.length L2 (rk0 ks) := r1
    rw [e]
    exact lots_ring hp k0 P.dvd fun i j hi hj => Cls.fin k0 P l (rk_cls k0 L2).1 (Nat.le_refl _) hi hj
  rw [elots] at ll16
  rw [r2]
  have e18 : Ex [] F16 H17 (upd F16 q18 (.lst [.ref D16, .int (L2 : Nat)])) (upd H17 q18 (.lst [.ref D16, .int (L2 : Nat)])) := Ex.newF e17.fh hq18
  have d18 : (upd F16 q18 (.lst [.ref D16, .int (L2 : Nat)])) q18 = some (.lst [.ref D16, .int (L2 : Nat)]) := upd_same
  generalize upd F16 q18 (.lst [.ref D16, .int (L2 : Nat)]) = F18 at e18 d18
  generalize upd H17 q18 (.lst [.ref D16, .int (L2 : Nat)]) = H18 at e18
  refine r_cons ⟨_, rfl, _, rfl, by show 2 ≤ sizeLine; decide, fun q19 hq19 => ?_⟩
  have e19 : Ex [] F18 H18 (upd F18 q19 (.lst [.ref D14, .int (L2 : Nat)])) (upd H18 q19 (.lst [.ref D14, .int (L2 : Nat)])) := Ex.newF e18.fh hq19
  have d19 : (upd F18 q19 (.lst [.ref D14, .int (L2 : Nat)])) q19 = some (.lst [.ref D14, .int (L2 : Nat)]) := upd_same
  have d189 := e19.ff _ _ d18
  show tNil _ (upd H18 q19 (.lst [.ref D14, .int (L2 : Nat)])) _
  generalize upd F18 q19 (.lst [.ref D14, .int (L2 : Nat)]) = F19 at e19 d19 d189
  generalize upd H18 q19 (.lst [.ref D14, .int (L2 : Nat)]) = H19 at e19
  have lsm : ∀ l ∈ (List.range p').map (steps ks.length p'), l.length < 1000000 := fun m hm => by
    obtain ⟨k, _, rfl⟩ := List.mem_map.mp hm
    have hnp : ks.length / p' ≤ ks.length := Nat.div_le_self _ _
    unfold steps
    rw [List.length_map, List.length_range]
    omega
  have dd : ∀ {q D : Addr}, F19 q = some (.lst [.ref D, .int (L2 : Nat)]) → LL F19 D ((List.range p').map (steps ks.length p')) → Dd F19 (.list [.list (((List.range p').map (steps ks.length p')).map intsD), .int (L2 : Nat)]) (.ref q) := fun {q D} h1 h2 => dd_list.mpr ⟨q, _, rfl, h1, by
    simp only [Dds]
    exact ⟨_, _, rfl, ll_dd h2 (by simp; omega) lsm, _, _, rfl, dd_int.mpr rfl, rfl⟩, by simp⟩
  have E13 : Ex [] F H F13 H13 := E9.trans (e10.trans (e11.trans (e12.trans e13)))
  refine ⟨.ref q18, .ref q19, _, F19, rfl, e19.fh, dd d189 (ll16.up (Same.trans e18.ff e19.ff)), dd d19 (ll15.up (Same.trans e16.ff (Same.trans e18.ff e19.ff))), ?_, ?_, fun H20 e20 => kk H20 ((E13.trans (e15.trans (e16.trans (e17.trans (e18.trans (e19.trans e20)))))).drop)⟩
  · have := lls_ty ((List.range p').map (steps ks.length p'))
    simp only [lsty, lstys, this, Bool.and_self]
  · have := lls_dep ((List.range p').map (steps ks.length p'))
    simp only [PyData.depth, PyData.depthAll]
    omega
end
end T3

namespace T3
open PySem PySem.Spec PyProof.Rows L2 Ly
section
variable {P : Program} {w : World} {K : PySem.W.Frag} {mg : Str → Option Value} {base : Heap}
/-! ### long rings are right -/
def wA : W := .text "aa"
def wB : W := .text "b"
def wC : W := .tup [.text "a", .num 0]
theorem wAB : wA ≠ wB := by decide +kernel
theorem wBC : wB ≠ wC := by decide +kernel
theorem wA_ok : kWok wA := ⟨rfl, by decide +kernel, by decide +kernel⟩
theorem wB_ok : kWok wB := ⟨rfl, by decide +kernel, by decide +kernel⟩
theorem wC_ok : kWok wC := ⟨by decide +kernel, by decide +kernel, by decide +kernel⟩
theorem wks_all {F : Hp} {k : W} {v : V} (h : Wk F k v) : ∀ n : Nat, Wks F (List.replicate n k) (List.replicate n v)
  | 0 => Wks.nil
  | n + 1 => Wks.cons h (wks_all h n)
theorem wks_set {F : Hp} {k : W} {v : V} (h : Wk F k v) : ∀ {ks : List W} {vs : List V} (i : Nat), Wks F ks vs → Wks F (ks.set i k) (vs.set i v)
  | [], vs, i, w => by
    have := wks_nil.mp w
    subst this
    simpa using Wks.nil
  | j :: ks, vs, i, w => by
    obtain ⟨u, r, rfl, h1, h2⟩ := wks_cons.mp w
    cases i with
    | zero => exact Wks.cons h h2
    | succ i => exact Wks.cons h1 (wks_set h i h2)
theorem ixN_at {n a : Nat} (h : a < n) : ixN n (a : Int) = some a := by
  unfold ixN
  simp
  omega
theorem wks_ful {ks : List W} (h : ∀ k ∈ ks, kWok k) : wordys (NestedKey.datas ks) = true := by
  rw [wordys_datas]
  exact fulls_of fun k hk => (h k hk).1
def spLongR : Sp := fun vs H Q _ => ∃ (st q : Addr) (F : Hp) (c : Int), vs = [.ref st] ∧ Same F H ∧ Strm F H st q c ∧ c < 900000000 ∧ ∀ H', Q (.bl true) H'
theorem ok_long_right (T : Top K mg) : Ok P w K mg base "_law_long_right" 13 ["_law_stream"] spLongR := by
  have G_draw : Ok P w K mg base "_law_draw" 1 ["_law_stream", "_law_many"] spDraw := ok_law_draw T
  have G_same : Ok P w K mg base "_law_same" 5 ["_law_found", "_law_due"] (spSameD 4) := ok_same T 4
  have G_least_period : Ok P w K mg base "least_period" 12 ["signs"] spLeast := ok_least_period T
  have G_ring_rounds : Ok P w K mg base "ring_rounds" 12 ["signs"] spRounds := ok_ring_rounds T
  refine ok_of T.g__law_long_right T.F_law_long_right sc_law_long_right (fun _ _ _ _ _ _ us hl => match us, hl with | [_], _ => rfl) (fun vs H Q E h => ?_) (fun cdv A outer s H vs Q E hr h => ?_)
  · first | (obtain ⟨rfl, _⟩ := h; rfl) | (obtain ⟨_, rfl, _⟩ := h; rfl) | (obtain ⟨_, _, rfl, _⟩ := h; rfl) | (obtain ⟨_, _, _, rfl, _⟩ := h; rfl) | (obtain ⟨_, _, _, _, rfl, _⟩ := h; rfl) | (obtain ⟨_, _, _, _, _, rfl, _⟩ := h; rfl) | (obtain ⟨_, _, _, _, _, _, rfl, _⟩ := h; rfl) | (obtain ⟨_, _, _, _, _, _, _, rfl, _⟩ := h; rfl) | (obtain ⟨_, _, _, _, _, _, _, _, rfl, _⟩ := h; rfl) | (obtain ⟨_, _, _, _, _, _, _, _, _, rfl, _⟩ := h; rfl) | (obtain ⟨_, _, _, _, _, _, _, _, _, _, rfl, _⟩ := h; rfl) | (obtain ⟨_, _, _, _, _, _, _, _, _, _, _, rfl, _⟩ := h; rfl)
  obtain ⟨st, q, F, c, rfl, hF, hS, hc, kk⟩ := h
  refine ⟨_, (pss_cons (ps_set (i := 1) sc_law_long_right.nd rfl (Or.inl rfl) (pe_op op_add pe_int (pe_ok G_draw hr (pa_cons (pv 0) (pa_cons pe_int pa_nil)))))
    (pss_cons (ps_par (i := 2) (j := 3) rfl sc_law_long_right.nd rfl rfl (by decide) rfl rfl (pa_cons (pe_ok G_draw hr (pa_cons (pv 0) (pa_cons (pv 1) pa_nil))) (pa_cons (pe_op op_rep (pe_lst (pa_cons pe_str pa_nil)) (pv 1)) pa_nil)) rfl)
    (pss_cons (ps_asg pe_str (pg_sub (pv 3) (pv 2) set_list))
    (pss_cons (ps_if (pt_not (pt_val (pe_ok G_same hr (pa_cons (pe_lst (pa_cons (pe_ok G_least_period hr (pa_cons (pv 3) pa_nil)) (pa_cons (pe_ok G_ring_rounds hr (pa_cons (pv 3) pa_nil)) pa_nil))) (pa_cons (pe_lst (pa_cons (pv 1) (pa_cons (pe_op op_sub (pv 1) pe_int) pa_nil))) pa_nil))))) (pss_one (ps_ret pe_bl)) pss_nil)
    (pss_cons (ps_set (i := 4) sc_law_long_right.nd rfl (Or.inl rfl) (pe_op op_cat (pe_op op_rep (pe_lst (pa_cons pe_str (pa_cons (pe_tup (pa_cons pe_str (pa_cons pe_int pa_nil))) pa_nil))) (pe_op op_fdivN (pv 1) pe_int)) (pe_lst (pa_cons pe_str pa_nil))))
    (pss_one (ps_ret (pe_ok G_same hr (pa_cons (pe_lst (pa_cons (pe_ok G_least_period hr (pa_cons (pv 4) pa_nil)) (pa_cons (pe_ok G_ring_rounds hr (pa_cons (pv 4) pa_nil)) pa_nil))) (pa_cons (pe_lst (pa_cons (pe_callB call_len_seq rfl T.b_len (by decide +kernel) (pa_cons (pv 4) pa_nil)) (pa_cons (pe_op op_sub (pe_callB call_len_seq rfl T.b_len (by decide +kernel) (pa_cons (pv 4) pa_nil)) pe_int) pa_nil))) pa_nil)))))))))), ?_⟩
  have z1 := sizeLine_eq
  refine r_seq (r_asg (r_op (r_c (r_call (r_cons ⟨_, rfl, r_cons (r_c ?_)⟩)))))
  refine ⟨st, q, 40, F, c, rfl, hF, hS, by decide, by decide, by omega, fun d H1 d0 d1 e1 s1 => ⟨_, _, rfl, rfl, r_next ?_⟩⟩
  obtain ⟨n, hn⟩ : ∃ n : Nat, 30 + d = (n : Int) := ⟨(30 + d).toNat, by omega⟩
  rw [show (fun i j : Int => V.int (i + j)) 30 d = V.int (n : Int) from congrArg V.int hn]
  dsimp only
  have n0 : 30 ≤ n := by omega
  have n1 : n < 100 := by omega
  refine r_seq (r_par (r_cons (r_call (r_cons ⟨_, rfl, r_cons ⟨_, rfl, ?_⟩⟩))))
  refine ⟨st, q, n, F, c + 1, rfl, e1.fh, s1, by omega, by omega, by omega, fun at_ H2 a0 a1 e2 s2 => ?_⟩
  obtain ⟨a, rfl⟩ : ∃ a : Nat, at_ = (a : Int) := ⟨at_.toNat, by omega⟩
  have ha : a < n := by omega
  refine r_cons ⟨by show 1 ≤ sizeLine; decide, fun p3 hp3 => ⟨_, rfl, p3, n, _, rfl, rfl, upd_same, by omega, by omega, by show 1 * _ ≤ sizeLine; omega, fun p4 hp4 => ⟨_, _, rfl, ?_⟩⟩⟩
  have e3 : Ex [] F H2 F (upd H2 p3 (.lst [.str "aa"])) := Ex.new e2.fh hp3
  have el : (List.replicate ((n : Int)).toNat [V.str "aa"]).flatten = List.replicate n (V.str "aa") := by
    rw [show ((n : Int)).toNat = n by omega]
    exact List.flatten_replicate_singleton
  rw [el]
  dsimp only
  have f4 : F p4 = none := Same.free e3.fh hp4
  have e4 : Ex [] F H2 F (upd (upd H2 p3 (.lst [.str "aa"])) p4 (.lst (List.replicate n (.str "aa")))) := e3.trans (Ex.new e3.fh hp4)
  have d4 : (upd (upd H2 p3 (.lst [.str "aa"])) p4 (.lst (List.replicate n (.str "aa")))) p4 = some (.lst (List.replicate n (.str "aa"))) := upd_same
  have hp40 : H2 p4 = none := by
    cases z : H2 p4 with
    | none => rfl
    | some o => exact absurd hp4 (e3.dm p4 (ne_none z))
  show tSeq _ _ _ _ (upd (upd H2 p3 (.lst [.str "aa"])) p4 (.lst (List.replicate n (.str "aa"))))
  generalize upd (upd H2 p3 (.lst [.str "aa"])) p4 (.lst (List.replicate n (.str "aa"))) = H4 at e4 d4
  refine r_seq (r_asg ⟨_, rfl, _, rfl, p4, _, _, a, rfl, rfl, d4, ixN_at (by rw [List.length_replicate]; exact ha), r_next ?_⟩)
  have e5 := e4.wr (o := .lst ((List.replicate n (V.str "aa")).set a (.str "b"))) hp40 f4
  have e6 := e5.frz hp40 upd_same f4
  have d6 : (upd F p4 (.lst ((List.replicate n (V.str "aa")).set a (.str "b")))) p4 = some (.lst ((List.replicate n (V.str "aa")).set a (.str "b"))) := upd_same
  dsimp only
  show tSeq _ _ _ _ (upd H4 p4 (.lst ((List.replicate n (V.str "aa")).set a (.str "b"))))
  generalize upd F p4 (.lst ((List.replicate n (V.str "aa")).set a (.str "b"))) = F6 at e6 d6
  generalize upd H4 p4 (.lst ((List.replicate n (V.str "aa")).set a (.str "b"))) = H6 at e6
  have w6 : Wks F6 ((List.replicate n wA).set a wB) ((List.replicate n (V.str "aa")).set a (.str "b")) := wks_set (wk_text.mpr rfl) a (wks_all (wk_text.mpr rfl) n)
  have k6 : ∀ k ∈ (List.replicate n wA).set a wB, kWok k := fun k hk => by
    rcases List.mem_or_eq_of_mem_set hk with z | z
    · rw [(List.mem_replicate.mp z).2]; exact wA_ok
    · rw [z]; exact wB_ok
  have l6 : ((List.replicate n wA).set a wB).length = n := by simp
  have ld6 := datas_len ((List.replicate n wA).set a wB)
  have dp : ∀ {ks : List W}, (∀ k ∈ ks, k.depth ≤ 5) → PyData.depthAll (NestedKey.datas ks) < 6 := fun {ks} h => by
    rw [depths_datas]
    have := dall_le h
    omega
  refine r_seq (r_ifS ?_)
  show tCall (spSameD 4) [] E0 (tCons (tLst _) (tCons (tLst _) tNil)) _ H6 _
  refine r_call (r_cons (due2 (i := 3) rfl e6.fh (.inl d6) (wks_dds w6) (wks_ful k6) (by rw [toWs_datas]; exact k6) (dp fun k hk => ?_) (by omega) (by omega) fun p' L' q7 H7 P' l' e7 hq7 => ?_))
  · rcases List.mem_or_eq_of_mem_set hk with z | z
    · rw [(List.mem_replicate.mp z).2]; decide +kernel
    · rw [z]; decide +kernel
  rw [toWs_datas] at P' l'
  obtain rfl := P'.uniq (one_per wAB ha)
  obtain rfl := one_L wAB ha (by omega) l'
  have d7 : (upd F6 q7 (.lst (intsV [p', p' - 2]))) q7 = some (.lst (intsV [p', p' - 2])) := upd_same
  generalize upd F6 q7 (.lst (intsV [p', p' - 2])) = F7 at e7 d7
  refine r_cons ⟨_, rfl, _, rfl, _, _, rfl, rfl, by show 2 ≤ sizeLine; decide, fun q8 hq8 => ?_⟩
  have ei : ([V.int (p' : Nat), (fun i j : Int => V.int (i - j)) (p' : Int) 2] : List V) = intsV [p', p' - 2] := by
    show [V.int (p' : Nat), V.int ((p' : Int) - 2)] = [V.int (p' : Nat), V.int ((p' - 2 : Nat) : Int)]
    have : (p' : Int) - 2 = ((p' - 2 : Nat) : Int) := by omega
    rw [this]
  rw [ei]
  have e8 : Ex [] F7 H7 (upd F7 q8 (.lst (intsV [p', p' - 2]))) (upd H7 q8 (.lst (intsV [p', p' - 2]))) := Ex.newF e7.fh hq8
  have d8 : (upd F7 q8 (.lst (intsV [p', p' - 2]))) q8 = some (.lst (intsV [p', p' - 2])) := upd_same
  have d78 := e8.ff _ _ d7
  show tNil _ (upd H7 q8 (.lst (intsV [p', p' - 2]))) _
  generalize upd F7 q8 (.lst (intsV [p', p' - 2])) = F8 at e8 d8 d78
  generalize upd H7 q8 (.lst (intsV [p', p' - 2])) = H8 at e8
  refine ⟨.ref q7, .ref q8, intsD [p', p' - 2], F8, rfl, e8.fh, intsD_dd d78 (by simp), intsD_dd d8 (by simp), intsD_ty _, by rw [intsD_dep]; decide, fun H9 e9 => ⟨_, rfl, iteF (r_next ?_)⟩⟩
  dsimp only
  -- two by turns
  have E9 : Ex [] F H2 F8 H9 := e6.trans (e7.trans (e8.trans e9))
  obtain ⟨h, hh⟩ : ∃ h, p' / 2 = h := ⟨_, rfl⟩
  have h0 : 1 ≤ h := by omega
  have h1 : h < 100 := by omega
  refine r_seq (r_asg ⟨by show 2 ≤ sizeLine; decide, fun T10 hT10 => ?_⟩)
  have e10 : Ex [] F8 H9 (upd F8 T10 (.tup [.str "a", .int 0])) (upd H9 T10 (.tup [.str "a", .int 0])) := Ex.newF e9.fh hT10
  have w10 : Wk (upd F8 T10 (.tup [.str "a", .int 0])) wC (.ref T10) := wk_new (Same.free e9.fh hT10) (Wks.cons (wk_text.mpr rfl) (Wks.one (wk_num.mpr rfl))) (by decide)
  generalize upd F8 T10 (.tup [.str "a", .int 0]) = F10 at e10 w10
  generalize upd H9 T10 (.tup [.str "a", .int 0]) = H10 at e10
  refine ⟨by show 2 ≤ sizeLine; decide, fun p11 hp11 => ?_⟩
  have e11 : Ex [] F10 H10 F10 (upd H10 p11 (.lst [.str "b", .ref T10])) := Ex.new e10.fh hp11
  have d11 : (upd H10 p11 (.lst [.str "b", .ref T10])) p11 = some (.lst [.str "b", .ref T10]) := upd_same
  generalize upd H10 p11 (.lst [.str "b", .ref T10]) = H11 at e11 d11
  refine ⟨_, rfl, _, _, rfl, rfl, ⟨by decide, by decide⟩, ?_⟩
  have eh : (fun i j : Int => V.int (i.fdiv j)) (p' : Int) 2 = V.int (h : Int) := by
    show V.int ((p' : Int).fdiv 2) = _
    rw [Int.fdiv_eq_ediv_of_nonneg _ (by omega)]
    congr 1
    omega
  rw [eh]
  refine ⟨p11, h, _, rfl, rfl, d11, by omega, by omega, by show 2 * _ ≤ sizeLine; omega, fun p12 hp12 => ?_⟩
  rw [show ((h : Int)).toNat = h by omega]
  have e12 : Ex [] F10 H11 F10 (upd H11 p12 (.lst (List.replicate h [V.str "b", .ref T10]).flatten)) := Ex.new e11.fh hp12
  have d12 : (upd H11 p12 (.lst (List.replicate h [V.str "b", .ref T10]).flatten)) p12 = some (.lst (List.replicate h [V.str "b", .ref T10]).flatten) := upd_same
  generalize upd H11 p12 (.lst (List.replicate h [V.str "b", .ref T10]).flatten) = H12 at e12 d12
  refine ⟨by show 1 ≤ sizeLine; decide, fun p13 hp13 => ?_⟩
  have e13 : Ex [] F10 H12 F10 (upd H12 p13 (.lst [.str "b"])) := Ex.new e12.fh hp13
  have d13 : (upd H12 p13 (.lst [.str "b"])) p13 = some (.lst [.str "b"]) := upd_same
  have d123 := e13.at d12
  generalize upd H12 p13 (.lst [.str "b"]) = H13 at e13 d13 d123
  have lfl : (List.replicate h [V.str "b", .ref T10]).flatten.length = 2 * h := by simp; omega
  refine ⟨p12, p13, _, _, rfl, rfl, d123, d13, by rw [lfl]; show 2 * h + 1 ≤ sizeLine; omega, fun p14 hp14 => r_next ?_⟩
  have e14 : Ex [] F10 H13 (upd F10 p14 (.lst ((List.replicate h [V.str "b", .ref T10]).flatten ++ [.str "b"]))) (upd H13 p14 (.lst ((List.replicate h [V.str "b", .ref T10]).flatten ++ [.str "b"]))) := Ex.newF e13.fh hp14
  have d14 : (upd F10 p14 (.lst ((List.replicate h [V.str "b", .ref T10]).flatten ++ [.str "b"]))) p14 = some (.lst ((List.replicate h [V.str "b", .ref T10]).flatten ++ [.str "b"])) := upd_same
  have w14 : Wks (upd F10 p14 (.lst ((List.replicate h [V.str "b", .ref T10]).flatten ++ [.str "b"]))) (turnsW wB wC h) ((List.replicate h [V.str "b", .ref T10]).flatten ++ [.str "b"]) :=
    ((wks_rep (Wks.cons (wk_text.mpr rfl) (Wks.one w10)) h).app (Wks.one (wk_text.mpr rfl))).up e14.ff
  have l14 : ((List.replicate h [V.str "b", .ref T10]).flatten ++ [V.str "b"]).length = 2 * h + 1 := by rw [List.length_append, lfl]; rfl
  dsimp only
  show tRet _ _ _ (upd H13 p14 (.lst ((List.replicate h [V.str "b", .ref T10]).flatten ++ [.str "b"])))
  generalize upd F10 p14 (.lst ((List.replicate h [V.str "b", .ref T10]).flatten ++ [.str "b"])) = F14 at e14 d14 w14
  generalize upd H13 p14 (.lst ((List.replicate h [V.str "b", .ref T10]).flatten ++ [.str "b"])) = H14 at e14
  generalize (List.replicate h [V.str "b", .ref T10]).flatten ++ [V.str "b"] = x14 at d14 w14 l14
  have k14 : ∀ k ∈ turnsW wB wC h, kWok k ∧ k.depth ≤ 5 := fun k hk => by
    unfold turnsW at hk
    rcases List.mem_append.mp hk with z | z
    · obtain ⟨m, hm, hkm⟩ := List.mem_flatten.mp z
      rw [(List.mem_replicate.mp hm).2] at hkm
      rcases List.mem_cons.mp hkm with y | y
      · rw [y]; exact ⟨wB_ok, by decide +kernel⟩
      · rw [List.mem_singleton.mp y]; exact ⟨wC_ok, by decide +kernel⟩
    · rw [List.mem_singleton.mp z]; exact ⟨wB_ok, by decide +kernel⟩
  have lt := turns_len (B := wB) (C := wC) h
  have ldt := datas_len (turnsW wB wC h)
  refine r_ret ?_
  refine r_call (r_cons (due2 (i := 4) rfl e14.fh (.inl d14) (wks_dds w14) (wks_ful fun k hk => (k14 k hk).1) (by rw [toWs_datas]; exact fun k hk => (k14 k hk).1) (dp fun k hk => (k14 k hk).2) (by omega) (by omega) fun p2 L2 q15 H15 P2 l2 e15 hq15 => ?_))
  rw [toWs_datas] at P2 l2
  obtain rfl := P2.uniq (turns_per wBC)
  obtain rfl := turns_L wBC h0 l2
  have d15 : (upd F14 q15 (.lst (intsV [2 * h + 1, 2 * h - 1]))) q15 = some (.lst (intsV [2 * h + 1, 2 * h - 1])) := upd_same
  generalize upd F14 q15 (.lst (intsV [2 * h + 1, 2 * h - 1])) = F15 at e15 d15
  refine r_cons ?_
  refine ⟨_, rfl, p14, x14, rfl, .inl (SqL.of (e15.fh _ _ (e15.ff _ _ d14))), _, rfl, p14, x14, rfl, .inl (SqL.of (e15.fh _ _ (e15.ff _ _ d14))), _, _, rfl, rfl, by show 2 ≤ sizeLine; decide, fun q16 hq16 => ?_⟩
  rw [l14]
  have ei2 : ([V.int ((2 * h + 1 : Nat) : Int), (fun i j : Int => V.int (i - j)) ((2 * h + 1 : Nat) : Int) 2] : List V) = intsV [2 * h + 1, 2 * h - 1] := by
    show [V.int ((2 * h + 1 : Nat) : Int), V.int (((2 * h + 1 : Nat) : Int) - 2)] = [V.int ((2 * h + 1 : Nat) : Int), V.int ((2 * h - 1 : Nat) : Int)]
    have : ((2 * h + 1 : Nat) : Int) - 2 = ((2 * h - 1 : Nat) : Int) := by omega
    rw [this]
  rw [ei2]
  have e16 : Ex [] F15 H15 (upd F15 q16 (.lst (intsV [2 * h + 1, 2 * h - 1]))) (upd H15 q16 (.lst (intsV [2 * h + 1, 2 * h - 1]))) := Ex.newF e15.fh hq16
  have d16 : (upd F15 q16 (.lst (intsV [2 * h + 1, 2 * h - 1]))) q16 = some (.lst (intsV [2 * h + 1, 2 * h - 1])) := upd_same
  have d156 := e16.ff _ _ d15
  show tNil _ (upd H15 q16 (.lst (intsV [2 * h + 1, 2 * h - 1]))) _
  generalize upd F15 q16 (.lst (intsV [2 * h + 1, 2 * h - 1])) = F16 at e16 d16 d156
  generalize upd H15 q16 (.lst (intsV [2 * h + 1, 2 * h - 1])) = H16 at e16
  exact ⟨.ref q15, .ref q16, intsD [2 * h + 1, 2 * h - 1], F16, rfl, e16.fh, intsD_dd d156 (by simp), intsD_dd d16 (by simp), intsD_ty _, by rw [intsD_dep]; decide, fun H17 e17 => kk H17⟩
end
end T3

namespace T3
open PySem PySem.Spec PyProof.Rows L2 Ly
section
variable {P : Program} {w : World} {K : PySem.W.Frag} {mg : Str → Option Value} {base : Heap}
theorem nds_menu : ∀ k ∈ menu, nds k.data ≤ 1 := menu_all (by decide +kernel) (by decide +kernel) (by decide +kernel) (by decide +kernel) (by decide +kernel) (by decide +kernel)
theorem nds_all : ∀ {ks : List W}, (∀ k ∈ ks, k ∈ menu) → ndsAll (NestedKey.datas ks) ≤ ks.length
  | [], _ => by simp [NestedKey.datas, ndsAll]
  | k :: ks, h => by
    have h1 := nds_menu k (h k (by simp))
    have h2 := nds_all (ks := ks) fun z hz => h z (by simp [hz])
    simp only [NestedKey.datas, ndsAll, List.length_cons]
    omega
def spLaw (K : PySem.W.Frag) : Sp := fun vs H Q _ => ∃ (a : Addr) (ns : List Int), vs = [.ref a] ∧ SqL K H a (ns.map V.int) ∧ ns.length ≤ 63 ∧ ∀ H', Q (.bl true) H'
theorem law_go (T : Top K mg) {B : Around} {outer : List Env} {s : Shared} {H : Hp} {vs : List V} {Q : VK} {E : XK} {cdv : Value} (hgB : B.guards = some []) (hr : Room 19 (B.deeper (envOfC "law" (defScope s_law) s.heap.objs.size (He.fAd K ("law", none)) cdv))) (h : spLaw K vs H Q E) :
    ∃ t, PSs (cxOf CX0 P w K mg base N_law "law" (defScope s_law) (He.fAd K ("law", none)) cdv B outer s H E) (defBody s_law) t ∧ t { nx := fun _ H' => Q .non H', rt := Q } (start N_law vs) H := by
  have G_start : Ok P w K mg base "_law_start" 1 ["_law_script"] (spStart K) := ok_law_start T
  have G_draw : Ok P w K mg base "_law_draw" 1 ["_law_stream", "_law_many"] spDraw := ok_law_draw T
  have G_pick : Ok P w K mg base "_law_pick" 2 ["_law_stream", "_law_some"] spPick := ok_law_pick T
  have G_pattern : Ok P w K mg base "_law_r_pattern" 3 ["_law_stream", "_law_most"] spPattern := ok_law_pattern T
  have G_one : Ok P w K mg base "_law_one_right" 19 ["_law_signs"] (spOneR K) := ok_one_right T
  have G_around : Ok P w K mg base "around" 12 ["signs", "times"] spAround := ok_around T
  have G_loose : Ok P w K mg base "_law_loose" 9 ["_law_stream", "_law_thing"] (spLoose 7) := ok_law_loose T 7
  have G_same : Ok P w K mg base "_law_same" 5 ["_law_found", "_law_due"] (spSameD 4) := ok_same T 4
  have G_least_period : Ok P w K mg base "least_period" 12 ["signs"] spLeast := ok_least_period T
  have G_ring_rounds : Ok P w K mg base "ring_rounds" 12 ["signs"] spRounds := ok_ring_rounds T
  have G_long : Ok P w K mg base "_law_long_right" 13 ["_law_stream"] spLongR := ok_long_right T
  have hgd : (B.deeper (envOfC "law" (defScope s_law) s.heap.objs.size (He.fAd K ("law", none)) cdv)).guards = some [] := hgB
  suffices z : ∃ t, PSs (cxOf CX0 P w K mg base N_law "law" (defScope s_law) (He.ga K "law") cdv B outer s H E).nox (defBody s_law) t ∧ t { nx := fun _ H' => Q .non H', rt := Q } (start N_law vs) H by
    obtain ⟨t, h1, h2⟩ := z
    exact ⟨t, h1.nox, h2⟩
  obtain ⟨a, ns, rfl, hS, hl, kk⟩ := h
  refine ⟨_, (pss_cons (ps_set (i := 1) sc_law.nd rfl (Or.inl rfl) (pe_ok G_start hr (pa_cons (pv 0) pa_nil)))
    (pss_cons (ps_for PassesOwn.never rfl (pi_range1 rfl T.b_range (pa_cons pe_int pa_nil)) (pg_name (i := 2) sc_law.nd rfl (Or.inl rfl)) (pss_cons (ps_asg (pe_ok G_pattern hr (pa_cons (pv 1) (pa_cons pe_int pa_nil))) (pg_tup rfl (pgs_cons (pg_name (i := 3) sc_law.nd rfl (Or.inl rfl)) (pgs_cons (pg_name (i := 4) sc_law.nd rfl (Or.inl rfl)) pgs_nil))))
    (pss_cons (ps_if (pt_cmpR op_eq (pe_ok G_draw hr (pa_cons (pv 1) (pa_cons pe_int pa_nil))) pe_int (nomark _)) (pss_one (ps_asg (pe_ok G_pick hr (pa_cons (pv 1) (pa_cons (pe_lst (pa_cons pe_str (pa_cons pe_str (pa_cons pe_str (pa_cons pe_int pa_nil))))) pa_nil))) (pg_sub (pv 3) (pe_ok G_draw hr (pa_cons (pv 1) (pa_cons (pe_callB call_len_seq rfl T.b_len (by decide +kernel) (pa_cons (pv 3) pa_nil)) pa_nil))) set_list))) pss_nil)
    (pss_cons (ps_if (pt_not (pt_val (pe_ok G_one hr (pa_cons (pv 3) pa_nil)))) (pss_one (ps_ret pe_bl)) pss_nil)
    (pss_cons (ps_set (i := 5) sc_law.nd rfl (Or.inl rfl) (pe_op op_add pe_int (pe_ok G_draw hr (pa_cons (pv 1) (pa_cons pe_int pa_nil)))))
    (pss_cons (ps_par (i := 6) (j := 7) rfl sc_law.nd rfl rfl (by decide) rfl rfl (pa_cons (pe_ok G_around hr (pa_cons (pv 3) (pa_cons (pv 5) pa_nil))) (pa_cons (pe_ok G_loose hr (pa_cons (pv 1) (pa_cons (pv 3) pa_nil))) pa_nil)) rfl)
    (pss_cons (ps_par (i := 8) (j := 9) rfl sc_law.nd rfl rfl (by decide) rfl rfl (pa_cons (pe_callB (call_reprD hgd (hu64 hr)) rfl T.b_repr (by decide +kernel) (pa_cons (pv 7) pa_nil)) (pa_cons (pe_lst (pa_cons (pe_ok G_least_period hr (pa_cons (pv 7) pa_nil)) (pa_cons (pe_ok G_ring_rounds hr (pa_cons (pv 7) pa_nil)) pa_nil))) pa_nil)) rfl)
    (pss_one (ps_if (PW.pt (pw_or (pt_not (pt_val (pe_ok G_same hr (pa_cons (pe_lst (pa_cons (pe_ok G_least_period hr (pa_cons (pv 6) pa_nil)) (pa_cons (pe_ok G_ring_rounds hr (pa_cons (pv 6) pa_nil)) pa_nil))) (pa_cons (pv 9) pa_nil))))) (pw_or1 (pt_cmpR op_ne (pe_callB (call_reprD hgd (hu64 hr)) rfl T.b_repr (by decide +kernel) (pa_cons (pv 7) pa_nil)) (pv 8) (nomark _))))) (pss_one (ps_ret pe_bl)) pss_nil)))))))))
    (pss_one (ps_ret (pe_ok G_long hr (pa_cons (pv 1) pa_nil)))))), ?_⟩
  have z1 := sizeLine_eq
  have hF0 : Same (fun _ => none) H := fun b o z => by cases z
  refine r_seq (r_asg (r_call (r_cons ⟨_, rfl, a, ns, fun _ => none, rfl, hS, hF0, fun st q H1 e1 s1 _ _ => r_next ?_⟩)))
  dsimp only
  refine r_seq (forg_rng (n := 6) [st, q] (fun R h => h) (by omega) e1.fh (fun i σ1 F1 H1 => (∃ u2 u3 u4 u5 u6 u7 u8 u9, σ1 = [some (.ref a), some (.ref st), u2, u3, u4, u5, u6, u7, u8, u9]) ∧ Strm F1 H1 st q (5000 * (i : Nat))) ⟨⟨_, _, _, _, _, _, _, _, rfl⟩, by simpa using s1⟩ ?_ ?_)
  · rintro i σ1 F1 H2 Nk hi e ⟨⟨u2, u3, u4, u5, u6, u7, u8, u9, rfl⟩, s2⟩ nk
    refine r_seq (r_asg (r_call (r_cons ⟨_, rfl, r_cons (r_c ?_)⟩)))
    refine ⟨st, q, F1, _, rfl, e.fh, s2, by omega, fun T sa se n F2 H3 e3 s3 dT hsa0 pat => ⟨T, _, rfl, SqT.of (e3.fh _ _ dT), rfl, _, _, rfl, _, _, rfl, rfl, r_next ?_⟩⟩
    obtain ⟨xs, ys, a1, a2, a3, a4, a5, a6⟩ := pat.ex
    have n0 := pat.pos
    have n1 := pat.le
    have fsa1 : F1 sa = none := Same.free e.fh hsa0
    have e3u := e3.unf fsa1
    have s3h := s3.hs
    have nst : sa ∉ [st, q] := s2.ne (.inr hsa0)
    have hsaH3 := e3.fh _ _ a1
    have ok3 : ∀ x ∈ xs, okM (unf F2 sa) x := fun x hx => (a5 x hx).unf a1
    have u3' : (unf F2 sa) sa = none := unf_at
    have s3u : Strm (unf F2 sa) H3 st q (5000 * (i : Nat) + 100) := by
      have q1 : st ≠ sa := fun z => nst (by rw [← z]; simp)
      have q2 : q ≠ sa := fun z => nst (by rw [← z]; simp)
      exact s3.up (by rw [unf_ne q1]; exact s3h.2.2.1) (by rw [unf_ne q2]; exact s3h.2.2.2)
    generalize unf F2 sa = F3 at e3u ok3 u3' s3u
    dsimp only
    -- one sign otherwise
    let Inv : L2.St → Hp → Prop := fun σ' H' => ∃ (F4 : Hp) (xs' : List V), σ' = [some (.ref a), some (.ref st), some (.int (i : Nat)), some (.ref sa), some (.ref se), u5, u6, u7, u8, u9] ∧ Ex [st, q] F1 H2 F4 H' ∧ Strm F4 H' st q (5000 * (i : Nat) + 200) ∧ F4 sa = none ∧ H' sa = some (.lst xs') ∧ xs'.length = n ∧ ∀ x ∈ xs', okM F4 x
    refine r_seqI Inv ?_ fun nxt => ?_
    · rintro σ' H4 ⟨F4, xs', rfl, e4, s4, f4, d4, l4, o4⟩
      obtain ⟨ks, w4, k4⟩ := okMs_words o4
      have lks := w4.len
      have e5 := e4.frz hsa0 d4 f4
      have s5 := s4.fz (o := .lst xs') hsa0 s2
      have d5 : (upd F4 sa (.lst xs')) sa = some (.lst xs') := upd_same
      have rg : Rg (upd F4 sa (.lst xs')) sa xs' ks := ⟨d5, w4.up (Same.upd f4), fun k hk => menu_wok k (k4 k hk), by omega, by omega⟩
      generalize upd F4 sa (.lst xs') = F5 at e5 s5 d5 rg
      refine r_seq (r_ifS ⟨_, rfl, sa, xs', ks, F5, rfl, e5.fh, rg, fun H6 e6 => ⟨_, rfl, iteF (r_next ?_)⟩⟩)
      dsimp only
      have s6 := s5.ex0 e6
      refine r_seq (r_asg (r_op (r_c (r_call (r_cons ⟨_, rfl, r_cons (r_c ?_)⟩)))))
      refine ⟨st, q, 9, F5, _, rfl, e6.fh, s6, by decide, by decide, by omega, fun d H7 d0 d1 e7 s7 => ⟨_, _, rfl, rfl, r_next ?_⟩⟩
      obtain ⟨t, ht⟩ : ∃ t : Nat, 1 + d = (t : Int) := ⟨(1 + d).toNat, by omega⟩
      rw [show (fun i j : Int => V.int (i + j)) 1 d = V.int (t : Int) from congrArg V.int ht]
      dsimp only
      have E7 : Ex [st, q] F1 H2 F5 H7 := e5.trans ((e6.mono (by simp)).trans e7)
      have ld := datas_len ks
      have k0 : 0 < ks.length := by omega
      have kok : ∀ k ∈ ks, kWok k := fun k hk => wok_kwok (rg.ok k hk)
      refine r_seq (r_par (r_cons (r_call (r_cons ⟨_, rfl, r_cons ⟨_, rfl, ?_⟩⟩))))
      refine ⟨sa, t, xs', NestedKey.datas ks, F5, rfl, e7.fh, .inl rg.at_, wks_dds rg.w, rg.ful, rg.dep, by omega, by omega, by omega, by omega, fun D ys8 F8 H8 e8 dD wD => r_cons (r_call (r_cons ⟨_, rfl, r_cons ⟨_, rfl, ?_⟩⟩))⟩
      rw [toWs_datas] at wD
      have s8 := s7.ex0 e8
      have rg8 := rg.up e8.ff
      have nd := nds_all k4
      have hdd : Dd F8 (.list (NestedKey.datas ks)) (.ref sa) := dd_list.mpr ⟨sa, xs', rfl, rg8.at_, wks_dds rg8.w, by omega⟩
      have hnd : nds (.list (NestedKey.datas ks)) = ndsAll (NestedKey.datas ks) + 1 := rfl
      refine ⟨st, q, .ref sa, .list (NestedKey.datas ks), F8, _, rfl, e8.fh, s8, hdd, by simpa [wordy] using rg8.ful, by have := rg8.dep; simp only [PyData.depth]; omega, by rw [hnd]; omega, fun v d' F9 H9 e9 s9 dd9 tw9 w9 dp9 sq9 => ⟨_, _, rfl, r_next ?_⟩⟩
      have dep8 := rg8.dep
      have tw' : toW d' = .tup ks := by rw [tw9]; simp [toW, toWs_datas]
      obtain ⟨b, zs, ds, rfl, hb, hds, hsq, hlz⟩ : ∃ (b : Addr) (zs : List V) (ds : List PyData), v = .ref b ∧ (F9 b = some (.lst zs) ∨ F9 b = some (.tup zs)) ∧ Dds F9 ds zs ∧ (d' = .list ds ∨ d' = .tuple ds) ∧ ds.length < 1000000 := by
        cases d' with
        | list ds =>
          obtain ⟨b, zs, h1, h2, h3, h4⟩ := dd_list.mp dd9
          exact ⟨b, zs, ds, h1, .inl h2, h3, .inl rfl, h4⟩
        | tuple ds =>
          obtain ⟨b, zs, h1, h2, h3, h4⟩ := dd_tuple.mp dd9
          exact ⟨b, zs, ds, h1, .inr h2, h3, .inr rfl, h4⟩
        | int i => simp [toW] at tw'
        | str x => simp [toW] at tw'
        | none => simp [seqy] at sq9
        | bool b => simp [seqy] at sq9
        | dict kvs => simp [seqy] at sq9
      have twd : toWs ds = ks := by
        rcases hsq with z | z <;> (rw [z] at tw'; simp only [toW] at tw'; injection tw')
      have wds : wordys ds = true := by
        rcases hsq with z | z <;> (rw [z] at w9; simpa [wordy] using w9)
      have lds : ds.length = ks.length := by rw [← twd, toWs_len]
      have dds6 : PyData.depthAll ds < 6 := by
        simp only [PyData.depth] at dp9
        rcases hsq with z | z <;> (rw [z] at dp9; simp only [PyData.depth] at dp9; omega)
      have kwd : ∀ k ∈ toWs ds, kWok k := by rw [twd]; exact kok
      obtain ⟨sh1, sh2, sh3⟩ := loose_top hsq wds (by rw [twd]; exact k4) (by omega)
      have dpth : d'.depth ≤ 60 := by
        simp only [PyData.depth] at dp9
        omega
      dsimp only
      -- told
      have hwd : wordy d' = true := w9
      refine r_seq (r_par (r_cons (r_cb (r_cons ⟨_, rfl, b, d', rfl, dd_dp e9.fh dd9 hwd, sh1, sh2, dpth, sh3, ?_⟩))))
      refine r_cons (due2 (i := 7) rfl e9.fh hb hds wds kwd dds6 (by omega) (by omega) fun p L q10 H10 P l e10 hq10 => ⟨_, _, rfl, ?_⟩)
      rw [twd] at P l
      have d10 : (upd F9 q10 (.lst (intsV [p, L]))) q10 = some (.lst (intsV [p, L])) := upd_same
      generalize upd F9 q10 (.lst (intsV [p, L])) = F10 at e10 d10
      dsimp only
      have dD10 := e10.ff _ _ (e9.ff _ _ dD)
      have wD10 := (wD.up e9.ff).up e10.ff
      have lrep : ((List.replicate t ks).flatten).length = t * ks.length := by simp
      have lrep2 : t * ks.length ≤ 10 * 10 := Nat.mul_le_mul (by omega) (by omega)
      have t0 : 0 < t := by omega
      have lrep0 : 0 < t * ks.length := Nat.mul_pos t0 k0
      have kr : ∀ k ∈ (List.replicate t ks).flatten, k ∈ ks := fun k hk => by
        obtain ⟨m, hm, hkm⟩ := List.mem_flatten.mp hk
        rw [(List.mem_replicate.mp hm).2] at hkm
        exact hkm
      have ldr := datas_len ((List.replicate t ks).flatten)
      have Pr : IsPer ((List.replicate t ks).flatten) p := isPer_same (fun i => cyc_rep t t0 i) (by omega) P (by rw [lrep]; exact Nat.dvd_trans P.dvd (Nat.dvd_mul_left _ _))
      have lr : IsL ((List.replicate t ks).flatten) L := l.same fun i => cyc_rep t t0 i
      refine r_ifS ?_
      show tOr (tNot (tB (tCall (spSameD 4) [] E0 (tCons (tLst _) (tCons (tVar 9) tNil))))) (tTest (tOp rNe (tCB (rReprD K) (tCons (tVar 7) tNil)) (tVar 8))) _ H10 _
      have dpr : PyData.depthAll (NestedKey.datas ((List.replicate t ks).flatten)) < 6 := by
        rw [depths_datas]
        have := dall_le (n := 5) (ks := (List.replicate t ks).flatten) fun k hk => by have := (rg.ok k (kr k hk)).dp; omega
        omega
      refine r_call (r_cons (due2 (i := 6) rfl e10.fh (.inl dD10) (wks_dds wD10) (wks_ful fun k hk => kok k (kr k hk)) (by rw [toWs_datas]; exact fun k hk => kok k (kr k hk)) dpr (by omega) (by omega) fun p2 L2 q11 H11 P2 l2 e11 hq11 => ?_))
      rw [toWs_datas] at P2 l2
      obtain rfl := P2.uniq Pr
      obtain rfl := l2.uniq lr
      have d11 : (upd F10 q11 (.lst (intsV [p2, L2]))) q11 = some (.lst (intsV [p2, L2])) := upd_same
      have d101 := e11.ff _ _ d10
      generalize upd F10 q11 (.lst (intsV [p2, L2])) = F11 at e11 d11 d101
      refine r_cons ⟨_, rfl, ?_⟩
      refine ⟨.ref q11, .ref q10, intsD [p2, L2], F11, rfl, e11.fh, intsD_dd d11 (by simp), intsD_dd d101 (by simp), intsD_ty _, by rw [intsD_dep]; decide, fun H12 e12 => ⟨_, rfl, iteF ?_⟩⟩
      have E12 : Ex [st, q] F1 H2 F11 H12 := E7.trans ((e8.mono (by simp)).trans (e9.trans ((e10.trans (e11.trans e12)).mono (by simp))))
      have s12 := s9.ex0 (e10.trans (e11.trans e12))
      have dd12 := (dd9.up e10.ff).up e11.ff
      refine ⟨_, rfl, b, d', rfl, dd_dp e12.fh dd12 hwd, sh1, sh2, dpth, sh3, _, rfl, rfl, _, rfl, iteF' (by simp) (r_next ?_)⟩
      exact nk _ F11 H12 E12 ⟨⟨_, _, _, _, _, _, _, _, rfl⟩, s12.le (by omega)⟩
    · refine r_ifS ⟨_, rfl, st, q, 4, F3, _, rfl, e3u.fh, s3u, by decide, by decide, by omega, fun d H4 d0 d1 e4 s4 => ⟨rfl, _, rfl, ?_⟩⟩
      have E4 := e3u.trans e4
      have d4 := e4.at hsaH3 nst
      refine ite2 (fun _ => ?_) (fun _ => r_next (nxt _ _ ⟨F3, xs, rfl, E4, s4.le (by omega), u3', d4, a3, ok3⟩))
      refine r_asg (r_call (r_cons ⟨_, rfl, r_cons (em_l (em_cons em_str (em_cons em_str (em_cons em_str (em_cons em_zero em_nil)))) e4.fh fun b ws F5 H5 e5 hb lb ob => ?_)⟩))
      refine ⟨st, q, b, ws, F5, _, rfl, e5.fh, s4.ex0 e5, hb, by omega, by omega, by omega, fun v H6 hv e6 s6 => ?_⟩
      have d6 := e6.at (e5.at d4) nst
      refine ⟨_, rfl, r_call (r_cons ⟨_, rfl, r_cons (r_cb (r_cons ⟨_, rfl, sa, xs, rfl, .inl (SqL.of d6), ?_⟩))⟩)⟩
      refine ⟨st, q, xs.length, F5, _, rfl, e6.fh, s6, by omega, by omega, by omega, fun g H7 g0 g1 e7 s7 => ?_⟩
      obtain ⟨j, rfl⟩ : ∃ j : Nat, g = (j : Int) := ⟨g.toNat, by omega⟩
      have d7 := e7.at d6 nst
      have E7 : Ex [st, q] F1 H2 F5 H7 := E4.trans ((e5.mono (by simp)).trans (e6.trans e7))
      have f5 : F5 sa = none := e5.nf u3' (ne_none d4)
      refine ⟨sa, xs, _, j, rfl, rfl, d7, ixN_at (by omega), ?_⟩
      have e8 := E7.wr (o := .lst (xs.set j v)) hsa0 f5
      refine nxt _ _ ⟨F5, xs.set j v, rfl, e8, ?_, f5, upd_same, by rw [List.length_set]; exact a3, fun x hx => ?_⟩
      · have e9 : Ex [sa] F5 H7 F5 (upd H7 sa (.lst (xs.set j v))) := Ex.put e7.fh f5 (by simp)
        exact (s7.ex e9 (fun z => nst (by rw [← List.mem_singleton.mp z]; simp)) (fun z => nst (by rw [← List.mem_singleton.mp z]; simp))).le (by omega)
      · rcases List.mem_or_eq_of_mem_set hx with z | z
        · exact (ok3 x z).up e5.ff
        · rw [z]; exact ob v hv
  · rintro σ1 F1 H2 e ⟨⟨u2, u3, u4, u5, u6, u7, u8, u9, rfl⟩, s2⟩
    dsimp only
    refine r_ret (r_call (r_cons ⟨_, rfl, ?_⟩))
    exact ⟨st, q, F1, _, rfl, e.fh, s2, by omega, fun H' => kk H'⟩
end
end T3

open PySem PySem.W PySem.Calls PyProof.Rows
theorem PySem.Challenge.cw_samefromhere_k47_whole_periods_of_rings_holds : PySem.Challenge.rw_samefromhere_k47_whole_periods_of_rings.Holds := by
  w_on; o_law
  refine HandSHeadRun.head_any (r := OpenLaw.row PySem.Challenge.rw_samefromhere_k47_whole_periods_of_rings) (q := view (OpenLaw.row PySem.Challenge.rw_samefromhere_k47_whole_periods_of_rings).prog [52]) (H := T3.hk) (ob := T3.ob) (M := 3000) (loose := T3.names) (d := HandSHeadRun.topDef (OpenLaw.row PySem.Challenge.rw_samefromhere_k47_whole_periods_of_rings).prog 52) (kwd := []) T3.ob_eq
    (by kernel_rfl) (fun s => by kernel_rfl) T3.run (by kernel_rfl) (by kernel_rfl) (by kernel_rfl) (by rfl) (by first | assumption | decide +kernel) (by decide +kernel) ⟨rfl, rfl, rfl, rfl, rfl, by decide +kernel⟩ ?hw ?hc
  case hw => w_witness2
  case hc =>
    refine Att.attach_call (l := PySem.Challenge.rw_samefromhere_k47_whole_periods_of_rings) (n := 63) rfl (by kernel_rfl) fun w s₀ s₁ mg mb fa o pm cd doc a vs ns G Y ho hd hcd hmg0 hobj hints hlen hg => ?_
    obtain ⟨K, KX, c, cx⟩ := Y
    have hmg : mg ("law" : PySem.Str) = some (.ref fa) := by
      have e : (HandSHeadRun.topDef (OpenLaw.row PySem.Challenge.rw_samefromhere_k47_whole_periods_of_rings).prog 52).name = ("law" : PySem.Str) := by kernel_rfl
      rw [← e]
      exact hmg0
    have T := T3.top_of KX G.T.g c cx
    have ef := hmg.symm.trans T.g_law
    cases ef
    obtain ⟨fd, F⟩ := T.F_law
    have bind := L2.FunD.bindsA (ps := ["_law_script"]) F (fun _ _ _ _ _ _ us hl => match us, hl with | [_], _ => rfl) s₁ [.ref a] rfl
    obtain ⟨oc, od, dV, kV, doc2, pm2, an, cdv, ct, osl, rfl, lk, hcode, _, _⟩ := F.ex
    have room : L2.Room 20 callerA := ⟨rfl, by decide, by decide⟩
    refine Ly.law_enter (K := K) KX G.T.g G.T.b G.T.builtins G.T.nolimit hg hobj hints (Nat.le_trans hlen (by decide)) fun H sq e0 => ?_
    exact Ly.enter_at (k := 19) (N := T3.N_law) (ps := ["_law_script"]) (vs := [.ref a]) (us := [.ref a]) lk hcode T3.sc_law room e0 bind (.cons rfl .nil) rfl
      (T3.law_go (w := w) (base := L2.hidT s₁.heap H) (B := callerA) (outer := []) (s := s₁) (H := H) (Q := fun v _ => v = L2.V.bl true) (E := fun _ _ _ => False) (cdv := cdv) T rfl (room.deeper _) ⟨a, ns, rfl, sq, hlen, fun _ => rfl⟩)

