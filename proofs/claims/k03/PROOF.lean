import PyProof.Rows.All
import Wide.All
import OpenK.AllK
import Wide.FinOn
import KE.KStateDown
import KE.KeyNested
import KE.KDictKeyed
import HandS.ForMost
import HandS.WordsExc
import HandS.Defaults
import HandS.Walk
import HandS.IsInst
import HandS.Deep
import HandS.Conv
import HandS.DictComp
import HandS.Flow
import HandS.SortOrd
import HandS.Zip
import HandS.Head0
import HandS.Head1
import HandS.Head2
import HandS.HeadEnd
import HandS.HeadHook1
import HandS.HeadHook2
import KE.LtData
import KE.KSortTup
import KE.KSortKey
import KE.SortKeyHeap
import HandS.SortKw
import KE.SortCalls
import HandS.WordsDict
import PySem.Challenge.RW_samefromhere_k03_two_way_joined_strong
set_option Elab.async false
set_option linter.all false
set_option maxRecDepth 100000
set_option maxHeartbeats 4000000
namespace Ly
open PySem PySem.Spec PyProof.Rows L2
abbrev W := NestedKey
/-! ### what is frozen (F) within what is tracked (H); how both go on; M: what may be written -/
theorem Same.some {F F' : Hp} (h : Same F F') {b : Addr} {o : HO} (e : F b = some o) : F' b = some o := h b o e
structure Ex (M : List Addr) (F H F' H' : Hp) : Prop where
  ff : Same F F'
  fh : Same F' H'
  hh : ∀ b o, b ∉ M → H b = some o → H' b = some o
  dm : ∀ b, H b ≠ none → H' b ≠ none
  fr : ∀ b, F' b ≠ none → F b ≠ none ∨ H b = none
section
variable {M M' : List Addr} {F F' F1 F2 H H' H1 H2 : Hp} {p q : Addr} {o u : HO}
theorem Ex.refl (h : Same F H) : Ex M F H F H := ⟨Same.refl F, h, fun _ _ _ e => e, fun _ e => e, fun _ e => .inl e⟩
theorem Ex.trans (a : Ex M F H F1 H1) (b : Ex M F1 H1 F2 H2) : Ex M F H F2 H2 where
  ff := Same.trans a.ff b.ff
  fh := b.fh
  hh := fun c o hc e => b.hh c o hc (a.hh c o hc e)
  dm := fun c e => b.dm c (a.dm c e)
  fr := fun c e => by
    rcases b.fr c e with h | h
    · exact a.fr c h
    · right
      cases z : H c with
      | none => rfl
      | some o => exact absurd h (a.dm c (by rw [z]; intro y; cases y))
theorem Ex.mono (a : Ex M F H F1 H1) (h : ∀ b ∈ M, b ∈ M') : Ex M' F H F1 H1 := ⟨a.ff, a.fh, fun b o hb e => a.hh b o (fun z => hb (h b z)) e, a.dm, a.fr⟩
theorem Ex.nil (a : Ex [] F H F1 H1) : Ex M F H F1 H1 := a.mono fun _ h => nomatch h
/-- what stood and may not be written stands -/
theorem Ex.at (a : Ex M F H F1 H1) (e : H p = some o) (h : p ∉ M := by simp) : H1 p = some o := a.hh p o h e
theorem Ex.fz (a : Ex M F H F1 H1) (e : F p = some o) : F1 p = some o := a.ff p o e
/-- what stood and was not frozen is not -/
theorem Ex.nf (a : Ex M F H F1 H1) (hf : F p = none) (hp : H p ≠ none) : F1 p = none := by
  cases z : F1 p with
  | none => rfl
  | some o =>
    rcases a.fr p (by rw [z]; intro y; cases y) with h | h
    · exact absurd hf h
    · exact absurd h hp
theorem ne_none {H : Hp} {p : Addr} {o : HO} (e : H p = some o) : H p ≠ none := by rw [e]; intro z; cases z
theorem none_of_upd (hp : H p = none) (e : upd H q o p = none) : p ≠ q := fun z => by rw [z, upd_same] at e; cases e
theorem upd_none {H : Hp} {p q : Addr} {o : HO} (h : upd H q o p = none) : H p = none ∧ p ≠ q := by
  by_cases z : p = q
  · rw [z, upd_same] at h; cases h
  · rw [upd_ne z] at h; exact ⟨h, z⟩
/-- a new object, frozen -/
theorem Ex.newF (h : Same F H) (hp : H p = none) : Ex M F H (upd F p o) (upd H p o) where
  ff := fun b v e => by rw [upd_ne (ne_of_none (h b v e) hp)]; exact e
  fh := fun b v e => by
    by_cases z : b = p
    · rw [z, upd_same] at e ⊢; exact e
    · rw [upd_ne z] at e ⊢; exact h b v e
  hh := fun b v _ e => by rw [upd_ne (ne_of_none e hp)]; exact e
  dm := fun b e => by
    by_cases z : b = p
    · rw [z, upd_same]; intro y; cases y
    · rw [upd_ne z]; exact e
  fr := fun b e => by
    by_cases z : b = p
    · rw [z]; exact .inr hp
    · rw [upd_ne z] at e; exact .inl e
/-- a new object, to be written further -/
theorem Ex.new (h : Same F H) (hp : H p = none) : Ex M F H F (upd H p o) where
  ff := Same.refl F
  fh := fun b v e => by rw [upd_ne (ne_of_none (h b v e) hp)]; exact h b v e
  hh := fun b v _ e => by rw [upd_ne (ne_of_none e hp)]; exact e
  dm := fun b e => by
    by_cases z : b = p
    · rw [z, upd_same]; intro y; cases y
    · rw [upd_ne z]; exact e
  fr := fun b e => .inl e
/-- a thing that is not frozen is written -/
theorem Ex.put (h : Same F H) (hf : F p = none) (hp : p ∈ M) : Ex M F H F (upd H p o) where
  ff := Same.refl F
  fh := fun b v e => by rw [upd_ne (ne_of_none e hf)]; exact h b v e
  hh := fun b v hb e => by rw [upd_ne (fun z => hb (by rw [z]; exact hp))]; exact e
  dm := fun b e => by
    by_cases z : b = p
    · rw [z, upd_same]; intro y; cases y
    · rw [upd_ne z]; exact e
  fr := fun b e => .inl e
/-- .. one that came behind the start -/
theorem Ex.wr (a : Ex M F H F1 H1) (h0 : H p = none) (hf : F1 p = none) : Ex M F H F1 (upd H1 p o) where
  ff := a.ff
  fh := fun b v e => by rw [upd_ne (ne_of_none e hf)]; exact a.fh b v e
  hh := fun b v hb e => by rw [upd_ne (ne_of_none e h0)]; exact a.hh b v hb e
  dm := fun b e => by
    by_cases z : b = p
    · rw [z, upd_same]; intro y; cases y
    · rw [upd_ne z]; exact a.dm b e
  fr := a.fr
/-- it is frozen from here on -/
theorem Ex.frz (a : Ex M F H F1 H1) (h0 : H p = none) (e : H1 p = some o) (hf : F1 p = none) : Ex M F H (upd F1 p o) H1 where
  ff := fun b v z => by rw [upd_ne (ne_of_none (a.ff b v z) hf)]; exact a.ff b v z
  fh := fun b v z => by
    by_cases y : b = p
    · rw [y, upd_same] at z; rw [y, e]; exact z
    · rw [upd_ne y] at z; exact a.fh b v z
  hh := a.hh
  dm := a.dm
  fr := fun b z => by
    by_cases y : b = p
    · rw [y]; exact .inr h0
    · rw [upd_ne y] at z; exact a.fr b z
theorem Same.upd (hf : F p = none) : Same F (upd F p o) := fun b v z => by rw [upd_ne (ne_of_none z hf)]; exact z
theorem Same.le {F H : Hp} {p : Addr} (h : Same F H) (e : H p = none) : F p = none := Same.free h e
end
/-! ### words -/
mutual
def Wk (F : Hp) : W → V → Prop
  | .none, v => v = .non
  | .num i, v => v = .int i
  | .text s, v => v = .str s
  | .tup ks, v => ∃ a vs, v = .ref a ∧ F a = some (.tup vs) ∧ Wks F ks vs ∧ ks.length < 1000000
def Wks (F : Hp) : List W → List V → Prop
  | [], vs => vs = []
  | k :: ks, vs => ∃ v r, vs = v :: r ∧ Wk F k v ∧ Wks F ks r
end
section
variable {F F' H : Hp}
mutual
theorem Wk.mono (h : ∀ a xs, F a = some (.tup xs) → F' a = some (.tup xs)) : ∀ {k : W} {v : V}, Wk F k v → Wk F' k v
  | .none, _, e => e
  | .num _, _, e => e
  | .text _, _, e => e
  | .tup ks, v, e => by
    obtain ⟨a, vs, e1, e2, e3, e4⟩ := (show ∃ a vs, v = .ref a ∧ F a = some (.tup vs) ∧ Wks F ks vs ∧ ks.length < 1000000 by simpa [Wk] using e)
    have q := Wks.mono h e3
    simp only [Wk]
    exact ⟨a, vs, e1, h _ _ e2, q, e4⟩
theorem Wks.mono (h : ∀ a xs, F a = some (.tup xs) → F' a = some (.tup xs)) : ∀ {ks : List W} {vs : List V}, Wks F ks vs → Wks F' ks vs
  | [], _, e => e
  | k :: ks, vs, e => by
    obtain ⟨v, r, e1, e2, e3⟩ := (show ∃ v r, vs = v :: r ∧ Wk F k v ∧ Wks F ks r by simpa [Wks] using e)
    have q1 := Wk.mono h e2
    have q2 := Wks.mono h e3
    simp only [Wks]
    exact ⟨v, r, e1, q1, q2⟩
end
theorem Wk.up (h : Same F F') {k : W} {v : V} (e : Wk F k v) : Wk F' k v := e.mono fun a xs q => h a _ q
theorem Wks.up (h : Same F F') {ks : List W} {vs : List V} (e : Wks F ks vs) : Wks F' ks vs := e.mono fun a xs q => h a _ q
theorem wk_tup {ks : List W} {v : V} : Wk F (.tup ks) v ↔ ∃ a vs, v = .ref a ∧ F a = some (.tup vs) ∧ Wks F ks vs ∧ ks.length < 1000000 := by simp [Wk]
theorem wk_num {i : Int} {v : V} : Wk F (.num i) v ↔ v = .int i := by simp [Wk]
theorem wk_text {s : Str} {v : V} : Wk F (.text s) v ↔ v = .str s := by simp [Wk]
theorem wks_nil {vs : List V} : Wks F [] vs ↔ vs = [] := by simp [Wks]
theorem wks_cons {k : W} {ks : List W} {vs : List V} : Wks F (k :: ks) vs ↔ ∃ v r, vs = v :: r ∧ Wk F k v ∧ Wks F ks r := by simp [Wks]
theorem Wks.len : ∀ {ks : List W} {vs : List V}, Wks F ks vs → vs.length = ks.length
  | [], vs, e => by rw [wks_nil.mp e]; rfl
  | k :: ks, vs, e => by
    obtain ⟨v, r, rfl, _, e3⟩ := wks_cons.mp e
    simp [Wks.len e3]
theorem Wks.get : ∀ {ks : List W} {vs : List V} {i : Nat} {v : V}, Wks F ks vs → vs[i]? = some v → ∃ k, ks[i]? = some k ∧ Wk F k v
  | [], vs, i, v, e, h => by rw [wks_nil.mp e] at h; simp at h
  | k :: ks, vs, i, v, e, h => by
    obtain ⟨v', r, rfl, e2, e3⟩ := wks_cons.mp e
    cases i with
    | zero => simp at h; subst h; exact ⟨k, rfl, e2⟩
    | succ i => simp at h; obtain ⟨k', q1, q2⟩ := Wks.get e3 h; exact ⟨k', by simpa using q1, q2⟩
theorem Wks.at : ∀ {ks : List W} {vs : List V} {i : Nat} {k : W}, Wks F ks vs → ks[i]? = some k → ∃ v, vs[i]? = some v ∧ Wk F k v
  | [], vs, i, k, e, h => by simp at h
  | k :: ks, vs, i, k', e, h => by
    obtain ⟨v', r, rfl, e2, e3⟩ := wks_cons.mp e
    cases i with
    | zero => simp at h; subst h; exact ⟨v', rfl, e2⟩
    | succ i => simp at h; obtain ⟨v, q1, q2⟩ := Wks.at e3 h; exact ⟨v, by simpa using q1, q2⟩
theorem Wks.app : ∀ {ks ls : List W} {vs us : List V}, Wks F ks vs → Wks F ls us → Wks F (ks ++ ls) (vs ++ us)
  | [], ls, vs, us, e, h => by rw [wks_nil.mp e]; exact h
  | k :: ks, ls, vs, us, e, h => by
    obtain ⟨v', r, rfl, e2, e3⟩ := wks_cons.mp e
    exact wks_cons.mpr ⟨v', r ++ us, rfl, e2, Wks.app e3 h⟩
theorem Wks.one {k : W} {v : V} (e : Wk F k v) : Wks F [k] [v] := wks_cons.mpr ⟨v, [], rfl, e, wks_nil.mpr rfl⟩
theorem Wks.nil : Wks F [] [] := wks_nil.mpr rfl
theorem Wks.cons {k : W} {ks : List W} {v : V} {vs : List V} (e : Wk F k v) (h : Wks F ks vs) : Wks F (k :: ks) (v :: vs) := wks_cons.mpr ⟨v, vs, rfl, e, h⟩
theorem Wks.take : ∀ {ks : List W} {vs : List V} (n : Nat), Wks F ks vs → Wks F (ks.take n) (vs.take n)
  | ks, vs, 0, _ => by simp; exact Wks.nil
  | [], vs, n + 1, e => by rw [wks_nil.mp e]; simp; exact Wks.nil
  | k :: ks, vs, n + 1, e => by
    obtain ⟨v', r, rfl, e2, e3⟩ := wks_cons.mp e
    simpa using Wks.cons e2 (Wks.take n e3)
theorem Wks.drop : ∀ {ks : List W} {vs : List V} (n : Nat), Wks F ks vs → Wks F (ks.drop n) (vs.drop n)
  | ks, vs, 0, e => by simpa using e
  | [], vs, n + 1, e => by rw [wks_nil.mp e]; simp; exact Wks.nil
  | k :: ks, vs, n + 1, e => by
    obtain ⟨v', r, rfl, e2, e3⟩ := wks_cons.mp e
    simpa using Wks.drop n e3
theorem Wks.of_get {ks : List W} : ∀ {vs : List V}, vs.length = ks.length → (∀ (i : Nat) k v, ks[i]? = some k → vs[i]? = some v → Wk F k v) → Wks F ks vs := by
  induction ks with
  | nil => intro vs h _; exact wks_nil.mpr (List.length_eq_zero_iff.mp h)
  | cons k ks ih =>
    intro vs h g
    cases vs with
    | nil => simp at h
    | cons v r => exact Wks.cons (g 0 k v rfl rfl) (ih (by simpa using h) fun i k' v' a b => g (i + 1) k' v' (by simpa using a) (by simpa using b))
end
/-- a tuple that is just laid is the word -/
theorem wk_new {F : Hp} {p : Addr} {ks : List W} {vs : List V} (hp : F p = none) (h : Wks F ks vs) (hl : ks.length < 1000000 := by first | decide | (show _ < _; simp)) : Wk (upd F p (.tup vs)) (.tup ks) (.ref p) :=
  wk_tup.mpr ⟨p, vs, rfl, upd_same, h.up (Same.upd hp), hl⟩
end Ly

namespace Ly
open PySem PySem.Spec PyProof.Rows L2
/-! ### rules by short names, their transformers named -/
abbrev RAdd : R2 := rI0 fun i j => .int (i + j)
abbrev RSub : R2 := rI0 fun i j => .int (i - j)
abbrev RMul : R2 := rI CMul fun i j => .int (i * j)
abbrev RMod : R2 := rI (fun _ j => j ≠ 0) fun i j => .int (i.fmod j)
abbrev RFdiv : R2 := rI CDivN fun i j => .int (i.fdiv j)
abbrev RPow : R2 := rI CPow fun i j => .int (i ^ j.toNat)
abbrev RLt : R2 := rI0 fun i j => .bl (decide (i < j))
abbrev RLe : R2 := rI0 fun i j => .bl (decide (i ≤ j))
abbrev RGt : R2 := rI0 fun i j => .bl (decide (j < i))
abbrev RGe : R2 := rI0 fun i j => .bl (decide (j ≤ i))
abbrev RNeg : V → Hp → VK → Prop := rU fun i => .int (-i)
abbrev RLen (K : PySem.W.Frag) : List V → Hp → VK → Prop := fun xs H Q => ∃ p ys, xs = [.ref p] ∧ (SqL K H p ys ∨ SqT K H p ys) ∧ Q (.int ys.length) H
abbrev RLenD : List V → Hp → VK → Prop := fun xs H Q => ∃ a kvs, xs = [V.ref a] ∧ H a = some (.dK kvs) ∧ Q (.int kvs.length) H
abbrev RList (K : PySem.W.Frag) : List V → Hp → VK → Prop := fun xs H Q => ∃ p ys, xs = [.ref p] ∧ (SqL K H p ys ∨ SqT K H p ys) ∧ ∀ l, H l = none → Q (.ref l) (upd H l (.lst ys))
abbrev RTuple (K : PySem.W.Frag) : List V → Hp → VK → Prop := fun xs H Q => ∃ p ys, xs = [.ref p] ∧ ((SqL K H p ys ∧ ∀ l, H l = none → Q (.ref l) (upd H l (.tup ys))) ∨ (SqT K H p ys ∧ Q (.ref p) H))
abbrev RInt : List V → Hp → VK → Prop := fun xs H Q => (∃ i, xs = [.int i] ∧ Q (.int i) H) ∨ ∃ k, xs = [.bl k] ∧ Q (.int (if k then 1 else 0)) H
theorem hu64 {A : Around} {k : Nat} (hr : Room k A) : A.units + 64 < cLine := hr.units
theorem hu65 {A : Around} {k : Nat} (hr : Room k A) : A.units + 65 < cLine := by have := hr.un; omega
/-! ### a def that stands at its name -/
section
variable (P : Program) (w : World) (K : PySem.W.Frag) (mg : Str → Option Value) (base : Heap)
def Ok (x : Str) (k : Nat) (ps : List Str) (sp : Sp) : Prop := ∃ fd, mg x = some (.ref (He.ga K x)) ∧ PySem.W.keepIn K (.ref (He.ga K x)) = true ∧ Binds K fd ps [] ∧ FnOk P w K mg base CX0 k (He.ga K x) fd ps sp
end
section
variable {P : Program} {w : World} {K : PySem.W.Frag} {mg : Str → Option Value} {base : Heap}
theorem Ok.imp {x : Str} {k : Nat} {ps : List Str} {sp sp' : Sp} (o : Ok P w K mg base x k ps sp) (h : ∀ vs H Q E, sp' vs H Q E → sp vs H Q E) : Ok P w K mg base x k ps sp' := by
  obtain ⟨fd, a, b, c, d⟩ := o
  exact ⟨fd, a, b, c, d.imp h⟩
theorem Ok.mono {x : Str} {j k : Nat} {ps : List Str} {sp : Sp} (o : Ok P w K mg base x j ps sp) (h : j ≤ k := by decide) : Ok P w K mg base x k ps sp := by
  obtain ⟨fd, a, b, c, d⟩ := o
  exact ⟨fd, a, b, c, d.mono h⟩
/-- a def's body, read -/
theorem ok_of {x : Str} {params : Arguments} {body : List Stmt} {scope : Scope} {N ps : List Str} {k : Nat} {sp : Sp} (hm : mg x = some (.ref (He.ga K x)))
    (F : ∃ fd, FunD K x x params body scope [] [] (He.ga K x) fd) (S : FnScope N ps scope)
    (hb : ∀ (kV doc pm : Value) (an : Option Addr) (cdv ct : Value) (us : List Value), us.length = ps.length → bindArgs (PySem.W.fnOf x x params body scope .none kV doc pm an cdv ct) ⟨us, []⟩ = pure (ps.zip us))
    (len : ∀ vs H Q E, sp vs H Q E → vs.length = ps.length)
    (hbody : ∀ (cdv : Value) (A : Around) (outer : List Env) (s : Shared) (H : Hp) (vs : List V) (Q : VK) (E : XK), Room k (A.deeper (envOfC x scope s.heap.objs.size (He.ga K x) cdv)) → sp vs H Q E →
      ∃ t, PSs (cxOf CX0 P w K mg base N x scope (He.ga K x) cdv A outer s H E).nox body t ∧ t { nx := fun _ H' => Q .non H', rt := Q } (start N vs) H) : Ok P w K mg base x (k + 1) ps sp := by
  obtain ⟨fd, F⟩ := F
  refine ⟨fd, hm, F.kp, F.bindsN hb, F.ok S len fun cdv A outer s H vs Q E hr h => ?_⟩
  obtain ⟨t, h1, h2⟩ := hbody cdv A outer s H vs Q E hr h
  exact ⟨t, h1.nox, h2⟩
end
section
variable {X : Cx}
theorem pe_ok {x : Str} {k j : Nat} {ps : List Str} {sp : Sp} {e : Expr} {es : List Expr} {t : TA} {p pos : Pos} (o : Ok X.prog X.w X.K X.mg X.base x k ps sp) (hr : Room j X.A) (ha : PA X (e :: es) t) (hk : k ≤ j := by first | decide | omega) (hg : Gl X x := by rfl)
    (hdb : (x == ("__debug__" : Str)) = false := by decide) (he : starEach (e :: es) X.env = (false, eval e X.env) :: starEach es X.env := by rfl) (hpl : (backTo pos (starEach es X.env)).any (·.1) = false := by rfl) :
    PE X (.Call (.Name x p) (e :: es) [] pos) (tCall sp [] E0 t) := by
  obtain ⟨fd, a, b, c, d⟩ := o
  exact pe_call d (hr.mono hk) hg a b c .nil pass0 ha hdb he hpl
theorem pe_globR {x : Str} {a : Addr} {pos : Pos} (hm : X.mg x = some (.ref a)) (hg : Gl X x := by rfl) (hd : (x == ("__debug__" : Str)) = false := by decide) : PE X (.Name x pos) (tC (.ref a)) := pe_glob hg hm rfl hd
end
/-! ### readings that compute -/
theorem rd_var {i : Nat} {σ : L2.St} {H : Hp} {Q : VK} {v : V} (h : σ[i]? = some (some v)) (q : Q v H) : tVar i σ H Q := ⟨v, h, q⟩
end Ly
namespace Ly
open PySem PySem.Spec PyProof.Rows L2
/-! ### the head's facts, and one truth value more about the written part -/
abbrev AlX : Type := He.AlD × Bool
def obsXG (n : Nat) (fa : List He.Fa) (fn : List He.DefD) (ex : PySem.W.Frag → Bool) (g : Addr → Option Obj) : AlX := (He.obsD fa fn (He.frG g (He.asD g n)), ex (He.frG g (He.asD g n)))
def hookX (n : Nat) (fa : List He.Fa) (fn : List He.DefD) (ex : PySem.W.Frag → Bool) : PySem.W.Hook where
  α := AlX
  obs := fun s => obsXG n fa fn ex s.heap.get?
  val := fun _ => (He.valD fn, true)
  says := fun _ h => ∃ K : PySem.W.Frag, K.In h ∧ He.SaysD fa fn K ∧ ex K = true
  of := fun _ _ e => ⟨_, He.frG_in, congrArg (fun z : AlX => z.1) e, congrArg (fun z : AlX => z.2) e⟩
  keeps := fun _ _ _ ⟨K, a, b, c⟩ k => ⟨K, PySem.W.Frag.In.keeps a k, b, c⟩
theorem obsXG_eq {n : Nat} {fa : List He.Fa} {fn : List He.DefD} {ex : PySem.W.Frag → Bool} {g : Addr → Option Obj} {s : Shared} (h : ∀ a, g a = s.heap.get? a) : obsXG n fa fn ex g = (hookX n fa fn ex).obs s := by
  have e : g = s.heap.get? := funext h
  rw [e] <;> rfl
end Ly
namespace Ly
open PySem PySem.Spec PyProof.Rows L2
theorem sIx {d : Int} {n : Nat} (h0 : 0 ≤ d) (h1 : d < n) : seqIndex? d n = some d.toNat := by
  have e : ¬ d < 0 := by omega
  simp only [seqIndex?, if_neg e]
  simp [h0, h1]
theorem perm_erase {α : Type} : ∀ (l : List α) (i : Nat) (h : i < l.length), (l[i] :: l.eraseIdx i).Perm l
  | a :: l, 0, _ => by simp
  | a :: l, i + 1, h => by
    have hi : i < l.length := by simpa using h
    have ih := perm_erase l i hi
    show (l[i] :: a :: l.eraseIdx i).Perm (a :: l)
    exact (List.Perm.swap _ _ _).trans (ih.cons a)
theorem at_toNat {xs : List V} {d : Int} (h0 : 0 ≤ d) (h : d.toNat < xs.length) : atI xs d = some xs[d.toNat] := at_of (j := d.toNat) (by omega) (by simp [h])
end Ly

namespace Ly
open PySem PySem.Spec PyProof.Rows L2
/-! ### a walk over a list or a tuple that a name holds -/
def iSeqV (K : PySem.W.Frag) (i : Nat) : TI := fun σ H R => ∃ a, σ[i]? = some (some (.ref a)) ∧ (((∃ xs, SqL K H a xs) ∧ R (Itl K a) H) ∨ ((∃ xs, SqT K H a xs) ∧ R (Itt K a) H))
theorem pi_seqV {X : Cx} {tg l : Expr} {i : Nat} (hl : PE X l (tVar i)) : PI X tg l (iSeqV X.K i) := by
  refine ⟨fun pins s σ H R I h => ?_⟩
  obtain ⟨a, ha, h | h⟩ := h
  · exact (pi_list hl).run pins s σ H R I ⟨.ref a, ha, a, rfl, h.1, h.2⟩
  · exact (pi_tup hl).run pins s σ H R I ⟨.ref a, ha, a, rfl, h.1, h.2⟩
/-- what a comprehension's list is made by: P of the items so far, J of what may be written -/
theorem lc_gen {Jt : It} {n : Nat} {G : Hp → Prop} {xs : List V} (w : Walk Jt n G (YAt xs)) {g : TG} {tt : TT} {te : TE} {vs : List Nat} {σ : L2.St} {F H : Hp} {Q : VK} (M : List Addr) (hF : Same F H) (hM : ∀ p ∈ M, H p ≠ none) (hn : n < sizeLine)
    (P : Nat → List V → Hp → Prop) (J : Nat → Hp → Hp → Prop) (hP : ∀ k acc F F', Same F F' → P k acc F → P k acc F')
    (hJ : ∀ N k F1 H1 F2 H2, (∀ p ∈ N, H p = none) → Ex N F1 H1 F2 H2 → J k F1 H1 → J k F2 H2) (h0 : P 0 [] F) (hJ0 : J 0 F H) (hG : ∀ F' H', Same F F' → Same F' H' → G H')
    (hs : ∀ k x acc F' H' (Kk : VK) (Nk : Hp → Prop), k < n → xs[k]? = some x → Ex M F H F' H' → P k acc F' → J k F' H' → acc.length ≤ k →
      (∀ y F4 H4, Ex M F' H' F4 H4 → P (k + 1) (acc ++ [y]) F4 → J (k + 1) F4 H4 → Kk y H4) → (∀ F4 H4, Ex M F' H' F4 H4 → P (k + 1) acc F4 → J (k + 1) F4 H4 → Nk H4) →
      g x (wipe σ vs) H' fun σ2 H2 => wipe σ2 vs = wipe σ vs ∧ tt σ2 H2 fun b H3 => if b = true then te σ2 H3 Kk else Nk H3)
    (hd : ∀ D acc F' H', Ex M F H F' H' → H D = none → F' D = none → H' D = some (.lst acc) → P n acc F' → J n F' H' → acc.length ≤ n → Q (.ref D) H') :
    ∀ D, H D = none → ∃ W : Nat → Nat → Hp → Prop, (∃ m, W 0 m (upd H D (.lst []))) ∧ ∀ i m H, W i m H →
      (Jt.stop i H ∧ Q (.ref D) H) ∨ (Jt.go i H ∧ ∃ Nx : Hp → Prop, (∀ H', Nx H' → ∃ m', m' < m ∧ W (i + 1) m' H') ∧ ∀ x H', Jt.yld i H x H' → g x (wipe σ vs) H' fun σ2 H2 => wipe σ2 vs = wipe σ vs ∧ tt σ2 H2 fun b H3 =>
        if b = true then te σ2 H3 fun y H4 => ∃ acc, H4 D = some (.lst acc) ∧ acc.length < sizeLine ∧ Nx (upd H4 D (.lst (acc ++ [y]))) else Nx H3) := by
  intro D hD
  have hDM : D ∉ M := fun z => hM D z hD
  have fD : F D = none := Same.free hF hD
  have e0 : Ex M F H F (upd H D (.lst [])) := Ex.new hF hD
  refine lc_it w (fun i H' => ∃ acc F', Ex M F H F' H' ∧ F' D = none ∧ H' D = some (.lst acc) ∧ P i acc F' ∧ J i F' H' ∧ acc.length ≤ i) ⟨[], F, e0, fD, upd_same, h0, hJ [] 0 F H _ _ (by simp) (Ex.new hF hD) hJ0, Nat.le_refl _⟩ (fun i H' _ ⟨acc, F', e, _⟩ => hG F' H' e.ff e.fh) ?_ ?_
  · rintro i x H1 H2 hi ⟨acc, F1, e1, f1, d1, p1, j1, l1⟩ ⟨rfl, hx⟩
    refine hs i x acc F1 H2 _ _ hi hx e1 p1 j1 l1 (fun y F4 H4 e4 p4 j4 => ?_) (fun F4 H4 e4 p4 j4 => ?_)
    · have d4 : H4 D = some (.lst acc) := e4.at d1 hDM
      have f4 : F4 D = none := e4.nf f1 (ne_none d1)
      have e5 : Ex M F H F4 (upd H4 D (.lst (acc ++ [y]))) := (e1.trans e4).wr hD f4
      refine ⟨acc, d4, by omega, acc ++ [y], F4, e5, f4, upd_same, p4, ?_, by simp; omega⟩
      exact hJ [D] (i + 1) F4 H4 _ _ (by simp [hD]) (Ex.put e4.fh f4 (by simp)) j4
    · exact ⟨acc, F4, e1.trans e4, e4.nf f1 (ne_none d1), e4.at d1 hDM, p4, j4, by omega⟩
  · rintro H1 ⟨acc, F1, e1, f1, d1, p1, j1, l1⟩
    exact hd D acc F1 H1 e1 hD f1 d1 p1 j1 l1
theorem walk_listF {K : PySem.W.Frag} {a : Addr} {xs : List V} : Walk (Itl K a) xs.length (fun H => H a = some (.lst xs)) (YAt xs) := walk_list.mono (fun _ h => SqL.of h) fun _ _ _ _ _ _ h => h
theorem walk_tupF {K : PySem.W.Frag} {a : Addr} {xs : List V} : Walk (Itt K a) xs.length (fun H => H a = some (.tup xs)) (YAt xs) := walk_tup.mono (fun _ h => SqT.of h) fun _ _ _ _ _ _ h => h
def rgL (lo : Int) (n : Nat) : List V := (List.range n).map fun i => .int (lo + (i : Nat))
theorem rgL_get {lo : Int} {n i : Nat} {x : V} (h : (rgL lo n)[i]? = some x) : i < n ∧ x = .int (lo + (i : Nat)) := by
  unfold rgL at h
  rw [List.getElem?_map] at h
  by_cases hi : i < n
  · simp [hi] at h; exact ⟨hi, h.symm⟩
  · simp [hi] at h
theorem walk_rg {lo : Int} {n : Nat} : Walk (Itr lo n) n (fun _ => True) (YAt (rgL lo n)) := walk_range.mono (fun _ h => h) fun i H x H' hi _ h => ⟨h.1, by
  unfold rgL
  rw [List.getElem?_map]
  simp [hi, h.2]⟩
/-- over a list that stands frozen -/
theorem lcg_list {K : PySem.W.Frag} {tl : TE} {a : Addr} {xs : List V} {g : TG} {tt : TT} {te : TE} {vs : List Nat} {σ : L2.St} {F H : Hp} {Q : VK} (M : List Addr) (hl : ∀ R : VK, R (.ref a) H → tl σ H R) (hx : F a = some (.lst xs)) (hF : Same F H) (hM : ∀ p ∈ M, H p ≠ none) (hn : xs.length < sizeLine)
    (P : Nat → List V → Hp → Prop) (J : Nat → Hp → Hp → Prop) (hP : ∀ k acc F F', Same F F' → P k acc F → P k acc F')
    (hJ : ∀ N k F1 H1 F2 H2, (∀ p ∈ N, H p = none) → Ex N F1 H1 F2 H2 → J k F1 H1 → J k F2 H2) (h0 : P 0 [] F) (hJ0 : J 0 F H)
    (hs : ∀ k x acc F' H' (Kk : VK) (Nk : Hp → Prop), k < xs.length → xs[k]? = some x → Ex M F H F' H' → P k acc F' → J k F' H' → acc.length ≤ k →
      (∀ y F4 H4, Ex M F' H' F4 H4 → P (k + 1) (acc ++ [y]) F4 → J (k + 1) F4 H4 → Kk y H4) → (∀ F4 H4, Ex M F' H' F4 H4 → P (k + 1) acc F4 → J (k + 1) F4 H4 → Nk H4) →
      g x (wipe σ vs) H' fun σ2 H2 => wipe σ2 vs = wipe σ vs ∧ tt σ2 H2 fun b H3 => if b = true then te σ2 H3 Kk else Nk H3)
    (hd : ∀ D acc F' H', Ex M F H F' H' → H D = none → F' D = none → H' D = some (.lst acc) → P xs.length acc F' → J xs.length F' H' → acc.length ≤ xs.length → Q (.ref D) H') :
    tLc (iList K tl) g tt te vs σ H Q :=
  hl _ ⟨a, rfl, ⟨xs, SqL.of (hF _ _ hx)⟩, lc_gen walk_listF M hF hM hn P J hP hJ h0 hJ0 (fun F' H' h1 h2 => h2 _ _ (h1 _ _ hx)) hs hd⟩
/-- over a list or tuple that a name holds -/
theorem lcg_seqV {K : PySem.W.Frag} {i : Nat} {a : Addr} {xs : List V} {g : TG} {tt : TT} {te : TE} {vs : List Nat} {σ : L2.St} {F H : Hp} {Q : VK} (M : List Addr) (hl : σ[i]? = some (some (.ref a))) (hx : F a = some (.lst xs) ∨ F a = some (.tup xs)) (hF : Same F H) (hM : ∀ p ∈ M, H p ≠ none) (hn : xs.length < sizeLine)
    (P : Nat → List V → Hp → Prop) (J : Nat → Hp → Hp → Prop) (hP : ∀ k acc F F', Same F F' → P k acc F → P k acc F')
    (hJ : ∀ N k F1 H1 F2 H2, (∀ p ∈ N, H p = none) → Ex N F1 H1 F2 H2 → J k F1 H1 → J k F2 H2) (h0 : P 0 [] F) (hJ0 : J 0 F H)
    (hs : ∀ k x acc F' H' (Kk : VK) (Nk : Hp → Prop), k < xs.length → xs[k]? = some x → Ex M F H F' H' → P k acc F' → J k F' H' → acc.length ≤ k →
      (∀ y F4 H4, Ex M F' H' F4 H4 → P (k + 1) (acc ++ [y]) F4 → J (k + 1) F4 H4 → Kk y H4) → (∀ F4 H4, Ex M F' H' F4 H4 → P (k + 1) acc F4 → J (k + 1) F4 H4 → Nk H4) →
      g x (wipe σ vs) H' fun σ2 H2 => wipe σ2 vs = wipe σ vs ∧ tt σ2 H2 fun b H3 => if b = true then te σ2 H3 Kk else Nk H3)
    (hd : ∀ D acc F' H', Ex M F H F' H' → H D = none → F' D = none → H' D = some (.lst acc) → P xs.length acc F' → J xs.length F' H' → acc.length ≤ xs.length → Q (.ref D) H') :
    tLc (iSeqV K i) g tt te vs σ H Q := by
  rcases hx with hx | hx
  · exact ⟨a, hl, .inl ⟨⟨xs, SqL.of (hF _ _ hx)⟩, lc_gen walk_listF M hF hM hn P J hP hJ h0 hJ0 (fun F' H' h1 h2 => h2 _ _ (h1 _ _ hx)) hs hd⟩⟩
  · exact ⟨a, hl, .inr ⟨⟨xs, SqT.of (hF _ _ hx)⟩, lc_gen walk_tupF M hF hM hn P J hP hJ h0 hJ0 (fun F' H' h1 h2 => h2 _ _ (h1 _ _ hx)) hs hd⟩⟩
/-- over a tuple -/
theorem lcg_tup {K : PySem.W.Frag} {tl : TE} {a : Addr} {xs : List V} {g : TG} {tt : TT} {te : TE} {vs : List Nat} {σ : L2.St} {F H : Hp} {Q : VK} (M : List Addr) (hl : ∀ R : VK, R (.ref a) H → tl σ H R) (hx : F a = some (.tup xs)) (hF : Same F H) (hM : ∀ p ∈ M, H p ≠ none) (hn : xs.length < sizeLine)
    (P : Nat → List V → Hp → Prop) (J : Nat → Hp → Hp → Prop) (hP : ∀ k acc F F', Same F F' → P k acc F → P k acc F')
    (hJ : ∀ N k F1 H1 F2 H2, (∀ p ∈ N, H p = none) → Ex N F1 H1 F2 H2 → J k F1 H1 → J k F2 H2) (h0 : P 0 [] F) (hJ0 : J 0 F H)
    (hs : ∀ k x acc F' H' (Kk : VK) (Nk : Hp → Prop), k < xs.length → xs[k]? = some x → Ex M F H F' H' → P k acc F' → J k F' H' → acc.length ≤ k →
      (∀ y F4 H4, Ex M F' H' F4 H4 → P (k + 1) (acc ++ [y]) F4 → J (k + 1) F4 H4 → Kk y H4) → (∀ F4 H4, Ex M F' H' F4 H4 → P (k + 1) acc F4 → J (k + 1) F4 H4 → Nk H4) →
      g x (wipe σ vs) H' fun σ2 H2 => wipe σ2 vs = wipe σ vs ∧ tt σ2 H2 fun b H3 => if b = true then te σ2 H3 Kk else Nk H3)
    (hd : ∀ D acc F' H', Ex M F H F' H' → H D = none → F' D = none → H' D = some (.lst acc) → P xs.length acc F' → J xs.length F' H' → acc.length ≤ xs.length → Q (.ref D) H') :
    tLc (iTup K tl) g tt te vs σ H Q :=
  hl _ ⟨a, rfl, ⟨xs, SqT.of (hF _ _ hx)⟩, lc_gen walk_tupF M hF hM hn P J hP hJ h0 hJ0 (fun F' H' h1 h2 => h2 _ _ (h1 _ _ hx)) hs hd⟩
/-- over range(n) -/
theorem lcg_rng {ta : TA} {n : Nat} {g : TG} {tt : TT} {te : TE} {vs : List Nat} {σ : L2.St} {F H : Hp} {Q : VK} (M : List Addr) (hl : ∀ R : List V → Hp → Prop, R [.int n] H → ta σ H R) (hF : Same F H) (hM : ∀ p ∈ M, H p ≠ none) (hn : n < sizeLine)
    (P : Nat → List V → Hp → Prop) (J : Nat → Hp → Hp → Prop) (hP : ∀ k acc F F', Same F F' → P k acc F → P k acc F')
    (hJ : ∀ N k F1 H1 F2 H2, (∀ p ∈ N, H p = none) → Ex N F1 H1 F2 H2 → J k F1 H1 → J k F2 H2) (h0 : P 0 [] F) (hJ0 : J 0 F H)
    (hs : ∀ k acc F' H' (Kk : VK) (Nk : Hp → Prop), k < n → Ex M F H F' H' → P k acc F' → J k F' H' → acc.length ≤ k →
      (∀ y F4 H4, Ex M F' H' F4 H4 → P (k + 1) (acc ++ [y]) F4 → J (k + 1) F4 H4 → Kk y H4) → (∀ F4 H4, Ex M F' H' F4 H4 → P (k + 1) acc F4 → J (k + 1) F4 H4 → Nk H4) →
      g (.int (k : Nat)) (wipe σ vs) H' fun σ2 H2 => wipe σ2 vs = wipe σ vs ∧ tt σ2 H2 fun b H3 => if b = true then te σ2 H3 Kk else Nk H3)
    (hd : ∀ D acc F' H', Ex M F H F' H' → H D = none → F' D = none → H' D = some (.lst acc) → P n acc F' → J n F' H' → acc.length ≤ n → Q (.ref D) H') :
    tLc (iRng1 ta) g tt te vs σ H Q := by
  have hz := sizeLine_eq
  refine hl _ ⟨_, rfl, by omega, by omega, ?_⟩
  show ∀ D, H D = none → _
  have e : ((n : Int).toNat) = n := by omega
  rw [e]
  refine lc_gen walk_rg M hF hM hn P J hP hJ h0 hJ0 (fun _ _ _ _ => trivial) (fun k x acc F' H' Kk Nk hk hx e p j l k1 k2 => ?_) hd
  obtain ⟨_, rfl⟩ := rgL_get hx
  have := hs k acc F' H' Kk Nk hk e p j l k1 k2
  simpa using this
end Ly
namespace Ly
open PySem PySem.Spec PyProof.Rows L2
section
variable {D : Ends} {σ : L2.St} {H : Hp} {Q : VK} {te ta tb : TE} {t u : TS} {g : TG} {K : PySem.W.Frag}
theorem r_ret (h : te σ H D.rt) : tRet te D σ H := h
theorem r_seq (h : t { D with nx := u D } σ H) : tSeq t u D σ H := h
theorem r_next (h : D.nx σ H) : tNext D σ H := h
theorem r_asg (h : te σ H fun x H1 => g x σ H1 D.nx) : tAsg te g D σ H := h
theorem r_drop (h : te σ H fun _ H1 => D.nx σ H1) : tDrop te D σ H := h
theorem r_cb {r : List V → Hp → VK → Prop} {ts : TA} (h : ts σ H fun vs H1 => r vs H1 Q) : tCB r ts σ H Q := h
theorem r_call {sp : Sp} {dvs : List V} {E : XK} {ts : TA} (h : ts σ H fun vs H1 => sp (vs ++ dvs) H1 Q E) : tCall sp dvs E ts σ H Q := h
theorem r_cons {ts : TA} {R : List V → Hp → Prop} (h : ta σ H fun x H1 => ts σ H1 fun xs H2 => R (x :: xs) H2) : tCons ta ts σ H R := h
theorem r_nil {R : List V → Hp → Prop} (h : R [] H) : tNil σ H R := h
theorem r_op {r : R2} (h : ta σ H fun x H1 => tb σ H1 fun y H2 => r x y H2 Q) : tOp r ta tb σ H Q := h
theorem r_fld {f : Str} (h : ta σ H fun x H1 => ∃ a C dx fs v, x = .ref a ∧ H1 a = some (.ins C dx fs) ∧ Cls K C ∧ NoAttr K C f ∧ fs.lookup f = some v ∧ Q v H1) : tFld K ta f σ H Q := h
theorem r_if {c : TT} (h : c σ H fun b H1 => if b = true then ta σ H1 Q else tb σ H1 Q) : tIf c ta tb σ H Q := h
theorem r_ifS {c : TT} (h : c σ H fun b H1 => if b = true then t D σ H1 else u D σ H1) : tIfS c t u D σ H := h
theorem r_lst {ts : TA} (h : ts σ H fun xs H1 => xs.length ≤ sizeLine ∧ ∀ p, H1 p = none → Q (.ref p) (upd H1 p (.lst xs))) : tLst ts σ H Q := h
theorem r_tup {ts : TA} (h : ts σ H fun xs H1 => xs.length ≤ sizeLine ∧ ∀ p, H1 p = none → Q (.ref p) (upd H1 p (.tup xs))) : tTup ts σ H Q := h
theorem r_tst {R : Bool → Hp → Prop} (h : te σ H fun x H' => ∃ k, x = .bl k ∧ R k H') : tTest te σ H R := h
theorem r_b {R : Bool → Hp → Prop} (h : te σ H fun x H' => ∃ k, x = .bl k ∧ R k H') : tB te σ H R := h
theorem r_var {i : Nat} {v : V} (h : σ[i]? = some (some v)) (q : Q v H) : tVar i σ H Q := ⟨v, h, q⟩
theorem r_c {v : V} (q : Q v H) : tC v σ H Q := q
theorem r_for {wi : TI} (h : wi σ H fun J H1 => ∃ W : Nat → Nat → L2.St → Hp → Prop, (∃ m, W 0 m σ H1) ∧ ∀ i m σ H, W i m σ H →
  (J.stop i H ∧ D.nx σ H) ∨ (J.go i H ∧ ∃ N : L2.St → Hp → Prop, (∀ σ' H', N σ' H' → ∃ m', m' < m ∧ W (i + 1) m' σ' H') ∧ ∀ x H', J.yld i H x H' → g x σ H' fun σ2 H2 => t { D with nx := N, ct := N, bk := D.nx } σ2 H2)) : tFor wi g t D σ H := h
theorem r_bm {T : String} {r : V → List V → Hp → VK → Prop} {ts : TA} (h : ta σ H fun x H1 => tyV K T x H1 ∧ ts σ H1 fun xs H2 => r x xs H2 Q) : tBM K T r ta ts σ H Q := h
theorem r_and (h : ta σ H fun x H1 => ∃ c, x = .bl c ∧ if c = true then tb σ H1 Q else Q (.bl false) H1) : tAndV ta tb σ H Q := h
theorem r_or (h : ta σ H fun x H1 => ∃ c, x = .bl c ∧ if c = true then Q (.bl true) H1 else tb σ H1 Q) : tOrV ta tb σ H Q := h
theorem r_not (h : ta σ H fun x H1 => ∃ c, x = .bl c ∧ Q (.bl (!c)) H1) : tNotV ta σ H Q := h
theorem r_par {i j : Nat} {ts : TA} (h : ts σ H fun vs H1 => ∃ v w, vs = [v, w] ∧ D.nx ((σ.set i (some v)).set j (some w)) H1) : tPar i j ts D σ H := h
theorem r_name {i : Nat} {v : V} {R : L2.St → Hp → Prop} (h : R (σ.set i (some v)) H) : gName i v σ H R := h
end
end Ly

namespace Ly
open PySem PySem.Spec PyProof.Rows L2
/-! ### data of any kind, frozen -/
mutual
def Dd (F : Hp) : PyData → V → Prop
  | .none, v => v = .non
  | .bool b, v => v = .bl b
  | .int i, v => v = .int i
  | .str s, v => v = .str s
  | .list ds, v => ∃ a vs, v = .ref a ∧ F a = some (.lst vs) ∧ Dds F ds vs ∧ ds.length < 1000000
  | .tuple ds, v => ∃ a vs, v = .ref a ∧ F a = some (.tup vs) ∧ Dds F ds vs ∧ ds.length < 1000000
  | .dict _, v => ∃ a es, v = .ref a ∧ F a = some (.dK es)
def Dds (F : Hp) : List PyData → List V → Prop
  | [], vs => vs = []
  | d :: ds, vs => ∃ v r, vs = v :: r ∧ Dd F d v ∧ Dds F ds r
end
mutual
def wordy : PyData → Bool
  | .none => false
  | .bool _ => false
  | .int _ => true
  | .str _ => true
  | .list ds => wordys ds
  | .tuple ds => wordys ds
  | .dict _ => false
def wordys : List PyData → Bool
  | [] => true
  | d :: ds => wordy d && wordys ds
end
mutual
def toW : PyData → W
  | .none => .none
  | .bool b => .num (if b then 1 else 0)
  | .int i => .num i
  | .str s => .text s
  | .list ds => .tup (toWs ds)
  | .tuple ds => .tup (toWs ds)
  | .dict _ => .none
def toWs : List PyData → List W
  | [] => []
  | d :: ds => toW d :: toWs ds
end
def seqy : PyData → Bool
  | .list _ => true
  | .tuple _ => true
  | _ => false
def inty : PyData → Bool
  | .int _ => true
  | _ => false
def stry : PyData → Bool
  | .str _ => true
  | _ => false
def tyN : PyData → String
  | .none => "NoneType"
  | .bool _ => "bool"
  | .int _ => "int"
  | .str _ => "str"
  | .list _ => "list"
  | .tuple _ => "tuple"
  | .dict _ => "dict"
section
variable {F F' H : Hp} {K : PySem.W.Frag}
theorem dd_list {ds : List PyData} {v : V} : Dd F (.list ds) v ↔ ∃ a vs, v = .ref a ∧ F a = some (.lst vs) ∧ Dds F ds vs ∧ ds.length < 1000000 := by simp [Dd]
theorem dd_tuple {ds : List PyData} {v : V} : Dd F (.tuple ds) v ↔ ∃ a vs, v = .ref a ∧ F a = some (.tup vs) ∧ Dds F ds vs ∧ ds.length < 1000000 := by simp [Dd]
theorem dd_dict {kvs : List (PyData × PyData)} {v : V} : Dd F (.dict kvs) v ↔ ∃ a es, v = .ref a ∧ F a = some (.dK es) := by simp [Dd]
theorem dd_int {i : Int} {v : V} : Dd F (.int i) v ↔ v = .int i := by simp [Dd]
theorem dd_str {s : Str} {v : V} : Dd F (.str s) v ↔ v = .str s := by simp [Dd]
theorem dd_bool {b : Bool} {v : V} : Dd F (.bool b) v ↔ v = .bl b := by simp [Dd]
theorem dd_none {v : V} : Dd F .none v ↔ v = .non := by simp [Dd]
theorem dds_nil {vs : List V} : Dds F [] vs ↔ vs = [] := by simp [Dds]
theorem dds_cons {d : PyData} {ds : List PyData} {vs : List V} : Dds F (d :: ds) vs ↔ ∃ v r, vs = v :: r ∧ Dd F d v ∧ Dds F ds r := by simp [Dds]
mutual
theorem Dd.up (h : Same F F') : ∀ {d : PyData} {v : V}, Dd F d v → Dd F' d v
  | .none, _, e => by simpa [Dd] using e
  | .bool _, _, e => by simpa [Dd] using e
  | .int _, _, e => by simpa [Dd] using e
  | .str _, _, e => by simpa [Dd] using e
  | .list ds, v, e => by
    obtain ⟨a, vs, e1, e2, e3, e4⟩ := dd_list.mp e
    exact dd_list.mpr ⟨a, vs, e1, h _ _ e2, Dds.up h e3, e4⟩
  | .tuple ds, v, e => by
    obtain ⟨a, vs, e1, e2, e3, e4⟩ := dd_tuple.mp e
    exact dd_tuple.mpr ⟨a, vs, e1, h _ _ e2, Dds.up h e3, e4⟩
  | .dict _, v, e => by
    obtain ⟨a, es, e1, e2⟩ := dd_dict.mp e
    exact dd_dict.mpr ⟨a, es, e1, h _ _ e2⟩
theorem Dds.up (h : Same F F') : ∀ {ds : List PyData} {vs : List V}, Dds F ds vs → Dds F' ds vs
  | [], _, e => dds_nil.mpr (dds_nil.mp e)
  | d :: ds, vs, e => by
    obtain ⟨v, r, e1, e2, e3⟩ := dds_cons.mp e
    exact dds_cons.mpr ⟨v, r, e1, Dd.up h e2, Dds.up h e3⟩
end
theorem Dds.len : ∀ {ds : List PyData} {vs : List V}, Dds F ds vs → vs.length = ds.length
  | [], vs, e => by rw [dds_nil.mp e]; rfl
  | k :: ks, vs, e => by
    obtain ⟨v, r, rfl, _, e3⟩ := dds_cons.mp e
    simp [Dds.len e3]
theorem Dds.get : ∀ {ds : List PyData} {vs : List V} {i : Nat} {v : V}, Dds F ds vs → vs[i]? = some v → ∃ d, ds[i]? = some d ∧ Dd F d v
  | [], vs, i, v, e, h => by rw [dds_nil.mp e] at h; simp at h
  | k :: ks, vs, i, v, e, h => by
    obtain ⟨v', r, rfl, e2, e3⟩ := dds_cons.mp e
    cases i with
    | zero => simp at h; subst h; exact ⟨k, rfl, e2⟩
    | succ i => simp at h; obtain ⟨k', q1, q2⟩ := Dds.get e3 h; exact ⟨k', by simpa using q1, q2⟩
theorem dd_tyx {d : PyData} {v : V} (e : Dd F d v) (h : Same F H) : TyX K H v (.type (tyN d)) := by
  cases d with
  | none => rw [dd_none.mp e]; exact .base .non
  | bool b => rw [dd_bool.mp e]; exact .base (.bl b)
  | int i => rw [dd_int.mp e]; exact .base (.int i)
  | str s => rw [dd_str.mp e]; exact .base (.str s)
  | list ds => obtain ⟨a, vs, rfl, e2, _⟩ := dd_list.mp e; exact .base (.lst (h _ _ e2))
  | tuple ds => obtain ⟨a, vs, rfl, e2, _⟩ := dd_tuple.mp e; exact .base (.tup (h _ _ e2))
  | dict kvs => obtain ⟨a, es, rfl, e2⟩ := dd_dict.mp e; exact .base (.dK (h _ _ e2))
theorem kit_seq (d : PyData) : PySem.W.kitAny K (.type (tyN d)) [.type "list", .type "tuple"] = some (seqy d) := by
  have h : ∀ (a b : String) (r : Bool), kitB a b = some r → PySem.W.kitOne K (.type a) (.type b) = some r := fun a b r h => kit_ty h
  have g : ∀ (a : String) (r1 r2 : Bool), kitB a "list" = some r1 → kitB a "tuple" = some r2 → PySem.W.kitAny K (.type a) [.type "list", .type "tuple"] = some (r1 || r2) := fun a r1 r2 h1 h2 => by
    refine kitAny_cons (kit_ty h1) (fun e => ?_) fun e => by rw [e]; rfl
    refine kitAny_cons (kit_ty h2) (fun e2 => ?_) fun e2 => by rw [e2]; simp
    rw [e, e2]; rfl
  cases d with
  | none => exact g "NoneType" false false (by decide +kernel) (by decide +kernel)
  | bool b => exact g "bool" false false (by decide +kernel) (by decide +kernel)
  | int i => exact g "int" false false (by decide +kernel) (by decide +kernel)
  | str s => exact g "str" false false (by decide +kernel) (by decide +kernel)
  | list ds => exact g "list" true false (by decide +kernel) (by decide +kernel)
  | tuple ds => exact g "tuple" false true (by decide +kernel) (by decide +kernel)
  | dict kvs => exact g "dict" false false (by decide +kernel) (by decide +kernel)
def intb : PyData → Bool
  | .int _ => true
  | .bool _ => true
  | _ => false
def boolb : PyData → Bool
  | .bool _ => true
  | _ => false
def tupb : PyData → Bool
  | .tuple _ => true
  | _ => false
def lstb : PyData → Bool
  | .list _ => true
  | _ => false
def dctb : PyData → Bool
  | .dict _ => true
  | _ => false
theorem kit_int (d : PyData) : PySem.W.kitOne K (.type (tyN d)) (.type "int") = some (intb d) := by
  cases d with
  | none => exact kit_ty (a := "NoneType") (b := "int") (r := false) (by decide +kernel)
  | bool b => exact kit_ty (a := "bool") (b := "int") (r := true) (by decide +kernel)
  | int i => exact kit_ty (a := "int") (b := "int") (r := true) (by decide +kernel)
  | str s => exact kit_ty (a := "str") (b := "int") (r := false) (by decide +kernel)
  | list ds => exact kit_ty (a := "list") (b := "int") (r := false) (by decide +kernel)
  | tuple ds => exact kit_ty (a := "tuple") (b := "int") (r := false) (by decide +kernel)
  | dict kvs => exact kit_ty (a := "dict") (b := "int") (r := false) (by decide +kernel)
theorem kit_bool (d : PyData) : PySem.W.kitOne K (.type (tyN d)) (.type "bool") = some (boolb d) := by
  cases d with
  | none => exact kit_ty (a := "NoneType") (b := "bool") (r := false) (by decide +kernel)
  | bool b => exact kit_ty (a := "bool") (b := "bool") (r := true) (by decide +kernel)
  | int i => exact kit_ty (a := "int") (b := "bool") (r := false) (by decide +kernel)
  | str s => exact kit_ty (a := "str") (b := "bool") (r := false) (by decide +kernel)
  | list ds => exact kit_ty (a := "list") (b := "bool") (r := false) (by decide +kernel)
  | tuple ds => exact kit_ty (a := "tuple") (b := "bool") (r := false) (by decide +kernel)
  | dict kvs => exact kit_ty (a := "dict") (b := "bool") (r := false) (by decide +kernel)
theorem kit_str (d : PyData) : PySem.W.kitOne K (.type (tyN d)) (.type "str") = some (stry d) := by
  cases d with
  | none => exact kit_ty (a := "NoneType") (b := "str") (r := false) (by decide +kernel)
  | bool b => exact kit_ty (a := "bool") (b := "str") (r := false) (by decide +kernel)
  | int i => exact kit_ty (a := "int") (b := "str") (r := false) (by decide +kernel)
  | str s => exact kit_ty (a := "str") (b := "str") (r := true) (by decide +kernel)
  | list ds => exact kit_ty (a := "list") (b := "str") (r := false) (by decide +kernel)
  | tuple ds => exact kit_ty (a := "tuple") (b := "str") (r := false) (by decide +kernel)
  | dict kvs => exact kit_ty (a := "dict") (b := "str") (r := false) (by decide +kernel)
theorem kit_tup (d : PyData) : PySem.W.kitOne K (.type (tyN d)) (.type "tuple") = some (tupb d) := by
  cases d with
  | none => exact kit_ty (a := "NoneType") (b := "tuple") (r := false) (by decide +kernel)
  | bool b => exact kit_ty (a := "bool") (b := "tuple") (r := false) (by decide +kernel)
  | int i => exact kit_ty (a := "int") (b := "tuple") (r := false) (by decide +kernel)
  | str s => exact kit_ty (a := "str") (b := "tuple") (r := false) (by decide +kernel)
  | list ds => exact kit_ty (a := "list") (b := "tuple") (r := false) (by decide +kernel)
  | tuple ds => exact kit_ty (a := "tuple") (b := "tuple") (r := true) (by decide +kernel)
  | dict kvs => exact kit_ty (a := "dict") (b := "tuple") (r := false) (by decide +kernel)
theorem kit_lst (d : PyData) : PySem.W.kitOne K (.type (tyN d)) (.type "list") = some (lstb d) := by
  cases d with
  | none => exact kit_ty (a := "NoneType") (b := "list") (r := false) (by decide +kernel)
  | bool b => exact kit_ty (a := "bool") (b := "list") (r := false) (by decide +kernel)
  | int i => exact kit_ty (a := "int") (b := "list") (r := false) (by decide +kernel)
  | str s => exact kit_ty (a := "str") (b := "list") (r := false) (by decide +kernel)
  | list ds => exact kit_ty (a := "list") (b := "list") (r := true) (by decide +kernel)
  | tuple ds => exact kit_ty (a := "tuple") (b := "list") (r := false) (by decide +kernel)
  | dict kvs => exact kit_ty (a := "dict") (b := "list") (r := false) (by decide +kernel)
theorem kit_dct (d : PyData) : PySem.W.kitOne K (.type (tyN d)) (.type "dict") = some (dctb d) := by
  cases d with
  | none => exact kit_ty (a := "NoneType") (b := "dict") (r := false) (by decide +kernel)
  | bool b => exact kit_ty (a := "bool") (b := "dict") (r := false) (by decide +kernel)
  | int i => exact kit_ty (a := "int") (b := "dict") (r := false) (by decide +kernel)
  | str s => exact kit_ty (a := "str") (b := "dict") (r := false) (by decide +kernel)
  | list ds => exact kit_ty (a := "list") (b := "dict") (r := false) (by decide +kernel)
  | tuple ds => exact kit_ty (a := "tuple") (b := "dict") (r := false) (by decide +kernel)
  | dict kvs => exact kit_ty (a := "dict") (b := "dict") (r := true) (by decide +kernel)
/-! ### words as data -/
theorem datas_len : ∀ ks : List W, (NestedKey.datas ks).length = ks.length
  | [] => rfl
  | _ :: ks => by simp only [NestedKey.datas, List.length_cons, datas_len ks]
mutual
theorem wk_dd : ∀ {k : W} {v : V}, Wk F k v → Dd F k.data v
  | .none, _, e => by simpa [Wk, Dd, NestedKey.data] using e
  | .num _, _, e => by simpa [Wk, Dd, NestedKey.data] using e
  | .text _, _, e => by simpa [Wk, Dd, NestedKey.data] using e
  | .tup ks, v, e => by
    obtain ⟨a, vs, e1, e2, e3, e4⟩ := wk_tup.mp e
    simp only [NestedKey.data]
    exact dd_tuple.mpr ⟨a, vs, e1, e2, wks_dds e3, by rw [datas_len]; exact e4⟩
theorem wks_dds : ∀ {ks : List W} {vs : List V}, Wks F ks vs → Dds F (NestedKey.datas ks) vs
  | [], _, e => by simpa [NestedKey.datas, Dds, Wks] using e
  | k :: ks, vs, e => by
    obtain ⟨v, r, e1, e2, e3⟩ := wks_cons.mp e
    simp only [NestedKey.datas]
    exact dds_cons.mpr ⟨v, r, e1, wk_dd e2, wks_dds e3⟩
end
mutual
/-- no None in it -/
def full : W → Bool
  | .none => false
  | .num _ => true
  | .text _ => true
  | .tup ks => fulls ks
def fulls : List W → Bool
  | [] => true
  | k :: ks => full k && fulls ks
end
mutual
theorem wordy_data : ∀ k : W, wordy k.data = full k
  | .none => rfl
  | .num _ => rfl
  | .text _ => rfl
  | .tup ks => by simp only [NestedKey.data, wordy, full]; exact wordys_datas ks
theorem wordys_datas : ∀ ks : List W, wordys (NestedKey.datas ks) = fulls ks
  | [] => rfl
  | k :: ks => by simp only [NestedKey.datas, wordys, fulls]; rw [wordy_data k, wordys_datas ks]
end
mutual
theorem toW_data : ∀ k : W, toW k.data = k
  | .none => rfl
  | .num _ => rfl
  | .text _ => rfl
  | .tup ks => by simp only [NestedKey.data, toW]; rw [toWs_datas ks]
theorem toWs_datas : ∀ ks : List W, toWs (NestedKey.datas ks) = ks
  | [] => rfl
  | k :: ks => by simp only [NestedKey.datas, toWs]; rw [toW_data k, toWs_datas ks]
end
mutual
theorem depth_data : ∀ k : W, k.data.depth = k.depth
  | .none => by simp [NestedKey.data, PyData.depth, NestedKey.depth]
  | .num _ => by simp [NestedKey.data, PyData.depth, NestedKey.depth]
  | .text _ => by simp [NestedKey.data, PyData.depth, NestedKey.depth]
  | .tup ks => by simp only [NestedKey.data, PyData.depth, NestedKey.depth]; rw [depths_datas ks]
theorem depths_datas : ∀ ks : List W, PyData.depthAll (NestedKey.datas ks) = NestedKey.depthAll ks
  | [] => by simp [NestedKey.datas, PyData.depthAll, NestedKey.depthAll]
  | k :: ks => by simp only [NestedKey.datas, PyData.depthAll, NestedKey.depthAll]; rw [depth_data k, depths_datas ks]
end
theorem depth_mem {d : PyData} : ∀ {ds : List PyData}, d ∈ ds → d.depth ≤ PyData.depthAll ds
  | [], h => by simp at h
  | e :: ds, h => by
    simp only [PyData.depthAll]
    rcases List.mem_cons.mp h with h | h
    · rw [h]; omega
    · have := depth_mem h; omega
end
end Ly

namespace Ly
open PySem PySem.Spec PyProof.Rows SeqAt
/-- tuples compared: only what stands at the first unlike place has to be comparable -/
theorem tup_lt_first (u v : Addr) (ps qs : Array Value) (n m : Nat) (du dv : Option Addr) (su sv : Array (Option Value)) (e r : Nat → Bool) :
    Meets (Builtin.«tuple.__lt__» ⟨[.ref u, .ref v], []⟩)
      (fun A R s => s.heap.get? u = some { cls := .type "tuple", dict := du, data := .seq ps n, slots := su } ∧ s.heap.get? v = some { cls := .type "tuple", dict := dv, data := .seq qs m, slots := sv } ∧
        (∀ j (a : j < ps.size) (b : j < qs.size), EqAt A.in1 s ps[j] qs[j] (e j)) ∧ (∀ j (a : j < ps.size) (b : j < qs.size), (∀ i, i < j → e i = true) → e j = false → RcLt A.in1 s ps[j] qs[j] (r j)) ∧
        R (.ok (.ret (.bool (firstLt e r (decide (ps.size < qs.size)) (List.range (min ps.size qs.size)))))) s) :=
  .of_wp fun prog w A R s hh => by
    obtain ⟨hp, g, d, tk, os⟩ := s
    obtain ⟨hu, hv, he, hr, hR0⟩ := hh
    have sub := AutoSeq1.sub_tuple_tuple
    have zl : (ps.toList.zip qs.toList).length = min ps.size qs.size := by simp
    wp_walk using wpAny_loadPart' hu, wpAny_loadPart' hv, wpAny_forIn_list _ (fun rest b s' => b.1 = none ∧ s' = ⟨hp, g, d, tk, os⟩ ∧ ∃ i, rest = (ps.toList.zip qs.toList).drop i ∧ (∀ k, k < i → e k = true) ∧
      R (.ok (.ret (.bool (firstLt e r (decide (ps.size < qs.size)) ((List.range (min ps.size qs.size)).drop i))))) ⟨hp, g, d, tk, os⟩) _
    case turn =>
      rintro ⟨y, x⟩ rest b s' ⟨hb', rfl, i, hz, all, hR⟩
      have lt0 : i < (ps.toList.zip qs.toList).length := by
        rcases Nat.lt_or_ge i (ps.toList.zip qs.toList).length with q | q
        · exact q
        · rw [List.drop_of_length_le q] at hz; cases hz
      have lm : i < min ps.size qs.size := zl ▸ lt0
      have l1 : i < ps.size := Nat.lt_of_lt_of_le lm (Nat.min_le_left _ _)
      have l2 : i < qs.size := Nat.lt_of_lt_of_le lm (Nat.min_le_right _ _)
      rw [List.drop_eq_getElem_cons lt0] at hz
      injection hz with hyx hrest
      have ey : y = ps[i] := by have := congrArg Prod.fst hyx; simpa using this
      have ex : x = qs[i] := by have := congrArg Prod.snd hyx; simpa using this
      subst ey ex
      have rd : (List.range (min ps.size qs.size)).drop i = i :: (List.range (min ps.size qs.size)).drop (i + 1) := by simp [List.drop_eq_getElem_cons, lm]
      rw [rd] at hR
      refine wpAny_bind (he i l1 l2 prog w _ _ ?_)
      cases q : e i with
      | true =>
        rw [firstLt_yes q] at hR
        wp_walk
        refine ⟨rfl, rfl, i + 1, hrest, fun k hk => ?_, hR⟩
        by_cases z : k = i
        · rw [z]; exact q
        · exact all k (by omega)
      | false =>
        rw [firstLt_no q] at hR
        have hh := hr i l1 l2 all q prog w
        generalize PySem.richCompare .Lt ps[i] qs[i] = T at hh ⊢
        wp_walk
        refine hh _ _ ?_
        wp_walk
        exact ⟨_, rfl, hR⟩
    case fin =>
      rintro ⟨b1, b2⟩ s' ⟨hb', rfl, i, hz, _, hR⟩
      simp only at hb'
      subst hb'
      have ge : min ps.size qs.size ≤ i := by
        rcases Nat.lt_or_ge i (ps.toList.zip qs.toList).length with q | q
        · rw [List.drop_eq_getElem_cons q] at hz; cases hz
        · exact zl ▸ q
      rw [List.drop_of_length_le (by simpa using ge)] at hR
      wp_walk
      exact ⟨_, rfl, by simpa [Builtin.Tuple.tupleCompareSizes, firstLt] using hR⟩
    case h =>
      exact ⟨rfl, rfl, 0, rfl, fun k hk => absurd hk (Nat.not_lt_zero k), by simpa using hR0⟩
theorem RcLt_tup {A : Around} {s : Shared} {u v : Addr} {ps qs : Array Value} {e r : Nat → Bool} (hu : s.heap.IsTuple u ps) (hv : s.heap.IsTuple v qs) (room : A.units < cLine)
    (he : ∀ j (a : j < ps.size) (b : j < qs.size), EqAt A.in1 s ps[j] qs[j] (e j)) (hr : ∀ j (a : j < ps.size) (b : j < qs.size), (∀ i, i < j → e i = true) → e j = false → RcLt A.in1 s ps[j] qs[j] (r j)) :
    RcLt A s (.ref u) (.ref v) (firstLt e r (decide (ps.size < qs.size)) (List.range (min ps.size qs.size))) := fun prog w E Q h => by
  obtain ⟨⟨c1, du, dt1, s1⟩, o1, k1, n, d1⟩ := id hu
  obtain ⟨⟨c2, dv, dt2, s2⟩, o2, k2, m, d2⟩ := id hv
  simp only at k1 d1 k2 d2
  subst k1 d1 k2 d2
  exact richCompare_meets_room (op := .Lt) ⟨_, o1, rfl⟩ ⟨_, o2, rfl⟩ F.slot_tuple_lt F.entry_tuple_lt (F.args_tuple_lt_2 _ _) (tup_lt_first u v ps qs n m du dv s1 s2 e r)
    ⟨o1, o2, he, hr, show Value.bool (firstLt e r (decide (ps.size < qs.size)) (List.range (min ps.size qs.size))) ≠ Value.notImplemented ∧ _ from ⟨(fun x => nomatch x), h⟩⟩ room
end Ly

namespace Ly
open PySem PySem.Spec PyProof.Rows SeqAt
/-! ### the order of words -/
mutual
def wlt : W → W → Bool
  | .num i, .num j => decide (i < j)
  | .num _, .text _ => true
  | .num _, .tup _ => true
  | .text s, .text t => decide (s.cps.toList < t.cps.toList)
  | .text _, .tup _ => true
  | .tup ks, .tup ls => wlts ks ls
  | .none, .num _ => true
  | .none, .text _ => true
  | .none, .tup _ => true
  | _, _ => false
def wlts : List W → List W → Bool
  | [], _ :: _ => true
  | a :: as, b :: bs => if a = b then wlts as bs else wlt a b
  | _, _ => false
end
/-! ### the key of a word -/
mutual
def okey : W → W
  | .none => .none
  | .num i => .tup [.num 0, .num i]
  | .text s => .tup [.num 1, .text s]
  | .tup ks => .tup [.num 2, .tup (okeys ks)]
def okeys : List W → List W
  | [] => []
  | k :: ks => okey k :: okeys ks
end
theorem okeys_len : ∀ ks : List W, (okeys ks).length = ks.length
  | [] => rfl
  | _ :: ks => by simp only [okeys, List.length_cons, okeys_len ks]
theorem okeys_get : ∀ (ks : List W) (j : Nat), (okeys ks).getD j .none = okey (ks.getD j .none)
  | [], j => by simp [okeys, okey]
  | k :: ks, 0 => by simp [okeys]
  | k :: ks, j + 1 => by simpa [okeys] using okeys_get ks j
mutual
theorem okey_inj : ∀ {x y : W}, okey x = okey y → x = y
  | .none, y, h => by cases y <;> simp [okey] at h ⊢
  | .num i, y, h => by cases y <;> simp [okey] at h ⊢; exact h
  | .text s, y, h => by cases y <;> simp [okey] at h ⊢; exact h
  | .tup ks, y, h => by
    cases y <;> simp [okey] at h ⊢
    exact okeys_inj h
theorem okeys_inj : ∀ {ks ls : List W}, okeys ks = okeys ls → ks = ls
  | [], ls, h => by cases ls <;> simp [okeys] at h ⊢
  | k :: ks, ls, h => by
    cases ls with
    | nil => simp [okeys] at h
    | cons l ls =>
      simp only [okeys, List.cons.injEq] at h
      rw [okey_inj h.1, okeys_inj h.2]
end
theorem okey_beq (x y : W) : NestedKey.beq (okey x) (okey y) = decide (x = y) := by
  rw [← NestedKey.decide_eq]
  by_cases h : x = y
  · rw [h]; simp
  · rw [decide_eq_false h, decide_eq_false fun q => h (okey_inj q)]
mutual
theorem wlt_irrefl : ∀ x : W, wlt x x = false
  | .none => by simp [wlt]
  | .num i => by simp [wlt]
  | .text s => by simp [wlt, List.lt_irrefl]
  | .tup ks => by rw [wlt]; exact wlts_irrefl ks
theorem wlts_irrefl : ∀ xs : List W, wlts xs xs = false
  | [] => by simp [wlts]
  | x :: xs => by rw [wlts, if_pos rfl]; exact wlts_irrefl xs
end
mutual
theorem okey_depth : ∀ x : W, (okey x).depth ≤ 2 * x.depth + 1
  | .none => by simp [okey, NestedKey.depth]
  | .num i => by simp [okey, NestedKey.depth, NestedKey.depthAll]
  | .text s => by simp [okey, NestedKey.depth, NestedKey.depthAll]
  | .tup ks => by
    have := okeys_depth ks
    simp only [okey, NestedKey.depth, NestedKey.depthAll]
    omega
theorem okeys_depth : ∀ ks : List W, NestedKey.depthAll (okeys ks) ≤ 2 * NestedKey.depthAll ks + 1
  | [] => by simp [okeys, NestedKey.depthAll]
  | k :: ks => by
    have h1 := okey_depth k
    have h2 := okeys_depth ks
    simp only [okeys, NestedKey.depthAll]
    omega
end
theorem firstLt_wlts : ∀ (ks ls : List W), firstLt (fun j => decide (ks.getD j .none = ls.getD j .none)) (fun j => wlt (ks.getD j .none) (ls.getD j .none)) (decide (ks.length < ls.length)) (List.range (min ks.length ls.length)) = wlts ks ls
  | [], [] => by simp [firstLt, wlts]
  | [], _ :: _ => by simp [firstLt, wlts]
  | _ :: _, [] => by simp [firstLt, wlts]
  | a :: as, b :: bs => by
    have ih := firstLt_wlts as bs
    have e1 : min (a :: as).length (b :: bs).length = min as.length bs.length + 1 := by simp only [List.length_cons]; omega
    rw [e1, List.range_succ_eq_map, firstLt]
    simp only [List.getD_cons_zero, decide_eq_true_eq]
    rw [PySem.W.firstLt_map]
    simp only [List.getD_cons_succ, List.length_cons, Nat.add_lt_add_iff_right]
    show (if a = b then _ else _) = _
    rw [wlts]
    by_cases h : a = b
    · rw [if_pos h, if_pos h]; exact ih
    · rw [if_neg h, if_neg h]
theorem nested_tup {h : Heap} {ks : List W} {v : Value} (x : NestedIs h (.tup ks) v) : ∃ a o vs n, v = .ref a ∧ h.get? a = some o ∧ o.cls = .type "tuple" ∧ o.data = .seq vs n ∧ NestedAll h ks vs.toList := by
  cases x with
  | tup h1 h2 h3 h4 => exact ⟨_, _, _, _, rfl, h1, h2, h3, h4⟩
theorem nall_get {h : Heap} : ∀ {ks : List W} {vs : List Value} {j : Nat} {k : W}, NestedAll h ks vs → ks[j]? = some k → ∃ v, vs[j]? = some v ∧ NestedIs h k v
  | [], _, j, k, _, e => by simp at e
  | k :: ks, _, j, k', x, e => by
    cases x with
    | cons x1 x2 =>
      cases j with
      | zero => simp at e; subst e; exact ⟨_, rfl, x1⟩
      | succ j => obtain ⟨v, q1, q2⟩ := nall_get (j := j) x2 (by simpa using e); exact ⟨v, by simpa using q1, q2⟩
theorem nall_at {h : Heap} {ks : List W} {vs : Array Value} {j : Nat} {k : W} (x : NestedAll h ks vs.toList) (e : ks[j]? = some k) (hj : j < vs.size) : NestedIs h k vs[j] := by
  obtain ⟨v, q1, q2⟩ := nall_get x e
  rw [Array.getElem?_toList, Array.getElem?_eq_getElem hj] at q1
  rw [Option.some.inj q1]
  exact q2
theorem lt_nums {A : Around} {s : Shared} {n m : Int} {a b : Value} (ha : NestedIs s.heap (.num n) a) (hb : NestedIs s.heap (.num m) b) (na : ∀ x, a ≠ .bool x) (nb : ∀ x, b ≠ .bool x) : RcLt A s a b (decide (n < m)) := by
  cases ha with
  | bool e => exact absurd rfl (na _)
  | int i t =>
    cases hb with
    | bool e => exact absurd rfl (nb _)
    | int j u => exact fun prog w E Q hq => P.lt_int hq
mutual
/-- no truth value stands in it -/
inductive Plain (h : Heap) : W → Value → Prop
  | none : Plain h .none .none
  | int (i t) : Plain h (.num i) (.int i t)
  | text (x t) : Plain h (.text x) (.str x t)
  | tup {a o vs n ks} : h.get? a = some o → o.cls = .type "tuple" → o.data = .seq vs n → Plains h ks vs.toList → Plain h (.tup ks) (.ref a)
inductive Plains (h : Heap) : List W → List Value → Prop
  | nil : Plains h [] []
  | cons {k v ks vs} : Plain h k v → Plains h ks vs → Plains h (k :: ks) (v :: vs)
end
mutual
theorem Plain.nested {h : Heap} : ∀ {k : W} {v : Value}, Plain h k v → NestedIs h k v
  | .none, _, x => by cases x; exact .none
  | .num _, _, x => by cases x; exact .int _ _
  | .text _, _, x => by cases x; exact .text _ _
  | .tup ks, _, x => by
    cases x with
    | tup a b c d => exact .tup a b c (Plains.nested d)
theorem Plains.nested {h : Heap} : ∀ {ks : List W} {vs : List Value}, Plains h ks vs → NestedAll h ks vs
  | [], _, x => by cases x; exact .nil
  | k :: ks, _, x => by
    cases x with
    | cons a b => exact .cons (Plain.nested a) (Plains.nested b)
end
theorem plain_tup {h : Heap} {ks : List W} {v : Value} (x : Plain h (.tup ks) v) : ∃ a o vs n, v = .ref a ∧ h.get? a = some o ∧ o.cls = .type "tuple" ∧ o.data = .seq vs n ∧ Plains h ks vs.toList := by
  cases x with
  | tup h1 h2 h3 h4 => exact ⟨_, _, _, _, rfl, h1, h2, h3, h4⟩
theorem plains_get {h : Heap} : ∀ {ks : List W} {vs : List Value} {j : Nat} {k : W}, Plains h ks vs → ks[j]? = some k → ∃ v, vs[j]? = some v ∧ Plain h k v
  | [], _, j, k, _, e => by simp at e
  | k :: ks, _, j, k', x, e => by
    cases x with
    | cons x1 x2 =>
      cases j with
      | zero => simp at e; subst e; exact ⟨_, rfl, x1⟩
      | succ j => obtain ⟨v, q1, q2⟩ := plains_get (j := j) x2 (by simpa using e); exact ⟨v, by simpa using q1, q2⟩
theorem plains_at {h : Heap} {ks : List W} {vs : Array Value} {j : Nat} {k : W} (x : Plains h ks vs.toList) (e : ks[j]? = some k) (hj : j < vs.size) : Plain h k vs[j] := by
  obtain ⟨v, q1, q2⟩ := plains_get x e
  rw [Array.getElem?_toList, Array.getElem?_eq_getElem hj] at q1
  rw [Option.some.inj q1]
  exact q2
/-- pairs by their first numbers, then by what stands behind -/
theorem pair_lt {A : Around} {s : Shared} {n m : Int} {X Y : W} {a b : Value} {c : Bool} (ha : Plain s.heap (.tup [.num n, X]) a) (hb : Plain s.heap (.tup [.num m, Y]) b) (room : A.units + 2 + min X.depth Y.depth < cLine)
    (hc : n = m → ∀ u v, Plain s.heap X u → Plain s.heap Y v → RcLt A.in1 s u v c) : RcLt A s a b (if n = m then (if X = Y then false else c) else decide (n < m)) := by
  obtain ⟨p, o1, ps, k1, rfl, h1, h2, h3, h4⟩ := plain_tup ha
  obtain ⟨q, o2, qs, k2, rfl, g1, g2, g3, g4⟩ := plain_tup hb
  have n1 : ps.size = 2 := by simpa using NestedAll.length _ _ h4.nested
  have n2 : qs.size = 2 := by simpa using NestedAll.length _ _ g4.nested
  have hd : A.in1.units + min (NestedKey.depthAll [.num n, X]) (NestedKey.depthAll [.num m, Y]) < cLine := by
    simp only [NestedKey.depthAll, NestedKey.depth, Around.in1_units]
    omega
  have he := fun j (j1 : j < ps.size) (j2 : j < qs.size) => eqAt_keys [.num n, X] [.num m, Y] A.in1 s ps.toList qs.toList h4.nested g4.nested hd j (by simpa using j1) (by simpa using j2)
  have e0 : keyEqAt [.num n, X] [.num m, Y] 0 = decide (n = m) := by simp [keyEqAt, NestedKey.beq]
  have e1 : keyEqAt [.num n, X] [.num m, Y] 1 = decide (X = Y) := by
    show NestedKey.beq X Y = _
    rw [← NestedKey.decide_eq]
  have main := RcLt_tup (A := A) (s := s) (u := p) (v := q) (ps := ps) (qs := qs) (e := keyEqAt [.num n, X] [.num m, Y]) (r := fun j => if j = 0 then decide (n < m) else c) ⟨_, h1, h2, _, h3⟩ ⟨_, g1, g2, _, g3⟩ (by omega)
    (fun j j1 j2 => by simpa using he j j1 j2) (fun j j1 j2 all no => by
      match j, j1, j2, all, no with
      | 0, j1, j2, _, _ =>
        have z1 := plains_at (j := 0) h4 rfl j1
        have z2 := plains_at (j := 0) g4 rfl j2
        generalize ps[0] = x at z1
        generalize qs[0] = y at z2
        cases z1
        cases z2
        exact fun prog w E Q hq => P.lt_int (by simpa using hq)
      | j + 1, j1, j2, all, no =>
        have ej : j = 0 := by omega
        subst ej
        have hn : n = m := by simpa [e0] using all 0 (by decide)
        simpa using hc hn _ _ (plains_at (j := 1) h4 rfl j1) (plains_at (j := 1) g4 rfl j2))
  rw [n1, n2] at main
  have hr : List.range (min 2 2) = [0, 1] := by decide
  rw [hr] at main
  simp only [firstLt, e0, e1] at main
  by_cases q1 : n = m
  · by_cases q2 : X = Y
    · simpa [q1, q2] using main
    · simpa [q1, q2] using main
  · simpa [q1] using main
mutual
/-- keys of words are compared as words -/
theorem rclt_key : ∀ (x y : W) (A : Around) (s : Shared) (a b : Value), full x = true → full y = true → Plain s.heap (okey x) a → Plain s.heap (okey y) b → A.units + 3 * min x.depth y.depth + 10 < cLine → RcLt A s a b (wlt x y)
  | .none, _, _, _, _, _, h, _, _, _, _ => by simp [full] at h
  | .num i, y, A, s, a, b, hx, hy, ra, rb, hu => by
    rw [okey] at ra
    cases y with
    | none => simp [full] at hy
    | num j =>
      rw [okey] at rb
      have q := pair_lt (A := A) (c := decide (i < j)) ra rb (by simp [NestedKey.depth] at hu ⊢; omega) fun _ u v x1 x2 => by
        cases x1; cases x2
        exact fun prog w E Q hq => P.lt_int hq
      simp only [if_pos rfl] at q
      rw [wlt]
      have e : (if (NestedKey.num i) = NestedKey.num j then false else decide (i < j)) = decide (i < j) := by
        by_cases z : i = j <;> simp [z]
      rw [e] at q
      exact q
    | text t =>
      rw [okey] at rb
      have q := pair_lt (A := A) (c := false) ra rb (by simp [NestedKey.depth] at hu ⊢; omega) fun z => absurd z (by decide)
      simpa [wlt] using q
    | tup ls =>
      rw [okey] at rb
      have q := pair_lt (A := A) (c := false) ra rb (by simp [NestedKey.depth] at hu ⊢; omega) fun z => absurd z (by decide)
      simpa [wlt] using q
  | .text t, y, A, s, a, b, hx, hy, ra, rb, hu => by
    rw [okey] at ra
    cases y with
    | none => simp [full] at hy
    | num j =>
      rw [okey] at rb
      have q := pair_lt (A := A) (c := false) ra rb (by simp [NestedKey.depth] at hu ⊢; omega) fun z => absurd z (by decide)
      simpa [wlt] using q
    | text t' =>
      rw [okey] at rb
      have q := pair_lt (A := A) (c := decide (t.cps.toList < t'.cps.toList)) ra rb (by simp [NestedKey.depth] at hu ⊢; omega) fun _ u v x1 x2 => by
        cases x1; cases x2
        exact fun prog w E Q hq => P.lt_str hq
      simp only [if_pos rfl] at q
      rw [wlt]
      have e : (if (NestedKey.text t) = NestedKey.text t' then false else decide (t.cps.toList < t'.cps.toList)) = decide (t.cps.toList < t'.cps.toList) := by
        by_cases z : t = t'
        · rw [z]; simp [List.lt_irrefl]
        · simp [z]
      rw [e] at q
      exact q
    | tup ls =>
      rw [okey] at rb
      have q := pair_lt (A := A) (c := false) ra rb (by simp [NestedKey.depth] at hu ⊢; omega) fun z => absurd z (by decide)
      simpa [wlt] using q
  | .tup ks, y, A, s, a, b, hx, hy, ra, rb, hu => by
    rw [okey] at ra
    cases y with
    | none => simp [full] at hy
    | num j =>
      rw [okey] at rb
      have q := pair_lt (A := A) (c := false) ra rb (by simp [NestedKey.depth] at hu ⊢; omega) fun z => absurd z (by decide)
      simpa [wlt] using q
    | text t =>
      rw [okey] at rb
      have q := pair_lt (A := A) (c := false) ra rb (by simp [NestedKey.depth] at hu ⊢; omega) fun z => absurd z (by decide)
      simpa [wlt] using q
    | tup ls =>
      rw [okey] at rb
      have dk := okeys_depth ks
      have dl := okeys_depth ls
      have q := pair_lt (A := A) (c := wlts ks ls) ra rb (by simp only [NestedKey.depth] at hu ⊢; omega) fun _ u v x1 x2 => by
        obtain ⟨p, o1, ps, k1, rfl, h1, h2, h3, h4⟩ := plain_tup x1
        obtain ⟨q, o2, qs, k2, rfl, g1, g2, g3, g4⟩ := plain_tup x2
        have n1 : ps.size = ks.length := by simpa [okeys_len] using NestedAll.length _ _ h4.nested
        have n2 : qs.size = ls.length := by simpa [okeys_len] using NestedAll.length _ _ g4.nested
        have hd : A.in1.in1.units + min (NestedKey.depthAll (okeys ks)) (NestedKey.depthAll (okeys ls)) < cLine := by
          simp only [NestedKey.depth, Around.in1_units] at hu ⊢
          omega
        have main := RcLt_tup (A := A.in1) (s := s) (u := p) (v := q) (ps := ps) (qs := qs) (e := keyEqAt (okeys ks) (okeys ls)) (r := fun j => wlt (ks.getD j .none) (ls.getD j .none)) ⟨_, h1, h2, _, h3⟩ ⟨_, g1, g2, _, g3⟩ (by simp only [Around.in1_units]; omega)
          (fun j j1 j2 => by
            have := eqAt_keys (okeys ks) (okeys ls) A.in1.in1 s ps.toList qs.toList h4.nested g4.nested hd j (by simpa using j1) (by simpa using j2)
            simpa using this) (fun j j1 j2 _ no => by
            have := rclts_key ks ls A.in1.in1 s ps.toList qs.toList (by simpa [full] using hx) (by simpa [full] using hy) h4 g4 (by simp only [NestedKey.depth, Around.in1_units] at hu ⊢; omega) j (by simpa using j1) (by simpa using j2)
            simpa using this)
        rw [n1, n2] at main
        have e3 : keyEqAt (okeys ks) (okeys ls) = fun j => decide (ks.getD j .none = ls.getD j .none) := by
          funext j
          show NestedKey.beq _ _ = _
          rw [okeys_get, okeys_get, okey_beq]
        rw [e3, firstLt_wlts] at main
        exact main
      simp only [if_pos rfl] at q
      rw [wlt]
      have e : (if (NestedKey.tup (okeys ks)) = NestedKey.tup (okeys ls) then false else wlts ks ls) = wlts ks ls := by
        by_cases z : okeys ks = okeys ls
        · rw [okeys_inj z]; simp [wlts_irrefl]
        · simp [z]
      rw [e] at q
      exact q
theorem rclts_key : ∀ (ks ls : List W) (A : Around) (s : Shared) (vs us : List Value), fulls ks = true → fulls ls = true → Plains s.heap (okeys ks) vs → Plains s.heap (okeys ls) us → A.units + 3 * min (NestedKey.depthAll ks) (NestedKey.depthAll ls) + 10 < cLine →
    ∀ j (h1 : j < vs.length) (h2 : j < us.length), RcLt A s vs[j] us[j] (wlt (ks.getD j .none) (ls.getD j .none))
  | [], _, _, _, _, _, _, _, ra, _, _, j, h1, _ => by
    rw [okeys] at ra
    cases ra
    simp at h1
  | _ :: _, [], _, _, _, _, _, _, _, rb, _, j, _, h2 => by
    rw [okeys] at rb
    cases rb
    simp at h2
  | x :: xs, y :: ys, A, s, _, _, hx, hy, ra, rb, hu, j, h1, h2 => by
    rw [okeys] at ra rb
    simp only [fulls, Bool.and_eq_true] at hx hy
    simp only [NestedKey.depthAll] at hu
    cases ra with
    | cons r rs =>
      cases rb with
      | cons r' rs' =>
        cases j with
        | zero => exact rclt_key x y A s _ _ hx.1 hy.1 r r' (by omega)
        | succ j => simpa using rclts_key xs ys A s _ _ hx.2 hy.2 rs rs' (by omega) j (by simpa using h1) (by simpa using h2)
end
end Ly

namespace Ly
open PySem PySem.Spec PyProof.Rows SeqAt PySem.W
/-! ### the order of words is one of all words -/
mutual
theorem wlt_tri : ∀ (x y : W), wlt x y = true ∨ x = y ∨ wlt y x = true
  | .none, y => by cases y <;> simp [wlt]
  | .num i, y => by
    cases y with
    | num j => simp only [wlt, decide_eq_true_eq, NestedKey.num.injEq]; omega
    | _ => simp [wlt]
  | .text s, y => by
    cases y with
    | text t =>
      simp only [wlt, decide_eq_true_eq, NestedKey.text.injEq]
      by_cases h : s.cps.toList < t.cps.toList
      · exact .inl h
      · by_cases h2 : t.cps.toList < s.cps.toList
        · exact .inr (.inr h2)
        · exact .inr (.inl (PySem.W.str_of_cps (List.le_antisymm (List.not_lt.mp h2) (List.not_lt.mp h))))
    | _ => simp [wlt]
  | .tup ks, y => by
    cases y with
    | tup ls =>
      rcases wlts_tri ks ls with h | h | h
      · exact .inl (by simpa [wlt] using h)
      · exact .inr (.inl (by rw [h]))
      · exact .inr (.inr (by simpa [wlt] using h))
    | _ => simp [wlt]
theorem wlts_tri : ∀ (xs ys : List W), wlts xs ys = true ∨ xs = ys ∨ wlts ys xs = true
  | [], [] => by simp
  | [], _ :: _ => by simp [wlts]
  | _ :: _, [] => by simp [wlts]
  | x :: xs, y :: ys => by
    by_cases e : x = y
    · subst e
      rcases wlts_tri xs ys with h | h | h
      · exact .inl (by simpa [wlts] using h)
      · exact .inr (.inl (by rw [h]))
      · exact .inr (.inr (by simpa [wlts] using h))
    · rcases wlt_tri x y with h | h | h
      · exact .inl (by rw [wlts, if_neg e]; exact h)
      · exact absurd h e
      · exact .inr (.inr (by rw [wlts, if_neg (Ne.symm e)]; exact h))
end
mutual
theorem wlt_tr : ∀ (x y z : W), wlt x y = true → wlt y z = true → wlt x z = true
  | .none, y, z, h1, h2 => by cases y <;> cases z <;> simp_all [wlt]
  | .num i, y, z, h1, h2 => by
    cases y <;> cases z <;> simp_all [wlt]
    omega
  | .text s, y, z, h1, h2 => by
    cases y <;> cases z <;> simp_all [wlt]
    exact List.lt_trans h1 h2
  | .tup ks, y, z, h1, h2 => by
    cases y with
    | tup ls =>
      cases z with
      | tup ms =>
        rw [wlt] at h1 h2 ⊢
        exact wlts_tr ks ls ms h1 h2
      | _ => simp [wlt] at h2
    | _ => simp [wlt] at h1
theorem wlts_tr : ∀ (xs ys zs : List W), wlts xs ys = true → wlts ys zs = true → wlts xs zs = true
  | [], [], _, h1, _ => by simp [wlts] at h1
  | [], _ :: _, [], _, h2 => by simp [wlts] at h2
  | [], _ :: _, _ :: _, _, _ => by simp [wlts]
  | _ :: _, [], _, h1, _ => by simp [wlts] at h1
  | _ :: _, _ :: _, [], _, h2 => by simp [wlts] at h2
  | x :: xs, y :: ys, z :: zs, h1, h2 => by
    rw [wlts] at h1 h2 ⊢
    by_cases e1 : x = y
    · subst e1
      rw [if_pos rfl] at h1
      by_cases e2 : x = z
      · subst e2
        rw [if_pos rfl] at h2 ⊢
        exact wlts_tr xs ys zs h1 h2
      · rw [if_neg e2] at h2 ⊢
        exact h2
    · rw [if_neg e1] at h1
      by_cases e2 : y = z
      · subst e2
        rw [if_neg e1]
        exact h1
      · rw [if_neg e2] at h2
        have h3 := wlt_tr x y z h1 h2
        by_cases e3 : x = z
        · subst e3
          rw [wlt_irrefl] at h3
          cases h3
        · rw [if_neg e3]
          exact h3
end
theorem wlt_neg (a b c : W) (h : wlt a c = true) : wlt a b = true ∨ wlt b c = true := by
  rcases wlt_tri a b with q | q | q
  · exact .inl q
  · subst q; exact .inr h
  · exact .inr (wlt_tr b a c q h)
theorem wlt_tot (a b : W) (h1 : wlt a b = false) (h2 : wlt b a = false) : a = b := by
  rcases wlt_tri a b with q | q | q
  · rw [h1] at q; cases q
  · exact q
  · rw [h2] at q; cases q
@[reducible] def wOrd : KeyOrd where
  α := W
  blt := wlt
  irrefl := wlt_irrefl
  trans := wlt_tr
  negTrans := wlt_neg
  total := wlt_tot
/-- values that are keys of the words ws in the heap h -/
noncomputable def wKind (h : Heap) (ws : List W) : PyProof.Rows.KeyKind where
  toKeyOrd := wOrd
  keyOf v := open Classical in if q : ∃ k, k ∈ ws ∧ Plain h (okey k) v then some q.choose else none
  dflt := NestedKey.none
theorem plain_inj {h : Heap} {x y : W} {v : Value} (a : Plain h (okey x) v) (b : Plain h (okey y) v) : x = y := okey_inj (NestedIs.inj _ _ _ a.nested b.nested)
theorem wKind_some {h : Heap} {ws : List W} {v : Value} {k : W} (hk : k ∈ ws) (p : Plain h (okey k) v) : (wKind h ws).keyOf v = some k := by
  have q : ∃ k, k ∈ ws ∧ Plain h (okey k) v := ⟨k, hk, p⟩
  have e : (wKind h ws).keyOf v = some q.choose := by
    show (open Classical in if q : ∃ k, k ∈ ws ∧ Plain h (okey k) v then some q.choose else none) = _
    rw [dif_pos q]
  rw [e, plain_inj q.choose_spec.2 p]
theorem wKind_inv {h : Heap} {ws : List W} {v : Value} {k : W} (e : (wKind h ws).keyOf v = some k) : k ∈ ws ∧ Plain h (okey k) v := by
  by_cases q : ∃ k, k ∈ ws ∧ Plain h (okey k) v
  · have e' : (wKind h ws).keyOf v = some q.choose := by
      show (open Classical in if q : ∃ k, k ∈ ws ∧ Plain h (okey k) v then some q.choose else none) = _
      rw [dif_pos q]
    rw [e'] at e
    rw [← Option.some.inj e]
    exact q.choose_spec
  · have e' : (wKind h ws).keyOf v = none := by
      show (open Classical in if q : ∃ k, k ∈ ws ∧ Plain h (okey k) v then some q.choose else none) = _
      rw [dif_neg q]
      rfl
    rw [e'] at e
    cases e
def tagW : W → Int
  | .text _ => 1
  | .tup _ => 2
  | _ => 0
def bodW : W → W
  | .tup ks => .tup (okeys ks)
  | k => k
theorem okey_tb {k : W} (h : full k = true) : okey k = .tup [.num (tagW k), bodW k] := by
  cases k <;> simp_all [okey, tagW, bodW, full]
section
variable {prog : Program} {w : World} {A : Around} {s : Shared}
/-- what stands behind the first numbers -/
theorem bod_lt {x y : W} {a b : Value} (hx : full x = true) (hy : full y = true) (ht : tagW x = tagW y) (ra : Plain s.heap (bodW x) a) (rb : Plain s.heap (bodW y) b) (hu : A.units + 3 * min x.depth y.depth + 10 < cLine) : RcLt A s a b (wlt x y) := by
  cases x with
  | none => simp [full] at hx
  | num i =>
    cases y with
    | num j =>
      rw [bodW] at ra rb
      cases ra; cases rb
      rw [wlt]
      exact fun prog w E Q hq => P.lt_int hq
      all_goals (first | (simp) | skip)
    | none => simp [full] at hy
    | text _ => simp [tagW] at ht
    | tup _ => simp [tagW] at ht
  | text t =>
    cases y with
    | text t' =>
      rw [bodW] at ra rb
      cases ra; cases rb
      rw [wlt]
      exact fun prog w E Q hq => P.lt_str hq
      all_goals (first | (simp) | skip)
    | none => simp [full] at hy
    | num _ => simp [tagW] at ht
    | tup _ => simp [tagW] at ht
  | tup ks =>
    cases y with
    | tup ls =>
      rw [bodW] at ra rb
      obtain ⟨p, o1, ps, k1, rfl, h1, h2, h3, h4⟩ := plain_tup ra
      obtain ⟨q, o2, qs, k2, rfl, g1, g2, g3, g4⟩ := plain_tup rb
      have n1 : ps.size = ks.length := by simpa [okeys_len] using NestedAll.length _ _ h4.nested
      have n2 : qs.size = ls.length := by simpa [okeys_len] using NestedAll.length _ _ g4.nested
      have dk := okeys_depth ks
      have dl := okeys_depth ls
      have hd : A.in1.units + min (NestedKey.depthAll (okeys ks)) (NestedKey.depthAll (okeys ls)) < cLine := by
        simp only [NestedKey.depth, Around.in1_units] at hu ⊢
        omega
      have main := RcLt_tup (A := A) (s := s) (u := p) (v := q) (ps := ps) (qs := qs) (e := keyEqAt (okeys ks) (okeys ls)) (r := fun j => wlt (ks.getD j .none) (ls.getD j .none)) ⟨_, h1, h2, _, h3⟩ ⟨_, g1, g2, _, g3⟩ (by omega)
        (fun j j1 j2 => by
          have := eqAt_keys (okeys ks) (okeys ls) A.in1 s ps.toList qs.toList h4.nested g4.nested hd j (by simpa using j1) (by simpa using j2)
          simpa using this) (fun j j1 j2 _ no => by
          have := rclts_key ks ls A.in1 s ps.toList qs.toList (by simpa [full] using hx) (by simpa [full] using hy) h4 g4 (by simp only [NestedKey.depth, Around.in1_units] at hu ⊢; omega) j (by simpa using j1) (by simpa using j2)
          simpa using this)
      rw [n1, n2] at main
      have e3 : keyEqAt (okeys ks) (okeys ls) = fun j => decide (ks.getD j .none = ls.getD j .none) := by
        funext j
        show NestedKey.beq _ _ = _
        rw [okeys_get, okeys_get, okey_beq]
      rw [e3, firstLt_wlts] at main
      rw [wlt]
      exact main
    | none => simp [full] at hy
    | num _ => simp [tagW] at ht
    | text _ => simp [tagW] at ht
theorem wlt_tags {x y : W} (hx : full x = true) (hy : full y = true) (h : tagW x ≠ tagW y) : wlt x y = decide (tagW x < tagW y) := by
  cases x <;> cases y <;> simp_all [tagW, wlt, full]
/-- keys of full words can be sorted -/
theorem sorts_words {ws : List W} {vs : List Value} (e : PySem.W.EachIs (fun v k => Plain s.heap (okey k) v) vs ws) (hf : ∀ k ∈ ws, full k = true) (hu : ∀ k ∈ ws, A.units + 3 * k.depth + 20 < cLine) : PySem.W.SortsAt prog w A s (wKind s.heap ws) vs := by
  refine ⟨fun v hv => ?_, tuples' true, ?_, fun h2 E Q hq => ?_⟩
  · obtain ⟨k, hk, p⟩ := e.left v hv
    exact ⟨k, wKind_some hk p⟩
  · intro E x y a b Q ha hb hq
    obtain ⟨ka, pa⟩ := wKind_inv ha
    obtain ⟨kb, pb⟩ := wKind_inv hb
    have fa := hf a ka
    have fb := hf b kb
    have ua := hu a ka
    rw [okey_tb fa] at pa
    rw [okey_tb fb] at pb
    obtain ⟨p, o1, ps, k1, rfl, h1, h2, h3, h4⟩ := plain_tup pa
    obtain ⟨q, o2, qs, k2, rfl, g1, g2, g3, g4⟩ := plain_tup pb
    have hq' : Q (wlt a b) s := hq
    refine kat_lt h1 h3 g1 g3 ?_
    have n1 := NestedAll.length _ _ h4.nested
    have n2 := NestedAll.length _ _ g4.nested
    have z1 : decide (ps.size < qs.size) = false := by
      have : ps.size = 2 := by simpa using n1
      have : qs.size = 2 := by simpa using n2
      exact decide_eq_false (by omega)
    rw [z1]
    generalize ps.toList = lp at h4 ⊢
    generalize qs.toList = lq at g4 ⊢
    cases h4 with
    | @cons _ p0 _ pr hp0 hpr =>
      cases hpr with
      | @cons _ p1 _ pr' hp1 hpr' =>
        cases hpr'
        cases g4 with
        | @cons _ q0 _ qr hq0 hqr =>
          cases hqr with
          | @cons _ q1 _ qr' hq1 hqr' =>
            cases hqr'
            have hu1 : A.units + min (bodW a).depth (bodW b).depth < cLine := by
              have d1 : (bodW a).depth ≤ 2 * a.depth + 1 := by
                have := okey_depth a
                rw [okey_tb fa] at this
                simp only [NestedKey.depth, NestedKey.depthAll] at this
                omega
              omega
            have E0 : EqAt A s p0 q0 (decide (tagW a = tagW b)) := by
              have := eqAt_key (.num (tagW a)) (.num (tagW b)) A s p0 q0 hp0.nested hq0.nested (by simp only [NestedKey.depth]; omega)
              simpa [NestedKey.beq] using this
            have E1 : EqAt A s p1 q1 (decide (bodW a = bodW b)) := by
              have := eqAt_key (bodW a) (bodW b) A s p1 q1 hp1.nested hq1.nested hu1
              rw [NestedKey.decide_eq]
              exact this
            rw [List.zip_cons_cons, List.zip_cons_cons, List.zip_nil_left]
            refine kat_cons (E0 prog w _ _ ?_)
            by_cases ht : tagW a = tagW b
            · rw [decide_eq_true ht]
              refine kat_yes (kat_cons (E1 prog w _ _ ?_))
              by_cases hb2 : bodW a = bodW b
              · rw [decide_eq_true hb2]
                have hab : a = b := okey_inj (by rw [okey_tb fa, okey_tb fb, ht, hb2])
                subst hab
                have z : wlt (show W from a) (show W from a) = false := wlt_irrefl _
                exact kat_yes (kat_nil (z ▸ hq'))
              · rw [decide_eq_false hb2]
                refine kat_no ?_
                have L := bod_lt (A := A) fa fb ht hp1 hq1 (by omega)
                exact kat_one p1 q1 (L prog w _ _ hq')
            · rw [decide_eq_false ht]
              refine kat_no ?_
              have z := wlt_tags fa fb ht
              have hq2 : Q (decide (tagW a < tagW b)) s := z ▸ hq'
              cases hp0
              cases hq0
              exact oneLt_int hq2
  · have kt : ∃ fs, KatTups s.heap vs fs ∧ fs.length = vs.length ∧ ∀ f ∈ fs, ∃ i t, f = Value.int i t := by
      clear h2
      revert hf hu
      induction e with
      | nil => exact fun _ _ => ⟨[], KatTups.nil, rfl, fun f h => by simp at h⟩
      | @cons v k vs ks p _ ih =>
        intro hf hu
        obtain ⟨fs, t1, t2, t3⟩ := ih (fun x hx => hf x (List.mem_cons_of_mem _ hx)) (fun x hx => hu x (List.mem_cons_of_mem _ hx))
        rw [okey_tb (hf k List.mem_cons_self)] at p
        obtain ⟨a, o1, ps, k1, rfl, h1, h2, h3, h4⟩ := plain_tup p
        obtain ⟨f, q1, q2⟩ := plains_get (j := 0) h4 rfl
        rw [Array.getElem?_toList] at q1
        cases q2 with
        | int i t =>
          refine ⟨.int (tagW k) t :: fs, KatTups.cons h1 h2 h3 q1 t1, by simp [t2], fun g hg => ?_⟩
          rcases List.mem_cons.mp hg with z | z
          · exact ⟨_, _, z⟩
          · exact t3 g z
    obtain ⟨fs, t1, t2, t3⟩ := kt
    refine kat_kind (T := .type "int") t1 (by omega) (fun f hf => ?_) (by decide) hq
    obtain ⟨i, t, rfl⟩ := t3 f hf
    exact Looks.of_pure rfl
end
end Ly

namespace Ly
open PySem PySem.Spec PyProof.Rows L2 PySem.W
/-! ### sorted(words, key = a def that tells a word's key) -/
def spOrderKey (n : Nat) : Sp := fun vs H Q _ => ∃ (x : V) (k : W) (F : Hp), vs = [x] ∧ Same F H ∧ Wk F k x ∧ full k = true ∧ k.depth < n ∧ ∀ v F' H', Ex [] F H F' H' → Wk F' (okey k) v → Q v H'
def wle (a b : W) : Bool := !wlt b a
def wsort (ws : List W) : List W := ws.mergeSort wle
mutual
theorem wk_plain {P : Program} {w : World} {F H : Hp} {h : Heap} (hF : Same F H) (ok : HOk P w H h) : ∀ {k : W} {v : V} {u : Value}, Wk F k v → RelV v u → Plain h k u
  | .none, v, u, e, r => by
    simp only [Wk] at e
    subst e
    cases (show u = Value.none from r)
    exact .none
  | .num i, v, u, e, r => by
    rw [wk_num.mp e] at r
    obtain ⟨t, rfl⟩ := (show ∃ t, u = Value.int i t from r)
    exact .int i t
  | .text s, v, u, e, r => by
    rw [wk_text.mp e] at r
    obtain ⟨t, rfl⟩ := (show ∃ t, u = Value.str s t from r)
    exact .text s t
  | .tup ks, v, u, e, r => by
    obtain ⟨a, vs, rfl, h2, h3, _⟩ := wk_tup.mp e
    cases (show u = Value.ref a from r)
    obtain ⟨_, its, rv, o, ho, hc, n, hd⟩ := (show ObjOk P w H h a (.tup vs) from ok a _ (hF _ _ h2))
    exact .tup ho hc hd (by simpa using wks_plain hF ok h3 rv)
theorem wks_plain {P : Program} {w : World} {F H : Hp} {h : Heap} (hF : Same F H) (ok : HOk P w H h) : ∀ {ks : List W} {vs : List V} {us : List Value}, Wks F ks vs → Vals vs us → Plains h ks us
  | [], vs, us, e, r => by
    rw [wks_nil.mp e] at r
    cases r
    exact .nil
  | k :: ks, vs, us, e, r => by
    obtain ⟨v, rest, rfl, e2, e3⟩ := wks_cons.mp e
    cases r with
    | cons r1 r2 => exact .cons (wk_plain hF ok e2 r1) (wks_plain hF ok e3 r2)
end
section
variable {X : Cx} {pins : List (Addr × Obj)} {σ : L2.St} {F H : Hp} {s : Shared}
/-- what is neither a frame's nor pinned nor a cell, and untracked, may turn -/
theorem Inv.turn {h' : Heap} {it : Addr} (I : L2.Inv X pins σ H s) (f : L2.FpOk X pins H it) (k : ∀ b o, b ≠ it → s.heap.get? b = some o → h'.get? b = some o) : L2.Inv X pins σ H { s with heap := h', toks := s.toks } := by
  obtain ⟨f0, f1, f2, f3, f4, f5⟩ := f
  exact I.turned (t' := s.toks) k f0 f1 f3 f4 f5
/-- the same address at a later heap -/
theorem fp_later {H' : Hp} {it : Addr} (f : L2.FpOk X pins H it) (h : H' it = none) : L2.FpOk X pins H' it := by
  obtain ⟨_, f1, f2, f3, f4, f5⟩ := f
  exact ⟨h, f1, f2, f3, f4, f5⟩
/-- the keys that were made so far -/
def KeysAre (F : Hp) (us : List Value) (ws : List W) : Prop := EachIs (fun u k => ∃ v, RelV v u ∧ Wk F (okey k) v) us ws
theorem KeysAre.up {F' : Hp} {us : List Value} {ws : List W} (h : Same F F') (e : KeysAre F us ws) : KeysAre F' us ws := EachIs.mono (fun u k q => by
  obtain ⟨v, r, w⟩ := q
  exact ⟨v, r, w.up h⟩) e
theorem each_snoc2 {α β : Type} {R : α → β → Prop} {x : α} {y : β} (hxy : R x y) : ∀ {as : List α} {bs : List β}, EachIs R as bs → EachIs R (as ++ [x]) (bs ++ [y])
  | _, _, .nil => .cons hxy .nil
  | _, _, .cons h t => .cons h (each_snoc2 hxy t)
theorem wks_zip {F : Hp} : ∀ {ks : List W} {vs : List V}, Wks F ks vs ↔ vs.length = ks.length ∧ ∀ p ∈ ks.zip vs, Wk F p.1 p.2
  | [], vs => by
    constructor
    · intro h; rw [wks_nil.mp h]; simp
    · intro h; exact wks_nil.mpr (List.length_eq_zero_iff.mp (by simpa using h.1))
  | k :: ks, [] => by
    constructor
    · intro h; obtain ⟨v, r, e, _⟩ := wks_cons.mp h; cases e
    · intro h; simp at h
  | k :: ks, v :: vs => by
    have ih := @wks_zip F ks vs
    constructor
    · intro h
      obtain ⟨v', r, e, h1, h2⟩ := wks_cons.mp h
      cases e
      obtain ⟨q1, q2⟩ := ih.mp h2
      refine ⟨by simp [q1], fun p hp => ?_⟩
      rcases List.mem_cons.mp (by simpa using hp) with z | z
      · rw [z]; exact h1
      · exact q2 p z
    · intro h
      obtain ⟨q1, q2⟩ := h
      refine Wks.cons (q2 (k, v) (by simp)) (ih.mpr ⟨by simpa using q1, fun p hp => q2 p (by simp [hp])⟩)
theorem zip_fs {α β : Type} : ∀ l : List (α × β), (l.map Prod.fst).zip (l.map Prod.snd) = l
  | [] => rfl
  | p :: l => by simp [zip_fs l]
/-- what is sorted out, told by the words -/
theorem sorted_vals {h : Heap} {F : Hp} {ws : List W} {us : List Value} {its : List Value} {xs : List V} (hk : EachIs (fun v k => Plain h (okey k) v) us ws) (hx : Wks F ws xs) (hr : Vals xs its) :
    ∃ ys, Vals ys (sortVals (wKind h ws) false us its) ∧ Wks F (wsort ws) ys := by
  have l1 := hk.length
  have l2 := hx.len
  have l3 := hr.length
  have base : EachIs (fun (p : Keyed) (q : W × V) => RelV q.2 p.2 ∧ keyD (wKind h ws) p.1 = q.1) (us.zip its) (ws.zip xs) := by
    have gen : ∀ {us ws' : _} {its : List Value} {xs : List V}, EachIs (fun v k => Plain h (okey k) v) us ws' → (∀ k ∈ ws', k ∈ ws) → Vals xs its → xs.length = ws'.length → EachIs (fun (p : Keyed) (q : W × V) => RelV q.2 p.2 ∧ keyD (wKind h ws) p.1 = q.1) (us.zip its) (ws'.zip xs) := by
      intro us ws' its xs e
      induction e generalizing its xs with
      | nil => intro _ _ _; simp; exact .nil
      | @cons a b as bs q t ih =>
        intro hm hr hl
        cases hr with
        | nil => simp at hl
        | @cons x u xs' us' r1 r2 =>
          refine .cons ⟨r1, ?_⟩ (ih (fun k hk => hm k (List.mem_cons_of_mem _ hk)) r2 (by simpa using hl))
          exact keyD_some (wKind_some (hm b List.mem_cons_self) q)
    exact gen hk (fun k hk => hk) hr (by omega)
  have srt := sort_each (r := sortLe (wKind h ws).toKeyOrd false fun p : Keyed => keyD (wKind h ws) p.1) (s := fun p q : W × V => wle p.1 q.1) base fun p hp q hq => by
    have a := (base.zip p hp).2
    have b := (base.zip q hq).2
    show (!wlt (keyD (wKind h ws) q.1.1) (keyD (wKind h ws) p.1.1)) = (!wlt q.2.1 p.2.1)
    rw [a, b]
  refine ⟨((ws.zip xs).mergeSort fun p q : W × V => wle p.1 q.1).map Prod.snd, ?_, ?_⟩
  · have gen : ∀ {as : List Keyed} {bs : List (W × V)}, EachIs (fun (p : Keyed) (q : W × V) => RelV q.2 p.2 ∧ keyD (wKind h ws) p.1 = q.1) as bs → Vals (bs.map Prod.snd) (as.map Prod.snd) := by
      intro as bs e
      induction e with
      | nil => exact .nil
      | cons q _ ih => exact .cons q.1 ih
    exact gen srt
  · have e1 : ((ws.zip xs).mergeSort fun p q : W × V => wle p.1 q.1).map Prod.fst = wsort ws := by
      rw [sort_maps (s := wle) Prod.fst (fun _ _ _ _ => rfl), List.map_fst_zip (by omega)]
      rfl
    rw [← e1]
    refine wks_zip.mpr ⟨by simp, fun p hp => ?_⟩
    rw [zip_fs] at hp
    exact (wks_zip.mp hx).2 p ((List.mergeSort_perm _ _).mem_iff.mp hp)
/-- a def is called by list.sort -/
theorem run_in2 {x : Str} {k : Nat} {ps : List Str} {sp : Sp} {u : Value} {v : V} {Q : VK} (o : Ok X.prog X.w X.K X.mg X.base x k ps sp) (hr : Room k X.A.in1.in1) (I : L2.Inv X pins σ H s) (r : RelV v u) (h : sp [v] H Q fun _ _ _ => False) :
    wpAny (model X.prog X.w) X.A.in1.in1 (call (.ref (He.ga X.K x)) [u]) (L2.EP X pins σ Q) (fun _ _ => False) s := by
  obtain ⟨fd, _, _, hb, Fn⟩ := o
  have hl : ps.length = 1 := by
    have := Fn.len _ _ _ _ h
    simpa using this.symm
  refine wpAny_call (codeAny_mono (Fn.run X.A.in1.in1 X.stack s H ⟨[u], []⟩ [u] [v] Q (fun _ _ _ => False) hr I.env0.in1.in1 (by
    have hb' := hb s [u] I.kIn (by simp [hl])
    simpa using hb') (.cons r .nil) h) fun r s' hq => ?_)
  cases r with
  | error e => exact hq.elim
  | ok fl =>
    cases fl with
    | ret u => exact I.after hq
    | next => exact hq.elim
    | brk => exact hq.elim
    | cont => exact hq.elim
/-- the keys are made, the items sorted -/
theorem keyW_rest {x : Str} {k n : Nat} {ps : List Str} {D kS : Addr} {e1 : Nat} {its : List Value} {xs : List V} {ws : List W} {P : PySem.Fin → Shared → Prop} {E : Value → Shared → Prop} (o : Ok X.prog X.w X.K X.mg X.base x k ps (spOrderKey n)) (hr : Room (k + 2) X.A) (hn : n ≤ 50)
    (I : L2.Inv X (pins ++ [(D, seqObj "list" #[] e1), (kS, seqObj "list" #[] 0)]) σ H s) (fD : L2.FpOk X pins H D) (fK : L2.FpOk X pins H kS) (hDK : kS ≠ D) (hF : Same F H)
    (rv : Vals xs its) (hw : Wks F ws xs) (hf : fulls ws = true) (hd : NestedKey.depthAll ws < n) (hz : its.length ≤ sizeLine)
    (done : ∀ s' H' F' out, L2.Inv X pins σ (upd H' D (.lst out)) s' → Ex [] F H F' H' → H' D = none → Wks F' (wsort ws) out → P (.done (.ret .none)) s') :
    wpAny (model X.prog X.w) X.A.in1.in1 (ksk_rest D (.ref (He.ga X.K x)) false its.toArray e1 (.ref kS)) P E s := by
  have hlen : its.length = ws.length := by rw [← rv.length]; exact hw.len
  have hr2 : Room k X.A.in1.in1 := (Room.in1 (Room.in1 hr))
  have fullk : ∀ z ∈ ws, full z = true := by
    intro z hz
    revert hf hz
    clear hw hd hlen done
    induction ws with
    | nil => intro _ h; simp at h
    | cons a r ih =>
      intro hf h
      simp only [fulls, Bool.and_eq_true] at hf
      rcases List.mem_cons.mp h with q | q
      · rw [q]; exact hf.1
      · exact ih hf.2 q
  have depk : ∀ z ∈ ws, z.depth < n := by
    intro z hz
    revert hd hz
    clear hw hf hlen done fullk
    induction ws with
    | nil => intro _ h; simp at h
    | cons a r ih =>
      intro hd h
      simp only [NestedKey.depthAll] at hd
      rcases List.mem_cons.mp h with q | q
      · rw [q]; omega
      · exact ih (by omega) q
  unfold ksk_rest
  refine wpAny_bind (wpAny_rule ?_)
  first
    | rw [List.forIn_toArray]
    | (rw [← Array.forIn_toList]; simp only [List.toList_toArray])
  refine wpAny_bind (ksk_fold (fun i s' => ∃ H' F' keys e, L2.Inv X (pins ++ [(D, seqObj "list" #[] e1), (kS, seqObj "list" keys e)]) σ H' s' ∧ Ex [] F H F' H' ∧ KeysAre F' keys.toList (ws.take i)) its 0 s ⟨H, F, #[], 0, I, Ex.refl hF, by rw [List.take_zero]; exact EachIs.nil⟩ ?turns ?behind)
  case turns =>
    rintro j u s' hu ⟨H', F', keys, e, I', ex, hk⟩
    simp only [Nat.zero_add] at hk ⊢
    have hj : j < its.length := (List.getElem?_eq_some_iff.mp hu).1
    obtain ⟨v, hv, wkv⟩ : ∃ v, xs[j]? = some v ∧ RelV v u := by
      have hjx : j < xs.length := by rw [rv.length]; exact hj
      obtain ⟨u', q1, q2⟩ := rv.get (List.getElem?_eq_getElem hjx)
      rw [hu] at q1
      cases q1
      exact ⟨_, List.getElem?_eq_getElem hjx, q2⟩
    obtain ⟨z, hz1, hz2⟩ := hw.get hv
    have hzm : z ∈ ws := List.mem_of_getElem? hz1
    have kl := hk.length
    have pinD := I'.pin (D, seqObj "list" #[] e1) (List.mem_append_right _ (List.mem_append_right _ (by simp)))
    have pinK := I'.pin (kS, seqObj "list" keys e) (List.mem_append_right _ (List.mem_append_right _ (by simp)))
    refine wpAny_bind (wpAny_attempt (wpAny_mono (run_in2 (Q := fun v' H2 => ∃ F2, Ex [] F' H' F2 H2 ∧ Wk F2 (okey z) v') o hr2 I' wkv ⟨v, z, F', rfl, ex.fh, hz2.up ex.ff, fullk z hzm, depk z hzm, fun v' F2 H2 e2 w2 => ⟨F2, e2, w2⟩⟩) (fun u' s2 hh => ?_) fun _ _ hE => hE.elim))
    obtain ⟨v', H2, I2, r2, F2, e2, w2⟩ := hh
    try dsimp only
    have pD := I2.pin (D, seqObj "list" #[] e1) (List.mem_append_right _ (List.mem_append_right _ (by simp)))
    have pK := I2.pin (kS, seqObj "list" keys e) (List.mem_append_right _ (List.mem_append_right _ (by simp)))
    have nk : s2.heap.get? kS = some (seqObj "list" keys e) := pK.1
    have nd : s2.heap.get? D = some (seqObj "list" #[] e1) := pD.1
    have ksz : keys.size ≤ sizeLine := by
      rw [Array.length_toList, List.length_take] at kl
      omega
    refine wpAny_bind (listUpdate_at nk rfl ?_ ksz (Nat.le_trans (Nat.le_of_eq (Array.size_push ..)) (Nat.succ_le_succ ksz)))
    have sb := Heap.SameBut.update s2.heap kS (Obj.mapSeq (·.push u'))
    obtain ⟨c2, hc2⟩ : ∃ c2, (s2.heap.update kS (Obj.mapSeq (·.push u'))).get? kS = some (seqObj "list" (keys.push u') c2) := ⟨_, get?_update_seq nk (·.push u')⟩
    have I3 : L2.Inv X pins σ H2 s2 := I2.unpinned
    have I4 := Inv.turn I3 (fp_later fK pK.2.1) (fun b o hb e => (sb.2 b hb).trans e)
    refine wpAny_pure ⟨rfl, H2, F2, keys.push u', c2, I4.pins_of (fun p hp => ?_), ex.trans e2, ?_⟩
    · rcases List.mem_append.mp hp with z | z
      · have q := I4.pin p (List.mem_append_right _ z)
        exact q
      · simp only [List.mem_cons, List.not_mem_nil, or_false] at z
        rcases z with z | z
        · subst z
          exact ⟨(sb.2 D (Ne.symm hDK)).trans nd, pD.2.1, fD.2.1, fD.2.2.1, fun v h => by cases h⟩
        · subst z
          exact ⟨hc2, pK.2.1, fK.2.1, fK.2.2.1, fun v h => by cases h⟩
    · have ek : ws.take (j + 1) = ws.take j ++ [z] := by rw [List.take_add_one, hz1]; simp
      have ea : (keys.push u').toList = keys.toList ++ [u'] := by simp
      rw [ek, ea]
      exact each_snoc2 ⟨v', r2, w2⟩ (KeysAre.up e2.ff hk)
  case behind =>
    rintro s' ⟨H', F', keys, e, I', ex, hk⟩
    have e3 : ws.take (0 + its.length) = ws := List.take_of_length_le (by omega)
    rw [e3] at hk
    have pD := I'.pin (D, seqObj "list" #[] e1) (List.mem_append_right _ (List.mem_append_right _ (by simp)))
    have pK := I'.pin (kS, seqObj "list" keys e) (List.mem_append_right _ (List.mem_append_right _ (by simp)))
    have nk : s'.heap.get? kS = some (seqObj "list" keys e) := pK.1
    have nd : s'.heap.get? D = some (seqObj "list" #[] e1) := pD.1
    have hk2 : EachIs (fun v k => Plain s'.heap (okey k) v) keys.toList ws := EachIs.mono (fun u k q => by
      obtain ⟨v, r, w'⟩ := q
      exact wk_plain ex.fh I'.hok w' r) hk
    have hsz : keys.size = its.length := by
      have h1 := hk2.length
      rw [Array.length_toList] at h1
      omega
    have units : ∀ z ∈ ws, X.A.in1.in1.units + 3 * z.depth + 20 < cLine := fun z hz => by
      have h1 := depk z hz
      have h2 := hr.un
      simp only [Around.in1_units]
      omega
    obtain ⟨ys, y1, y2⟩ := sorted_vals hk2 (hw.up ex.ff) rv
    try dsimp only
    refine wpAny_bind (listItems_at nk rfl ?_)
    obtain ⟨G', gk, ge⟩ := L2.restrict s'.heap fun b => decide (b ≠ kS)
    have gkk : ∀ b, b ≠ kS → G'.get? b = s'.heap.get? b := fun b hb => gk b (decide_eq_true hb)
    have gke : G'.get? kS = none := ge kS (by simp)
    refine keyH_end (κ := wKind s'.heap ws) (h₁ := G') (s := s') (fun b o hb q => ?_) gke nk nd hDK (sorts_words hk2 fullk units) hsz hz fun h3 tk3 c k3 n3 => ?_
    · by_cases hbk : b = kS
      · rw [hbk, gke] at q; cases q
      · rw [← gkk b hbk]; exact q
    · refine done _ H' F' ys ?_ ex pD.2.1 y2
      have I0 : L2.Inv X pins σ H' s' := I'.unpinned
      have keep : ∀ b o, b ≠ D → b ≠ kS → s'.heap.get? b = some o → h3.get? b = some o := fun b o h1 h2 q => k3 b o h1 (by rw [gkk b h2]; exact q)
      have hDn : H' D = none := pD.2.1
      have hKn : H' kS = none := pK.2.1
      have yl : ys.length ≤ sizeLine := by
        have := y2.len
        have w1 : (wsort ws).length = ws.length := List.length_mergeSort _
        omega
      refine I0.step (g' := s'.gens) (d' := s'.drawn) (t' := tk3) (ch := [D, kS]) (fun b hb => ?_) (fun b o _ _ hb q _ => ?_) (fun b o _ _ hb q _ => ?_) (fun b o hb q n => ?_) (fun b o hb q => ?_) (fun b xs q => ?_) (fun b o u q => ?_) (fun b ps q => ?_) (fun m hm => ?_) ?_ I0.bare
      · simp only [List.mem_cons, List.not_mem_nil, or_false] at hb
        rcases hb with z | z
        · subst z
          exact ⟨fD.2.2.2.1, fD.2.1, fD.2.2.2.2.1, fD.2.2.2.2.2⟩
        · subst z
          exact ⟨fK.2.2.2.1, fK.2.1, fK.2.2.2.2.1, fK.2.2.2.2.2⟩
      · simp only [List.mem_cons, List.not_mem_nil, or_false, not_or] at hb
        exact keep b o hb.1 hb.2 q
      · simp only [List.mem_cons, List.not_mem_nil, or_false, not_or] at hb
        exact ⟨o.slots, keep b o hb.1 hb.2 q⟩
      · simp only [List.mem_cons, List.not_mem_nil, or_false, not_or] at hb
        rw [upd_ne hb.1]; exact n
      · simp only [List.mem_cons, List.not_mem_nil, or_false, not_or] at hb
        exact ⟨o, keep b o hb.1 hb.2 q⟩
      · rw [upd_ne (ne_of_none q hDn)]; exact q
      · rw [upd_ne (ne_of_none q hDn)]; exact q
      · exact ⟨#[], by rw [upd_ne (ne_of_none q hDn), q]; simp⟩
      · obtain ⟨om, es', ep', hom, rm⟩ := hm
        exact ⟨om, es', ep', keep _ _ (Ne.symm fD.2.1) (Ne.symm fK.2.1) hom, rm⟩
      · intro b o q
        by_cases hb : b = D
        · subst hb
          rw [upd_same] at q
          cases q
          exact ⟨yl, _, c, y1, n3⟩
        · rw [upd_ne hb] at q
          have nb : b ≠ kS := ne_of_none q hKn
          refine (I0.hok b o q).stay (fun b2 u2 hb2 q2 => ?_) (fun b2 q2 => ?_) fun b2 xs q2 => ?_
          · rcases hb2 with z | z
            · rw [z] at q2 ⊢; exact keep b u2 hb nb q2
            · exact keep b2 u2 (ne_of_none z hDn) (ne_of_none z hKn) q2
          · rw [upd_ne (ne_of_none q2 hDn)]; exact q2
          · rw [upd_ne (ne_of_none q2 hDn)]; exact q2
end
end Ly

namespace Ly
open PySem PySem.Spec PyProof.Rows L2 PySem.W
def rSortedW (K : PySem.W.Frag) (x : Str) (n : Nat) : List V → List V → Hp → VK → Prop := fun vs zs H Q => ∃ (a : Addr) (xs : List V) (ws : List W) (F : Hp), vs = [V.ref a] ∧ zs = [V.ref (He.ga K x)] ∧ SqL K H a xs ∧ Same F H ∧ Wks F ws xs ∧ fulls ws = true ∧ NestedKey.depthAll ws < n ∧
  ∀ p ys F' H', Ex [] F H F' H' → H p = none → F' p = none → H' p = some (.lst ys) → Wks F' (wsort ws) ys → Q (.ref p) H'
section
variable {X : Cx}
theorem cr_sortedW {x : Str} {k n : Nat} {ps : List Str} (o : Ok X.prog X.w X.K X.mg X.base x k ps (spOrderKey n)) (hr : Room (k + 2) X.A) (hn : n ≤ 50) : CallRK X (.builtin "sorted") [Str.ofString "key"] (rSortedW X.K x n) := by
  intro pins s σ H vs zs us ws' Q I r rz h
  obtain ⟨a, xs, ws, F, rfl, rfl, hs, hF, hw, hf, hd, q⟩ := h
  obtain rfl := Vals.ref1 r
  obtain ⟨w1, rfl, e1⟩ := vals1 rz
  obtain rfl : w1 = Value.ref (He.ga X.K x) := e1
  obtain ⟨its, rv, hl, hz⟩ := I.list hs
  have hz2 : its.length ≤ sizeLine := by rw [← rv.length]; exact hz
  refine sorted_of_sort hl.isList hz2 (ksk_s1 _ _) (fun _ => ksk_l1 _ _) fun E' => ?_
  show wpAny _ _ (Builtin.«list.sort» ⟨[.ref (s.heap.objs.size + 1)], [(Str.ofString "key", .ref (He.ga X.K x))]⟩) _ _ _
  rw [ksk_t1]
  generalize hD : s.heap.objs.size + 1 = D
  have hDs : s.heap.objs.size ≤ D := by omega
  have ho : (copyHeap s.heap its).get? D = some (seqObj "list" its.toArray 0) := by rw [← hD]; exact copyHeap_at s.heap its
  have I1 : L2.Inv X pins σ H { s with heap := copyHeap s.heap its } := I.kept (t' := s.toks) fun b o e => copyHeap_old e
  have hDn : H D = none := I.hok.fresh hDs
  have fD : L2.FpOk X pins H D := I.fpOk hDs hDn
  obtain ⟨c1, ho1⟩ : ∃ c1, ((copyHeap s.heap its).update D (Obj.mapSeq fun _ => (#[] : Array Value))).get? D = some (seqObj "list" #[] c1) := ⟨_, get?_update_seq ho fun _ => #[]⟩
  have sb := Heap.SameBut.update (copyHeap s.heap its) D (Obj.mapSeq fun _ => (#[] : Array Value))
  have I2 := Inv.turn I1 fD (fun b o hb e => (sb.2 b hb).trans e)
  unfold ksk_tree
  refine wpAny_bind (listItems_at ho rfl ?_)
  refine wpAny_bind (listUpdate_at ho rfl ?_ (by rw [List.size_toArray]; exact hz2) (Nat.zero_le _))
  refine wpAny_bind (seqEpoch_at ho1 rfl ?_)
  refine wpAny_bind (wpAny_newTuple ?_ (by show its.length ≤ _; exact hz2))
  refine wpAny_bind (wpAny_newList ?_ (Nat.zero_le _))
  refine wpAny_holding ?_
  have szD : D < (copyHeap s.heap its).objs.size := Heap.lt_size ho
  generalize hh2 : (copyHeap s.heap its).update D (Obj.mapSeq fun _ => (#[] : Array Value)) = h2 at I2 ho1
  have sz2 : h2.objs.size = (copyHeap s.heap its).objs.size := by rw [← hh2, Heap.size_update]
  have I3 : L2.Inv X pins σ H { s with heap := h2.push (seqObj "tuple" its.toArray 0) } := I2.kept (t' := s.toks) fun b o e => Heap.get?_push_of_some _ e
  have I4 : L2.Inv X pins σ H { s with heap := (h2.push (seqObj "tuple" its.toArray 0)).push (seqObj "list" #[] 0) } := I3.kept (t' := s.toks) fun b o e => Heap.get?_push_of_some _ e
  have kS : (h2.push (seqObj "tuple" its.toArray 0)).objs.size = h2.objs.size + 1 := size_push' ..
  have nK : H (h2.objs.size + 1) = none := I3.hok.fresh (by show (h2.push (seqObj "tuple" its.toArray 0)).objs.size ≤ _; rw [kS]; exact Nat.le_refl _)
  have fK : L2.FpOk X pins H (h2.objs.size + 1) := I3.fpOk (by show (h2.push (seqObj "tuple" its.toArray 0)).objs.size ≤ _; rw [kS]; exact Nat.le_refl _) nK
  have gK : ((h2.push (seqObj "tuple" its.toArray 0)).push (seqObj "list" #[] 0)).get? (h2.objs.size + 1) = some (seqObj "list" #[] 0) := by
    rw [← kS]
    exact Heap.get?_push_size _ rfl
  have gD : ((h2.push (seqObj "tuple" its.toArray 0)).push (seqObj "list" #[] 0)).get? D = some (seqObj "list" #[] c1) := Heap.get?_push_of_some _ (Heap.get?_push_of_some _ ho1)
  have hne : h2.objs.size + 1 ≠ D := by omega
  show wpAny _ _ (ksk_rest D (.ref (He.ga X.K x)) false its.toArray c1 (.ref (h2.push (seqObj "tuple" its.toArray 0)).objs.size)) _ _ _
  rw [kS]
  refine keyW_rest (pins := pins) (σ := σ) (F := F) (H := H) o hr hn (I4.pins_of (fun p hp => ?_)) fD fK hne hF rv hw hf hd hz2 fun s' H' F' out I' ex hn' hw' => ⟨rfl, .ref D, upd H' D (.lst out), I', rfl, ?_⟩
  · rcases List.mem_append.mp hp with z | z
    · exact I4.pin p (List.mem_append_right _ z)
    · simp only [List.mem_cons, List.not_mem_nil, or_false] at z
      rcases z with z | z
      · subst z
        exact ⟨gD, hDn, fD.2.1, fD.2.2.1, fun v h => by cases h⟩
      · subst z
        exact ⟨gK, nK, fK.2.1, fK.2.2.1, fun v h => by cases h⟩
  · have fD' : F' D = none := Same.free ex.fh hn'
    exact q D out F' _ (ex.wr hDn fD') hDn fD' upd_same hw'
/-- sorted(e, key=f) -/
theorem pe_sortedK {x : Str} {k n : Nat} {ps : List Str} {e : Expr} {t : TA} {p pos p2 p3 : Pos} (o : Ok X.prog X.w X.K X.mg X.base x k ps (spOrderKey n)) (hr : Room (k + 2) X.A) (hn : n ≤ 50) (hm : X.mg "sorted" = none) (ha : PA X [e] t) (hg : Gl X "sorted" := by rfl) (hx : Gl X x := by rfl)
    (hdb : (x == ("__debug__" : Str)) = false := by decide)
    (he : backTo pos (starEach [e] X.env) = (false, eval e X.env) :: backTo pos (starEach [] X.env) := by rfl) (hpl : (backTo pos (starEach [e] X.env)).any (·.1) = false := by rfl)
    (hall : (backToKw pos (keywordEach [⟨some "key", .Name x p2, p3⟩] X.env)).all (·.1.isSome) = true := by rfl) (hnone : (backToKw pos (keywordEach [⟨some "key", .Name x p2, p3⟩] X.env)).any (·.1.isNone) = false := by rfl)
    (hks : (backToKw pos (keywordEach [⟨some "key", .Name x p2, p3⟩] X.env)).filterMap (·.1) = [Str.ofString "key"] := by rfl) :
    PE X (.Call (.Name "sorted" p) [e] [⟨some "key", .Name x p2, p3⟩] pos) (tCKw (rSortedW X.K x n) t (tCons (tC (.ref (He.ga X.K x))) tNil)) := by
  have hmx : X.mg x = some (.ref (He.ga X.K x)) := by
    obtain ⟨fd, h, _⟩ := o
    exact h
  exact pe_callBK (cr_sortedW o hr hn) hg hm (by decide +kernel) ha (pk_cons (pe_glob hx hmx rfl hdb) pk_nil) (by decide) (by decide) he hpl hall hnone hks
end
end Ly

namespace Ly
open PySem PySem.Spec PyProof.Rows L2
/-! ### a dict whose keys are words that are tuples -/
abbrev Ent := W × Addr × Value
def DNO (P : Program) (w : World) (d : Addr) (xs : List Ent) : HO := .ext fun h => xs.length ≤ sizeLine ∧ (d == sysModules) = false ∧
  ∃ o es ep, h.get? d = some o ∧ o.ExactDict ∧ o.data = .dict es ep ∧ es.toList = xs.map (entryOfKey (nestedKind P w)) ∧ (xs.map (·.1)).Nodup
/-- it is tracked, and its keys are -/
structure DN (P : Program) (w : World) (H : Hp) (d : Addr) (xs : List Ent) : Prop where
  at' : H d = some (DNO P w d xs)
  keys : ∀ x ∈ xs, Wk H x.1 (.ref x.2.1) ∧ x.1.depth ≤ 8
section
variable {P : Program} {w : World} {H : Hp} {h : Heap} {d : Addr} {xs : List Ent}
theorem dno_ok (z : xs.length ≤ sizeLine) (hd : (d == sysModules) = false) (dd : h.DictOfH (nestedKind P w) d xs) : ObjOk P w H h d (DNO P w d xs) := by
  obtain ⟨o, es, ep, h1, h2, h3, h4, h5, h6⟩ := dd
  refine ⟨⟨z, hd, o, es, ep, h1, h2, h3, h4, h6⟩, ⟨o, h1⟩, ?_⟩
  rintro g1 g2 ⟨a1, a2, o', es', ep', b1, b2⟩ k
  exact ⟨a1, a2, o', es', ep', k _ b1, b2⟩
theorem dno_empty (h : Heap) (hb : sysModules < h.objs.size) : ObjOk P w H (h.push { cls := .type "dict", data := .dict #[] }) h.objs.size (DNO P w h.objs.size []) :=
  dno_ok (Nat.zero_le _) (by
    cases z : (h.objs.size == sysModules) with
    | false => rfl
    | true =>
      have := eq_of_beq z
      rw [this] at hb
      exact absurd hb (Nat.lt_irrefl _)) (Heap.DictOfH.new h)
/-- a tracked word that is a tuple is a key -/
theorem wk_is {k : W} {b : Addr} (ok : HOk P w H h) (e : Wk H k (.ref b)) (dp : k.depth ≤ 8) : (nestedKind P w).is h k b := ⟨(wk_plain (Same.refl H) ok e rfl).nested, dp⟩
theorem dn_of (ok : HOk P w H h) (e : DN P w H d xs) : xs.length ≤ sizeLine ∧ (d == sysModules) = false ∧ h.DictOfH (nestedKind P w) d xs := by
  obtain ⟨⟨z, y, o, es, ep, h1, h2, h3, h4, h5⟩, _⟩ := (show ObjOk P w H h d (DNO P w d xs) from ok d _ e.at')
  exact ⟨z, y, o, es, ep, h1, h2, h3, h4, fun x hx => wk_is ok (e.keys x hx).1 (e.keys x hx).2, h5⟩
theorem dnod_len (xs : List Ent) (k : W) (b : Addr) (v : Value) : (storedH xs k b v).length ≤ xs.length + 1 := by
  unfold storedH
  split <;> simp
end
/-- d[k] = True by a comprehension -/
theorem dn_set {X : Cx} {pn : List (Addr × Obj)} {τ : L2.St} {H : Hp} {s : Shared} {E : Value → Shared → Prop} {d b : Addr} {xs : List Ent} {k : W} {r : Value} {Q : Unit → Shared → Prop} (J : Inv X pn τ H s) (hu : X.A.units + 64 < cLine) (dn : DN X.prog X.w H d xs) (hz : xs.length < sizeLine)
    (wk : Wk H k (.ref b)) (dp : k.depth ≤ 8) (h : ∀ s2, Inv X pn τ (upd H d (DNO X.prog X.w d (storedH xs k b r))) s2 → Q () s2) : wpAny (model X.prog X.w) X.A (dictSet d (.ref b) r) Q E s := by
  obtain ⟨z, hd, dd⟩ := dn_of J.hok dn
  have hl : (storedH xs k b r).length ≤ sizeLine := by have := dnod_len xs k b r; omega
  refine wpAny_dictSet_heap (hsz := z) (knd := nestedKind X.prog X.w) (by show X.A.units + 8 < cLine; omega) (wk_is J.hok wk dp) dd fun h2 dd2 hs => h _ ?_
  have he : ∃ q, h2.get? d = some q := let ⟨q, _, _, hq, _⟩ := dd2; ⟨q, hq⟩
  exact d_write J (by rw [dn.at']; exact True.intro) hs he (dno_ok hl hd dd2)
/-- len(d) -/
def rLenN (P : Program) (w : World) : List V → Hp → VK → Prop := fun vs H Q => ∃ a xs, vs = [.ref a] ∧ DN P w H a xs ∧ Q (.int xs.length) H
theorem call_lenN {X : Cx} : CallR X (.builtin "len") (rLenN X.prog X.w) := by
  rintro pn s τ H vs us Q J r ⟨a, xs, rfl, dn, q⟩
  cases r with
  | cons r0 r1 =>
    cases r1
    cases (show _ = Value.ref a from r0)
    obtain ⟨z, hd, dd⟩ := dn_of J.hok dn
    have dk : s.heap.DictKeyed (nestedKind X.prog X.w) a (pairsH xs) := ⟨xs, dd, rfl⟩
    rw [sizeLine_eq] at z
    refine Calls.call_function_entry kind_len plain_len entry_len (args_len1 _) ?_
    unfold Builtin.«len»
    refine wpAny_bind (m := oneArg "len" _) (wpAny_pure ?_)
    refine wpAny_bind (m := callSpecial? (.ref a) (Str.ofString "__len__")) (wpAny_callSpecial?_slot (name := Str.ofString "__len__") dk.typeIs F.slot_dict_len (len_keyed hd dk ?_))
    show wpAny _ _ _ _ _ { s with toks := s.toks + 1 }
    rw [pairsH_length]
    refine wpAny_bind (wpAny_holding (wpAny_pure ?_))
    refine wpAny_bind (wpAny_letGo ?_)
    show wpAny _ _ (if ((xs.length : Nat) : Int) < 0 then _ else _) _ _ _
    rw [if_neg (by omega)]
    show wpAny _ _ (if ((xs.length : Nat) : Int) ≥ 2 ^ 63 then _ else _) _ _ _
    rw [if_neg (by omega)]
    exact wpAny_bind (wpAny_mkInt (wpAny_pure ⟨_, rfl, V.int xs.length, H, J.tok _, ⟨_, rfl⟩, q⟩))
/-- k in d -/
def rInN (P : Program) (w : World) : R2 := fun y x H Q => ∃ a b k xs, y = .ref b ∧ x = .ref a ∧ DN P w H a xs ∧ Wk H k (.ref b) ∧ k.depth ≤ 8 ∧ Q (.bl (atKey xs k).isSome) H
theorem op_inN {X : Cx} (hu : X.A.units + 64 < cLine) : OpR X (compareOp .In) (rInN X.prog X.w) := by
  rintro pn s τ H y x v u Q J ry rx ⟨a, b, k, xs, rfl, rfl, dn, wk, dp, q⟩
  cases (show _ = Value.ref a from rx)
  cases (show _ = Value.ref b from ry)
  obtain ⟨z, hd, dd⟩ := dn_of J.hok dn
  exact wpAny_in_heap (knd := nestedKind X.prog X.w) (by show X.A.units + 1 + 8 < cLine; omega) (wk_is J.hok wk dp) hd dd ⟨V.bl _, H, J.tok _, rfl, q⟩
section
variable {X : Cx}
/-- {k: True for .. in .. if ..}, the keys words -/
def tDcN (P : Program) (w : World) (wi : TI) (g : TG) (tt : TT) (tk tv : TE) (vs : List Nat) : TE := fun σ H Q => wi σ H fun Jt H1 => ∀ D, H1 D = none → ∃ Wq : Nat → Nat → Hp → Prop, (∃ m, Wq 0 m (upd H1 D (DNO P w D []))) ∧ ∀ i m H, Wq i m H →
  (Jt.stop i H ∧ Q (.ref D) H) ∨ (Jt.go i H ∧ ∃ Nx : Hp → Prop, (∀ H2, Nx H2 → ∃ m2, m2 < m ∧ Wq (i + 1) m2 H2) ∧ ∀ x H2, Jt.yld i H x H2 → g x (wipe σ vs) H2 fun σ2 H2 => wipe σ2 vs = wipe σ vs ∧ tt σ2 H2 fun b H3 =>
    if b = true then tk σ2 H3 fun y H4 => tv σ2 H4 fun z H5 => ∃ xs k b, y = .ref b ∧ z = .bl true ∧ Wk H5 k (.ref b) ∧ k.depth ≤ 8 ∧ DN P w H5 D xs ∧ xs.length < sizeLine ∧ Nx (upd H5 D (DNO P w D (storedH xs k b (.bool true)))) else Nx H3)
theorem dcN_core {pn : List (Addr × Obj)} {s : Shared} {τ : L2.St} {H : Hp} {Q : VK} {kX vX tg iter : Expr} {ifs : List Expr} {sco : Scope} {ows : List (Str × Nat)} {po pos' : Pos} {wi : TI} {g : TG} {tq : TT} {tk tv : TE} {uze : Option (Value → Sem Unit)} {Qf : Value → Shared → Prop}
    (hu : X.A.units + 64 < cLine) (hc : X.calm = true) (hN : X.N.Nodup) (I : Inv X pn τ H s) (hi : PI X tg iter wi) (okk : BlkOk X.N X.env.scope sco ows)
    (hg : ∀ (s : Shared) (H : Hp) (C : Addr) (cl : List (Str × Addr)) (fq : List Addr), PG (X.blk s H sco (compEnvC sco cl C X.env) fq) tg g) (ht : ∀ (s : Shared) (H : Hp) (C : Addr) (cl : List (Str × Addr)) (fq : List Addr), PTs (X.blk s H sco (compEnvC sco cl C X.env) fq) ifs tq)
    (hk : ∀ (s : Shared) (H : Hp) (C : Addr) (cl : List (Str × Addr)) (fq : List Addr), PE (X.blk s H sco (compEnvC sco cl C X.env) fq) kX tk)
    (he : ∀ (s : Shared) (H : Hp) (C : Addr) (cl : List (Str × Addr)) (fq : List Addr), PE (X.blk s H sco (compEnvC sco cl C X.env) fq) vX tv) (hs : ∀ x, foldedSetIterable iter X.env x = pure x)
    (h : tDcN X.prog X.w wi g tq tk tv (ows.map (·.2)) τ H Q)
    (hRR : ∀ D C sz m Gz, Inv X pn τ Gz sz → Q (.ref D) Gz → sz.heap.Ns C m → FpOk X pn Gz C → compPost (model X.prog X.w) X.A X.xe uze Qf (.ref D) C (.ok .next) sz) :
    wpAny (model X.prog X.w) X.A (comprehension (.DictComp kX vX [⟨tg, iter, ifs, 0⟩] sco po) sco X.env pos' newDict false (eval iter X.env) uze) Qf X.xe s := by
  have hfr : ∀ y ∈ sco.names, y.2 = .free → ∃ c, X.env.cells.lookup y.1 = some c := fun y hy e => by
    rcases okk.free y hy e with k | k
    · exact I.ok.has _ (.inl k)
    · exact I.ok.has _ (.inr k)
  refine wpAny_comprehension_free (use := uze) rfl hs (closure_ok hfr) okk.kind (fun y hy e => by rw [okk.uniq y hy, e])
    (thn (hi.run pn s τ H _ I h) fun xv sA hx => thn hx fun itv sB h2 => ?_)
  obtain ⟨it, fq, tn, J, G2, e, J2, T, sv2, f2, q⟩ := h2
  subst e
  refine wpAny_newObj_type (newEnv_comp ?_)
  generalize hD : sB.heap.objs.size = D
  have hDn : G2 D = none := J2.hok.fresh (Nat.le_of_eq hD)
  obtain ⟨Wq, ⟨m0, w0⟩, turn⟩ := q D hDn
  -- the new list
  generalize hs3 : ({ sB with heap := sB.heap.push { cls := .type "dict", data := .dict #[] } } : Shared) = sC
  have J3 : Inv X pn τ (upd G2 D (DNO X.prog X.w D [])) sC := by
    rw [← hs3]
    refine J2.laid (t' := sB.toks) (fun b o e => Heap.get?_push_of_some _ e) (Nat.le_of_eq hD) ?_
    rw [← hD]
    exact dno_empty sB.heap J2.big
  have h3 : sC.heap = sB.heap.push { cls := .type "dict", data := .dict #[] } := by rw [← hs3]
  have sz : ∀ b ∈ fq, b < sB.heap.objs.size := fun b hb => by
    obtain ⟨o, e, _⟩ := T.obj _ _ sv2 b hb
    exact Heap.lt_size e
  have f3 : ∀ b ∈ fq, FpOk X pn (upd G2 D (DNO X.prog X.w D [])) b ∧ b < sC.heap.objs.size := fun b hb => by
    have hlt := sz b hb
    refine ⟨⟨?_, (f2 b hb).2⟩, by rw [h3, Heap.size_push]; exact Nat.lt_succ_of_lt hlt⟩
    rw [upd_ne (by rw [← hD]; exact Nat.ne_of_lt hlt)]
    exact (f2 b hb).1
  have sv3 : tn 0 sC.heap := T.keep _ _ _ sv2 fun b _ o e => by rw [h3]; exact Heap.get?_push_of_some _ e
  have J4 := block_start J3 okk hN f3
  have pg := hg sC (upd G2 D (DNO X.prog X.w D [])) sC.heap.objs.size (cellsFrom (sC.heap.objs.size + 1) sco.names (cloFrom X.env.cells sco.names [])) fq
  have pt := ht sC (upd G2 D (DNO X.prog X.w D [])) sC.heap.objs.size (cellsFrom (sC.heap.objs.size + 1) sco.names (cloFrom X.env.cells sco.names [])) fq
  have pk := hk sC (upd G2 D (DNO X.prog X.w D [])) sC.heap.objs.size (cellsFrom (sC.heap.objs.size + 1) sco.names (cloFrom X.env.cells sco.names [])) fq
  have pe := he sC (upd G2 D (DNO X.prog X.w D [])) sC.heap.objs.size (cellsFrom (sC.heap.objs.size + 1) sco.names (cloFrom X.env.cells sco.names [])) fq
  show codeAny _ _ (.compStart (.DictComp kX vX [⟨tg, iter, ifs, 0⟩] sco po) 0 (.ref it) (.ref D) (compEnvC sco (cellsFrom (sC.heap.objs.size + 1) sco.names (cloFrom X.env.cells sco.names [])) sC.heap.objs.size X.env)) (compPost (model X.prog X.w) X.A X.xe uze Qf (.ref D) sC.heap.objs.size) { sC with heap := pushCells (sC.heap.push { cls := .type "dict", data := .dict #[] }) sco.names }
  have nfp : ∀ b ∈ fq, (upd G2 D (DNO X.prog X.w D [])) b = none := fun b hb => (f3 b hb).1.1
  generalize hce : compEnvC sco (cellsFrom (sC.heap.objs.size + 1) sco.names (cloFrom X.env.cells sco.names [])) sC.heap.objs.size X.env = cev at J4 pg pt pk pe ⊢
  have cL : cev.locals = sC.heap.objs.size := by subst hce; rfl
  generalize hH3 : upd G2 D (DNO X.prog X.w D []) = G3 at J3 J4 pg pt pk pe w0 nfp f3
  generalize hs4 : ({ sC with heap := pushCells (sC.heap.push { cls := .type "dict", data := .dict #[] }) sco.names } : Shared) = sD at J4 ⊢
  have sv4 : tn 0 sD.heap := T.keep _ _ _ sv3 fun b _ o e => by rw [← hs4]; exact pushCells_keeps _ _ _ _ (Heap.get?_push_of_some _ e)
  have stat : ∀ {τz : L2.St} {Gz : Hp} {sz : Shared}, Inv (X.blk sC G3 sco cev fq) [] τz Gz sz → (∀ b ∈ fq, Gz b = none) → ∀ b ∈ fq, FpOk (X.blk sC G3 sco cev fq) [] Gz b := fun {τz Gz sz} Jz hn b hb =>
    ⟨hn b hb, (Jz.ok.exf b hb).1, Jz.ok.exfs b hb, .inl hb, fun x c e => (Jz.ok.exf b hb).2 x c e, fun p hp => absurd (show p ∈ ([] : List (Addr × Obj)) ++ [] from hp) (by simp)⟩
  have loop : codeAny (model X.prog X.w) X.A (.compLoop (.DictComp kX vX [⟨tg, iter, ifs, 0⟩] sco po) 0 (.ref it) (.ref D) cev) (compPost (model X.prog X.w) X.A X.xe uze Qf (.ref D) sC.heap.objs.size) sD := by
    refine compLoop_anyD (fun n sz => ∃ i Gz, Inv (X.blk sC G3 sco cev fq) [] (wipe τ (ows.map (·.2))) Gz sz ∧ tn i sz.heap ∧ (∀ b ∈ fq, Gz b = none) ∧ Wq i n Gz) ?_ m0 ⟨0, G3, J4, sv4, nfp, w0⟩
    rintro n sE ⟨i, G5, J5, sv5, n5, w5⟩
    rcases turn i n G5 w5 with ⟨stop, qq⟩ | ⟨go, Nx, hNx, step⟩
    · have td := T.done (X.blk sC G3 sco cev fq) rfl rfl rfl hc i [] sE _ G5 (fun _ _ => False) J5 (stat J5 n5) sv5 stop
      refine thnF td fun r sF ⟨hr, J6⟩ => ?_
      subst hr
      -- back in the def's context
      have J7 : Inv X pn τ G5 sF := J3.call' (ch := fq) J6.os J6.base J6.hok J6.bare fun b hb => ⟨(f3 b hb).1.2.2.2.1, (f3 b hb).1.2.1, (f3 b hb).1.2.2.2.2.1, (f3 b hb).1.2.2.2.2.2⟩
      have nC : G5 sC.heap.objs.size = none := by
        have z : G5 cev.locals = none := J6.free
        rw [cL] at z
        exact z
      obtain ⟨m, hn, _⟩ := J6.loc
      have hn : sF.heap.Ns cev.locals m := hn
      rw [cL] at hn
      exact hRR D sC.heap.objs.size sF m G5 J7 qq hn (J3.fpOk (Nat.le_refl _) nC)
    · have ti := T.item (X.blk sC G3 sco cev fq) rfl rfl rfl hc i [] sE _ G5 (fun _ _ => False) J5 (stat J5 n5) sv5 go
      refine thnF ti fun r sF ⟨u, hr, h6⟩ => ?_
      subst hr
      refine thnF h6 fun _ sG ⟨x, G7, J7, r7, y7, sv7, n7⟩ => ?_
      have J7z := J7.pinned (stat J7 n7) (T.obj _ _ sv7)
      refine thnF (pg.run _ sG _ G7 x u _ J7z r7 (step x G7 y7)) fun _ sH ⟨τ8, G8, J8, hw8, q8⟩ => ?_
      refine thnF (pt.run _ sH τ8 G8 _ J8 q8) fun b sI ⟨G9, I9, q9⟩ => ?_
      -- the turn's end
      have fin : ∀ {sz : Shared} {Gz : Hp}, Inv (X.blk sC G3 sco cev fq) ([] ++ pinsAt fq sG.heap) τ8 Gz sz → Nx Gz → ∃ m, m < n ∧ ∃ i Gz, Inv (X.blk sC G3 sco cev fq) [] (wipe τ (ows.map (·.2))) Gz sz ∧ tn i sz.heap ∧ (∀ b ∈ fq, Gz b = none) ∧ Wq i m Gz := fun {sz Gz} Jz nx => by
        obtain ⟨m', hm, w'⟩ := hNx Gz nx
        have pin' : ∀ b ∈ fq, ∀ o, sG.heap.get? b = some o → sz.heap.get? b = some o ∧ Gz b = none := fun b hb o e =>
          let z := Jz.pin (b, o) (List.mem_append_right _ (List.mem_append_right _ (mem_pinsAt hb e)))
          ⟨z.1, z.2.1⟩
        have hl : (wipe τ (ows.map (·.2))).length = τ8.length := by rw [← hw8, wipe_length]
        refine ⟨m', hm, i + 1, Gz, (Jz.unpinned (pins := [])).weak hl (fun j v e => ?_), T.keep _ _ _ sv7 fun b hb o e => (pin' b hb o e).1, fun b hb => ?_, w'⟩
        · rw [← hw8] at e
          exact (wipe_some e).1
        · obtain ⟨o, e, _⟩ := T.obj _ _ sv7 b hb
          exact (pin' b hb o e).2
      cases b with
      | false =>
        simp only [Bool.false_eq_true, if_false] at q9 ⊢
        exact fin I9 q9
      | true =>
        simp only [if_true] at q9 ⊢
        refine thnF (pk.run _ sI τ8 G9 _ I9 q9) fun z sJ ⟨yk, G10, I10, r10, q10⟩ => ?_
        refine thnF (pe.run _ sJ τ8 G10 _ I10 q10) fun z2 sK ⟨yv, G11, I11, r11, xs, k, b, ey, ez, wk, dep, dn, small, nx⟩ => ?_
        subst ey ez
        cases (show z = Value.ref b from r10)
        cases (show z2 = Value.bool true from r11)
        exact dn_set (X := X.blk sC G3 sco cev fq) I11 (by show X.A.units + 64 < cLine; exact hu) dn small wk dep fun sL I12 => fin I12 nx
  exact codeAny_compStart_dict loop (T.self X.A 0 _ _ _ sv4 loop)
theorem pe_dcN {kX vX tg iter : Expr} {ifs : List Expr} {sco : Scope} {ows : List (Str × Nat)} {po : Pos} {wi : TI} {g : TG} {tq : TT} {tk tv : TE} (hu : X.A.units + 64 < cLine) (hc : X.calm = true) (hN : X.N.Nodup) (hi : PI X tg iter wi) (okk : BlkOk X.N X.env.scope sco ows)
    (hg : ∀ (s : Shared) (H : Hp) (C : Addr) (cl : List (Str × Addr)) (fq : List Addr), PG (X.blk s H sco (compEnvC sco cl C X.env) fq) tg g) (ht : ∀ (s : Shared) (H : Hp) (C : Addr) (cl : List (Str × Addr)) (fq : List Addr), PTs (X.blk s H sco (compEnvC sco cl C X.env) fq) ifs tq)
    (hk : ∀ (s : Shared) (H : Hp) (C : Addr) (cl : List (Str × Addr)) (fq : List Addr), PE (X.blk s H sco (compEnvC sco cl C X.env) fq) kX tk)
    (he : ∀ (s : Shared) (H : Hp) (C : Addr) (cl : List (Str × Addr)) (fq : List Addr), PE (X.blk s H sco (compEnvC sco cl C X.env) fq) vX tv) (hs : ∀ x, foldedSetIterable iter X.env x = pure x := by intro _; rfl) :
    PE X (.DictComp kX vX [⟨tg, iter, ifs, 0⟩] sco po) (tDcN X.prog X.w wi g tq tk tv (ows.map (·.2))) := by
  refine ⟨fun pn s τ H Q I h => ?_⟩
  rw [arm_eval_DictComp]
  refine dcN_core hu hc hN I hi okk hg ht hk he hs h fun D C sz m Gz Jz q hn f => ⟨m, hn, fun h'' sb => ?_⟩
  obtain ⟨f0, f1, f2, f3, f4, f5⟩ := f
  exact ⟨.ref D, Gz, Jz.turned (t' := sz.toks) (fun b o hb e => (sb.2 b hb).trans e) f0 f1 f3 f4 f5, rfl, q⟩
end
end Ly

namespace Ly
open PySem PySem.Spec PyProof.Rows L2
/-! ### each word once -/
def eOnce {α : Type} [DecidableEq α] (l : List α) : List α := l.foldl (fun acc k => if k ∈ acc then acc else acc ++ [k]) []
section
variable {α : Type} [DecidableEq α]
theorem eOnce_snoc (l : List α) (k : α) : eOnce (l ++ [k]) = if k ∈ eOnce l then eOnce l else eOnce l ++ [k] := by
  unfold eOnce
  rw [List.foldl_append]
  rfl
theorem eOnce_take {l : List α} {i : Nat} {k : α} (h : l[i]? = some k) : eOnce (l.take (i + 1)) = if k ∈ eOnce (l.take i) then eOnce (l.take i) else eOnce (l.take i) ++ [k] := by
  rw [List.take_add_one, h]
  exact eOnce_snoc _ _
theorem rev_ind {p : List α → Prop} (h0 : p []) (hs : ∀ l k, p l → p (l ++ [k])) : ∀ l, p l := by
  intro l
  have : ∀ m : List α, p m.reverse := by
    intro m
    induction m with
    | nil => exact h0
    | cons a m ih => rw [List.reverse_cons]; exact hs _ _ ih
  simpa using this l.reverse
theorem eOnce_mem : ∀ (l : List α) (k : α), k ∈ eOnce l ↔ k ∈ l := by
  refine rev_ind (by simp [eOnce]) fun l a ih k => ?_
  rw [eOnce_snoc]
  split
  · rename_i h
    have := (ih a).mp h
    rw [ih]
    constructor
    · intro z; simp [z]
    · intro z
      rcases List.mem_append.mp z with z | z
      · exact z
      · rw [List.mem_singleton.mp z]; exact this
  · simp [ih]
theorem eOnce_nodup : ∀ l : List α, (eOnce l).Nodup := by
  refine rev_ind (by simp [eOnce]) fun l a ih => ?_
  rw [eOnce_snoc]
  split
  · exact ih
  · rename_i h
    rw [List.nodup_append]
    refine ⟨ih, by simp, ?_⟩
    intro x hx y hy
    rw [List.mem_singleton.mp hy]
    rintro rfl
    exact h hx
theorem eOnce_le : ∀ l : List α, (eOnce l).length ≤ l.length := by
  refine rev_ind (by simp [eOnce]) fun l a ih => ?_
  rw [eOnce_snoc]
  split
  · simp; omega
  · simp; omega
theorem eOnce_self : ∀ l : List α, (eOnce l).length = l.length ↔ l.Nodup := by
  refine rev_ind (by simp [eOnce]) fun l a ih => ?_
  have q := eOnce_le l
  have m := eOnce_mem l a
  rw [eOnce_snoc, List.nodup_append]
  split
  · rename_i h
    constructor
    · intro z; simp at z; omega
    · rintro ⟨_, _, z⟩
      exact absurd rfl (z a (m.mp h) a (by simp))
  · rename_i h
    simp only [List.length_append, List.length_singleton]
    constructor
    · intro z
      refine ⟨ih.mp (by omega), by simp, ?_⟩
      intro x hx y hy
      rw [List.mem_singleton.mp hy]
      rintro rfl
      exact h (m.mpr hx)
    · rintro ⟨z, _, _⟩
      have := ih.mpr z
      omega
end
theorem atKey_some {xs : List Ent} {k : W} : (atKey xs k).isSome = decide (k ∈ xs.map (·.1)) := by
  unfold atKey
  rw [Option.isSome_map]
  induction xs with
  | nil => simp
  | cons x xs ih =>
    rw [List.find?_cons]
    by_cases h : x.1 = k
    · simp [h]
    · have h2 : ¬ k = x.1 := fun z => h z.symm
      simp only [h, decide_false]
      rw [ih]
      simp [h2]
theorem storedH_keys {xs : List Ent} {k : W} {b : Addr} {v : Value} : (storedH xs k b v).map (·.1) = if k ∈ xs.map (·.1) then xs.map (·.1) else xs.map (·.1) ++ [k] := by
  unfold storedH
  rw [atKey_some]
  by_cases h : k ∈ xs.map (·.1)
  · rw [if_pos h, if_pos (by simpa using h), List.map_map]
    apply List.map_congr_left
    intro x _
    show (putAt k v x).1 = x.1
    unfold putAt
    split <;> rfl
  · rw [if_neg h, if_neg (by simpa using h)]
    simp
theorem storedH_mem {xs : List Ent} {k : W} {b : Addr} {v : Value} {x : Ent} (h : x ∈ storedH xs k b v) : (∃ y ∈ xs, y.1 = x.1 ∧ y.2.1 = x.2.1) ∨ (x.1 = k ∧ x.2.1 = b) := by
  unfold storedH at h
  split at h
  · obtain ⟨y, hy, rfl⟩ := List.mem_map.mp h
    refine .inl ⟨y, hy, ?_⟩
    unfold putAt
    split <;> exact ⟨rfl, rfl⟩
  · rcases List.mem_append.mp h with h | h
    · exact .inl ⟨x, h, rfl, rfl⟩
    · rw [List.mem_singleton.mp h]; exact .inr ⟨rfl, rfl⟩
section
variable {P : Program} {w : World} {K : PySem.W.Frag}
theorem DN.up {H H2 : Hp} {d : Addr} {xs : List Ent} (h : Same H H2) (x : DN P w H d xs) : DN P w H2 d xs := ⟨h _ _ x.at', fun y hy => ⟨(x.keys y hy).1.up h, (x.keys y hy).2⟩⟩
/-- {k: True for .. in l} over a list that stands frozen: the keys, each once -/
theorem dcg_list {tl : TE} {a : Addr} {xs : List V} {g : TG} {tk : TE} {vs : List Nat} {σ : L2.St} {F H : Hp} {Q : VK} (hl : ∀ R : VK, R (.ref a) H → tl σ H R) (hx : F a = some (.lst xs)) (hF : Same F H) (hn : xs.length < sizeLine)
    (ks : List W) (hk : ks.length = xs.length) (dep : ∀ k ∈ ks, k.depth ≤ 8)
    (hs : ∀ (i : Nat) (x : V) (k : W) F1 H1 (Kk : VK), xs[i]? = some x → ks[i]? = some k → Ex [] F H F1 H1 → (∀ b F4 H4, Ex [] F1 H1 F4 H4 → Wk F4 k (.ref b) → Kk (.ref b) H4) → g x (wipe σ vs) H1 fun σ2 H2 => wipe σ2 vs = wipe σ vs ∧ tk σ2 H2 Kk)
    (hd : ∀ D es F1 H1, Ex [] F H F1 H1 → DN P w F1 D es → es.map (·.1) = eOnce ks → es.length = (eOnce ks).length → Q (.ref D) H1) : tDcN P w (iList K tl) g tYes tk (tC (.bl true)) vs σ H Q := by
  refine hl _ ⟨a, rfl, ⟨xs, SqL.of (hF _ _ hx)⟩, ?_⟩
  intro D hD
  have fD : F D = none := Same.free hF hD
  refine ⟨fun i m H1 => m = xs.length - i ∧ i ≤ xs.length ∧ ∃ es F1, Ex [] F H F1 H1 ∧ F1 D = none ∧ H1 D = some (DNO P w D es) ∧ (∀ x ∈ es, Wk F1 x.1 (.ref x.2.1) ∧ x.1.depth ≤ 8) ∧ es.map (·.1) = eOnce (ks.take i), ⟨xs.length, by simp, Nat.zero_le _, [], F, Ex.new hF hD, fD, upd_same, by simp, by simp [eOnce]⟩, ?_⟩
  rintro i m H1 ⟨rfl, hi, es, F1, e1, f1, d1, w1, p1⟩
  have l1 : es.length ≤ i := by
    have q := eOnce_le (ks.take i)
    rw [← p1] at q
    simp at q
    omega
  have sq : SqL K H1 a xs := SqL.of (e1.fh _ _ (e1.ff _ _ hx))
  by_cases hlt : i < xs.length
  · refine .inr ⟨⟨xs, xs[i], sq, by simp [hlt]⟩, fun H2 => ∃ es F2, Ex [] F H F2 H2 ∧ F2 D = none ∧ H2 D = some (DNO P w D es) ∧ (∀ x ∈ es, Wk F2 x.1 (.ref x.2.1) ∧ x.1.depth ≤ 8) ∧ es.map (·.1) = eOnce (ks.take (i + 1)), fun H2 q => ⟨xs.length - (i + 1), by omega, rfl, hlt, q⟩, fun x H2 y => ?_⟩
    obtain ⟨rfl, hx2⟩ := y
    have hx3 := hx2 xs sq
    have hi2 : i < ks.length := by omega
    have hki : ks[i]? = some ks[i] := by simp [hi2]
    have h3 := hs i x ks[i] F1 H2 (fun y H4 => ∃ es k b, y = .ref b ∧ V.bl true = .bl true ∧ Wk H4 k (.ref b) ∧ k.depth ≤ 8 ∧ DN P w H4 D es ∧ es.length < sizeLine ∧ ∃ es' F2, Ex [] F H F2 (upd H4 D (DNO P w D (storedH es k b (.bool true)))) ∧ F2 D = none ∧ upd H4 D (DNO P w D (storedH es k b (.bool true))) D = some (DNO P w D es') ∧ (∀ x ∈ es', Wk F2 x.1 (.ref x.2.1) ∧ x.1.depth ≤ 8) ∧ es'.map (·.1) = eOnce (ks.take (i + 1))) hx3 hki e1 (fun b F4 H4 e4 wk => by
      have f4 : F4 D = none := e4.nf f1 (ne_none d1)
      have dp : ks[i].depth ≤ 8 := dep _ (List.getElem_mem hi2)
      refine ⟨es, ks[i], b, rfl, rfl, wk.up e4.fh, dp, ⟨e4.at d1, fun z hz => ⟨((w1 z hz).1.up e4.ff).up e4.fh, (w1 z hz).2⟩⟩, by omega, storedH es ks[i] b (.bool true), F4, (e1.trans e4).wr hD f4, f4, upd_same, fun z hz => ?_, ?_⟩
      · rcases storedH_mem hz with ⟨y, hy, q1, q2⟩ | ⟨q1, q2⟩
        · have := w1 y hy
          rw [q1, q2] at this
          exact ⟨this.1.up e4.ff, this.2⟩
        · rw [q1, q2]; exact ⟨wk, dp⟩
      · rw [storedH_keys, p1, eOnce_take hki])
    exact h3
  · have ei : i = xs.length := by omega
    subst ei
    rw [List.take_of_length_le (by omega)] at p1
    refine .inl ⟨⟨xs, sq, Nat.le_refl _⟩, hd D es _ H1 (e1.frz hD d1 f1) ⟨upd_same, fun z hz => ⟨(w1 z hz).1.up (Same.upd f1), (w1 z hz).2⟩⟩ p1 (by rw [← p1]; simp)⟩
/-! ### loops -/
theorem forg_gen {Jt : It} {n : Nat} {G : Hp → Prop} {xs : List V} (wk : Walk Jt n G (YAt xs)) {g : TG} {tb : TS} {D : Ends} {σ : L2.St} {F H : Hp} (M : List Addr) (hF : Same F H) (hG : ∀ F' H', Same F F' → Same F' H' → G H') (I : Nat → L2.St → Hp → Hp → Prop) (h0 : I 0 σ F H)
    (hs : ∀ i x σ1 F1 H1 (Nk : L2.St → Hp → Prop), i < n → xs[i]? = some x → Ex M F H F1 H1 → I i σ1 F1 H1 → (∀ σ2 F2 H2, Ex M F1 H1 F2 H2 → I (i + 1) σ2 F2 H2 → Nk σ2 H2) → g x σ1 H1 fun σ2 H2 => tb { D with nx := Nk, ct := Nk, bk := D.nx } σ2 H2)
    (hd : ∀ σ1 F1 H1, Ex M F H F1 H1 → I n σ1 F1 H1 → D.nx σ1 H1) :
    ∃ W : Nat → Nat → L2.St → Hp → Prop, (∃ m, W 0 m σ H) ∧ ∀ i m σ H, W i m σ H →
      (Jt.stop i H ∧ D.nx σ H) ∨ (Jt.go i H ∧ ∃ N : L2.St → Hp → Prop, (∀ σ' H', N σ' H' → ∃ m', m' < m ∧ W (i + 1) m' σ' H') ∧ ∀ x H', Jt.yld i H x H' → g x σ H' fun σ2 H2 => tb { D with nx := N, ct := N, bk := D.nx } σ2 H2) :=
  for_it wk (fun i σ1 H1 => ∃ F1, Ex M F H F1 H1 ∧ I i σ1 F1 H1) ⟨F, Ex.refl hF, h0⟩ (fun i σ1 H1 _ ⟨F1, e, _⟩ => hG F1 H1 e.ff e.fh)
    (fun i x σ1 H1 H2 hi ⟨F1, e, p⟩ y => by
      obtain ⟨rfl, hx⟩ := y
      exact hs i x σ1 F1 H2 _ hi hx e p fun σ2 F2 H3 e2 p2 => ⟨F2, e.trans e2, p2⟩)
    fun σ1 H1 ⟨F1, e, p⟩ => hd σ1 F1 H1 e p
theorem forg_list {tl : TE} {a : Addr} {xs : List V} {g : TG} {tb : TS} {D : Ends} {σ : L2.St} {F H : Hp} (M : List Addr) (hl : ∀ R : VK, R (.ref a) H → tl σ H R) (hx : F a = some (.lst xs)) (hF : Same F H) (I : Nat → L2.St → Hp → Hp → Prop) (h0 : I 0 σ F H)
    (hs : ∀ i x σ1 F1 H1 (Nk : L2.St → Hp → Prop), i < xs.length → xs[i]? = some x → Ex M F H F1 H1 → I i σ1 F1 H1 → (∀ σ2 F2 H2, Ex M F1 H1 F2 H2 → I (i + 1) σ2 F2 H2 → Nk σ2 H2) → g x σ1 H1 fun σ2 H2 => tb { D with nx := Nk, ct := Nk, bk := D.nx } σ2 H2)
    (hd : ∀ σ1 F1 H1, Ex M F H F1 H1 → I xs.length σ1 F1 H1 → D.nx σ1 H1) : tFor (iList K tl) g tb D σ H :=
  r_for (hl _ ⟨a, rfl, ⟨xs, SqL.of (hF _ _ hx)⟩, forg_gen walk_listF M hF (fun F' H' h1 h2 => h2 _ _ (h1 _ _ hx)) I h0 hs hd⟩)
theorem forg_tup {tl : TE} {a : Addr} {xs : List V} {g : TG} {tb : TS} {D : Ends} {σ : L2.St} {F H : Hp} (M : List Addr) (hl : ∀ R : VK, R (.ref a) H → tl σ H R) (hx : F a = some (.tup xs)) (hF : Same F H) (I : Nat → L2.St → Hp → Hp → Prop) (h0 : I 0 σ F H)
    (hs : ∀ i x σ1 F1 H1 (Nk : L2.St → Hp → Prop), i < xs.length → xs[i]? = some x → Ex M F H F1 H1 → I i σ1 F1 H1 → (∀ σ2 F2 H2, Ex M F1 H1 F2 H2 → I (i + 1) σ2 F2 H2 → Nk σ2 H2) → g x σ1 H1 fun σ2 H2 => tb { D with nx := Nk, ct := Nk, bk := D.nx } σ2 H2)
    (hd : ∀ σ1 F1 H1, Ex M F H F1 H1 → I xs.length σ1 F1 H1 → D.nx σ1 H1) : tFor (iTup K tl) g tb D σ H :=
  r_for (hl _ ⟨a, rfl, ⟨xs, SqT.of (hF _ _ hx)⟩, forg_gen walk_tupF M hF (fun F' H' h1 h2 => h2 _ _ (h1 _ _ hx)) I h0 hs hd⟩)
theorem forg_rng {ta : TA} {n : Nat} {g : TG} {tb : TS} {D : Ends} {σ : L2.St} {F H : Hp} (M : List Addr) (hl : ∀ R : List V → Hp → Prop, R [.int n] H → ta σ H R) (hn : n < sizeLine) (hF : Same F H) (I : Nat → L2.St → Hp → Hp → Prop) (h0 : I 0 σ F H)
    (hs : ∀ i σ1 F1 H1 (Nk : L2.St → Hp → Prop), i < n → Ex M F H F1 H1 → I i σ1 F1 H1 → (∀ σ2 F2 H2, Ex M F1 H1 F2 H2 → I (i + 1) σ2 F2 H2 → Nk σ2 H2) → g (.int (i : Nat)) σ1 H1 fun σ2 H2 => tb { D with nx := Nk, ct := Nk, bk := D.nx } σ2 H2)
    (hd : ∀ σ1 F1 H1, Ex M F H F1 H1 → I n σ1 F1 H1 → D.nx σ1 H1) : tFor (iRng1 ta) g tb D σ H := by
  have hz := sizeLine_eq
  refine r_for (hl _ ⟨_, rfl, by omega, by omega, ?_⟩)
  have e : ((n : Int).toNat) = n := by omega
  rw [e]
  refine forg_gen walk_rg M hF (fun _ _ _ _ => trivial) I h0 (fun i x σ1 F1 H1 Nk hi hx e1 p k => ?_) hd
  obtain ⟨_, rfl⟩ := rgL_get hx
  have := hs i σ1 F1 H1 Nk hi e1 p k
  simpa using this
/-- for i, x in enumerate(l) -/
theorem forg_enum {ta : TA} {a : Addr} {xs : List V} {g : TG} {tb : TS} {D : Ends} {σ : L2.St} {F H : Hp} (M : List Addr) (hl : ∀ R : List V → Hp → Prop, R [.ref a] H → ta σ H R) (hx : F a = some (.lst xs)) (hF : Same F H) (I : Nat → L2.St → Hp → Hp → Prop) (h0 : I 0 σ F H)
    (hs : ∀ i x T σ1 F1 H1 (Nk : L2.St → Hp → Prop), i < xs.length → xs[i]? = some x → Ex M F H F1 H1 → I i σ1 F1 H1 → H1 T = none → (∀ σ2 F2 H2, Ex M F1 (upd H1 T (.tup [.int (i : Nat), x])) F2 H2 → I (i + 1) σ2 F2 H2 → Nk σ2 H2) → g (.ref T) σ1 (upd H1 T (.tup [.int (i : Nat), x])) fun σ2 H2 => tb { D with nx := Nk, ct := Nk, bk := D.nx } σ2 H2)
    (hd : ∀ σ1 F1 H1, Ex M F H F1 H1 → I xs.length σ1 F1 H1 → D.nx σ1 H1) : tFor (iEnum K ta) g tb D σ H := by
  refine r_for (hl _ ⟨a, xs, rfl, SqL.of (hF _ _ hx), ?_⟩)
  refine for_it walk_enum (fun i σ1 H1 => ∃ F1, Ex M F H F1 H1 ∧ I i σ1 F1 H1) ⟨F, Ex.refl hF, h0⟩ (fun i σ1 H1 _ ⟨F1, e, _⟩ => SqL.of (e.fh _ _ (e.ff _ _ hx)))
    (fun i y σ1 H1 H2 hi ⟨F1, e, p⟩ yy => ?_) fun σ1 H1 ⟨F1, e, p⟩ => hd σ1 F1 H1 e p
  obtain ⟨T, x, z, rfl, hT, rfl, e1, e2⟩ := yy
  cases e1
  exact hs i z T σ1 F1 H1 _ hi e2 e p hT fun σ2 F2 H3 e3 p2 => ⟨F2, e.trans ((Ex.new e.fh hT).trans e3), p2⟩
end
/-! ### an own class -/
section
variable (P : Program) (w : World) (K : PySem.W.Frag) (mg : Str → Option Value) (base : Heap)
def OkM (f : Addr) (k : Nat) (ps : List Str) (sp : Sp) : Prop := ∃ fd, Binds K fd ps [] ∧ FnOk P w K mg base CX0 k f fd ps sp
end
section
variable {P : Program} {w : World} {K : PySem.W.Frag} {mg : Str → Option Value} {base : Heap}
theorem okm_of {x q : Str} {f : Addr} {params : Arguments} {body : List Stmt} {scope : Scope} {N ps : List Str} {k : Nat} {sp : Sp}
    (F : ∃ fd, FunD K x q params body scope [] [] f fd) (S : FnScope N ps scope)
    (hb : ∀ (kV doc pm : Value) (an : Option Addr) (cdv ct : Value) (us : List Value), us.length = ps.length → bindArgs (PySem.W.fnOf x q params body scope .none kV doc pm an cdv ct) ⟨us, []⟩ = pure (ps.zip us))
    (len : ∀ vs H Q E, sp vs H Q E → vs.length = ps.length)
    (hbody : ∀ (cdv : Value) (A : Around) (outer : List Env) (s : Shared) (H : Hp) (vs : List V) (Q : VK) (E : XK), Room k (A.deeper (envOfC q scope s.heap.objs.size f cdv)) → sp vs H Q E →
      ∃ t, PSs (cxOf CX0 P w K mg base N q scope f cdv A outer s H E).nox body t ∧ t { nx := fun _ H' => Q .non H', rt := Q } (start N vs) H) : OkM P w K mg base f (k + 1) ps sp := by
  obtain ⟨fd, F⟩ := F
  refine ⟨fd, F.bindsN hb, F.ok S len fun cdv A outer s H vs Q E hr h => ?_⟩
  obtain ⟨t, h1, h2⟩ := hbody cdv A outer s H vs Q E hr h
  exact ⟨t, h1.nox, h2⟩
end
section
variable {X : Cx}
theorem pe_mkO {x : Str} {f C : Addr} {k j : Nat} {ps : List Str} {sp : Sp} {e : Expr} {es : List Expr} {t : TA} {p pos : Pos} (M : Mk X.K C f) (o : OkM X.prog X.w X.K X.mg X.base f k ps sp) (hr : Room j X.A) (hm : X.mg x = some (.ref C)) (ha : PA X (e :: es) t) (hk : k + 1 ≤ j := by first | decide | omega) (hg : Gl X x := by rfl)
    (hdb : (x == ("__debug__" : Str)) = false := by decide) (he : starEach (e :: es) X.env = (false, eval e X.env) :: starEach es X.env := by rfl) (hpl : (backTo pos (starEach es X.env)).any (·.1) = false := by rfl) :
    PE X (.Call (.Name x p) (e :: es) [] pos) (tMake C sp [] E0 t) := by
  obtain ⟨fd, a, b⟩ := o
  exact pe_make M b (hr.mono hk) hg hm a .nil pass0 ha hdb he hpl
/-- len(o) by the class's own __len__ -/
def rLenO (C : Addr) (sp : Sp) : List V → Hp → VK → Prop := fun vs H Q => ∃ a dx fs, vs = [.ref a] ∧ H a = some (.ins C dx fs) ∧ sp [.ref a] H (fun v H2 => ∃ n : Nat, v = .int n ∧ n < sizeLine ∧ Q (.int n) H2) E0
theorem call_lenO {C f : Addr} {k j : Nat} {ps : List Str} {sp : Sp} (me : Meth X.K C "__len__" f) (o : OkM X.prog X.w X.K X.mg X.base f k ps sp) (hr : Room j X.A) (hk : k + 1 ≤ j := by first | decide | omega) : CallR X (.builtin "len") (rLenO C sp) := by
  rintro pn s τ H vs us Q J r ⟨a, dx, fs, rfl, ha, q⟩
  obtain ⟨fd, bi, FN⟩ := o
  cases r with
  | cons r0 r1 =>
    cases r1
    cases (show _ = Value.ref a from r0)
    obtain ⟨mA, J1, _⟩ := ins_get J.hok ha
    obtain ⟨od, J2, _⟩ := J1.look
    have sb : Room k X.A.in1 := (hr.mono hk).in1
    have z0 := sizeLine_eq
    refine Calls.call_function_entry kind_len plain_len entry_len (args_len1 _) ?_
    unfold Builtin.«len»
    refine wpAny_bind (m := oneArg "len" _) (wpAny_pure ?_)
    refine wpAny_bind (m := callSpecial? (.ref a) (Str.ofString "__len__")) (PySem.W.special_fn (name := Str.ofString "__len__") J.kIn J2 me.at_ (beq_iff_eq.mp me.fn) ?_)
    have e0 : Env0 X.prog X.w X.K X.mg X.base X.A.in1 X.stack s H := by
      have e := J.env0
      exact ⟨by show X.A.frames = _; exact e.frames, e.mod, e.bs, e.bsz, e.funs, e.frf, e.hok, e.bare⟩
    have hl := FN.len _ _ _ _ q
    have r2 : Vals [V.ref a] [Value.ref a] := .cons rfl .nil
    refine wpAny_call (codeAny_mono (FN.run X.A.in1 X.stack s H ⟨[.ref a], []⟩ [.ref a] [.ref a] _ E0 sb e0 (by
      have := bi s [.ref a] J.kIn (by simpa using hl)
      simpa using this) r2 q) fun r s2 hq => ?_)
    cases r with
    | error e => exact pass0 pn τ H s e s2 J hq
    | ok fl =>
      cases fl with
      | next => exact False.elim hq
      | brk => exact False.elim hq
      | cont => exact False.elim hq
      | ret u =>
        obtain ⟨v, H2, J3, rv, n, rfl, hn, q3⟩ := J.after hq
        obtain ⟨tk, rfl⟩ := (show ∃ t, u = Value.int n t from rv)
        refine wpAny_bind (wpAny_holding (wpAny_pure ?_))
        refine wpAny_bind (wpAny_letGo ?_)
        show wpAny _ _ (if ((n : Nat) : Int) < 0 then _ else _) _ _ _
        rw [if_neg (by omega)]
        show wpAny _ _ (if ((n : Nat) : Int) ≥ 2 ^ 63 then _ else _) _ _ _
        rw [if_neg (by omega)]
        exact wpAny_bind (wpAny_mkInt (wpAny_pure ⟨_, rfl, V.int n, H2, J3.tok _, ⟨_, rfl⟩, q3⟩))
end
/-! ### all that came new, frozen at once -/
def frzAll (H F1 H1 : Hp) : Hp := fun b => if (H b).isNone then H1 b else F1 b
theorem frzAll_new {H F1 H1 : Hp} {b : Addr} (h : H b = none) : frzAll H F1 H1 b = H1 b := by simp [frzAll, h]
theorem Ex.all {M : List Addr} {F H F1 H1 : Hp} (hF : Same F H) (e : Ex M F H F1 H1) : Ex M F H (frzAll H F1 H1) H1 where
  ff := fun b o z => by
    have h1 := hF b o z
    show (if (H b).isNone then H1 b else F1 b) = some o
    rw [h1]
    exact e.ff b o z
  fh := fun b o z => by
    unfold frzAll at z
    split at z
    · exact z
    · exact e.fh b o z
  hh := e.hh
  dm := e.dm
  fr := fun b z => by
    unfold frzAll at z
    cases hb : H b with
    | none => exact .inr rfl
    | some o =>
      rw [hb] at z
      rcases e.fr b z with q | q
      · exact .inl q
      · rw [hb] at q; cases q
theorem Ex.all_le {M : List Addr} {F H F1 H1 : Hp} (e : Ex M F H F1 H1) : Same F1 (frzAll H F1 H1) := fun b o z => by
  unfold frzAll
  split
  · exact e.fh b o z
  · exact z
end Ly

namespace Ly
open PySem PySem.Spec PyProof.Rows L2
/-! ### words compared -/
mutual
theorem eqv_data : ∀ a b : W, PyData.eqv a.data b.data = NestedKey.beq a b
  | .none, .none => rfl
  | .none, .num _ => rfl
  | .none, .text _ => rfl
  | .none, .tup _ => rfl
  | .num _, .none => rfl
  | .num _, .num _ => rfl
  | .num _, .text _ => rfl
  | .num _, .tup _ => rfl
  | .text _, .none => rfl
  | .text _, .num _ => rfl
  | .text _, .text _ => rfl
  | .text _, .tup _ => rfl
  | .tup _, .none => rfl
  | .tup _, .num _ => rfl
  | .tup _, .text _ => rfl
  | .tup xs, .tup ys => by
    have := eqv_datas xs ys
    simpa [NestedKey.data, PyData.eqv, NestedKey.beq] using this
theorem eqv_datas : ∀ a b : List W, PyData.eqvAll (NestedKey.datas a) (NestedKey.datas b) = NestedKey.beqAll a b
  | [], [] => rfl
  | [], _ :: _ => rfl
  | _ :: _, [] => rfl
  | x :: xs, y :: ys => by
    have h1 := eqv_data x y
    have h2 := eqv_datas xs ys
    simp only [NestedKey.datas, PyData.eqvAll, NestedKey.beqAll, h1, h2]
end
theorem eqv_dec (a b : W) : PyData.eqv a.data b.data = decide (a = b) := by rw [eqv_data, NestedKey.decide_eq]
mutual
theorem wk_dp {K : PySem.W.Frag} {F H : Hp} (hF : Same F H) : ∀ {k : W} {v : V}, Wk F k v → Dp K H v k.data
  | .none, v, e => by
    simp only [Wk] at e
    subst e
    exact .non
  | .num i, v, e => by
    rw [wk_num.mp e]
    exact .int i
  | .text s, v, e => by
    rw [wk_text.mp e]
    exact .str s
  | .tup ks, v, e => by
    obtain ⟨a, vs, rfl, h1, h2, _⟩ := wk_tup.mp e
    exact .tup (SqT.of (hF _ _ h1)) (wks_dp hF h2)
theorem wks_dp {K : PySem.W.Frag} {F H : Hp} (hF : Same F H) : ∀ {ks : List W} {vs : List V}, Wks F ks vs → DpAll K H vs (NestedKey.datas ks)
  | [], vs, e => by
    rw [wks_nil.mp e]
    exact .nil
  | k :: ks, vs, e => by
    obtain ⟨v, r, rfl, e2, e3⟩ := wks_cons.mp e
    exact .cons (wk_dp hF e2) (wks_dp hF e3)
end
/-- a word that may be compared -/
structure Wok (k : W) : Prop where
  fl : full k = true
  lay : k.data.canLay0 = true
  dp : k.depth ≤ 3
theorem Wok.shaped {k : W} (h : Wok k) : SeqAt.shaped k.data = true := by
  unfold SeqAt.shaped
  rw [h.lay, depth_data]
  have := h.dp
  simp
  omega
theorem lay_datas : ∀ {ks : List W}, (∀ k ∈ ks, k.data.canLay0 = true) → PyData.canLayAll0 (NestedKey.datas ks) = true
  | [], _ => rfl
  | k :: ks, h => by
    simp only [NestedKey.datas, PyData.canLayAll0, Bool.and_eq_true]
    exact ⟨h k (by simp), lay_datas fun x hx => h x (by simp [hx])⟩
theorem dall_le {n : Nat} : ∀ {ks : List W}, (∀ k ∈ ks, k.depth ≤ n) → NestedKey.depthAll ks ≤ n
  | [], _ => Nat.zero_le _
  | k :: ks, h => by
    simp only [NestedKey.depthAll]
    have h1 := h k (by simp)
    have h2 := dall_le fun x hx => h x (List.mem_cons_of_mem _ hx)
    omega
theorem fulls_of : ∀ {ks : List W}, (∀ k ∈ ks, full k = true) → fulls ks = true
  | [], _ => rfl
  | k :: ks, h => by
    simp only [fulls, Bool.and_eq_true]
    exact ⟨h k (by simp), fulls_of fun x hx => h x (List.mem_cons_of_mem _ hx)⟩
/-- a list of such words (of depth 4 at most) -/
theorem shaped_list {ks : List W} (h1 : ∀ k ∈ ks, k.data.canLay0 = true) (h2 : ∀ k ∈ ks, k.depth ≤ 4) : SeqAt.shaped (.list (NestedKey.datas ks)) = true := by
  have a := lay_datas h1
  have b := dall_le h2
  have c := depths_datas ks
  unfold SeqAt.shaped
  simp only [PyData.canLay0, a, PyData.depth, c, Bool.true_and, decide_eq_true_eq]
  omega
theorem any_datas (k : W) : ∀ ks : List W, ((NestedKey.datas ks).any fun z => PyData.eqv z k.data) = decide (k ∈ ks)
  | [] => by simp [NestedKey.datas]
  | x :: xs => by
    simp only [NestedKey.datas, List.any_cons]
    rw [eqv_dec, any_datas k xs]
    by_cases h : x = k
    · simp [h]
    · have : ¬ k = x := fun z => h z.symm
      simp [h, this]
/-! ### roads -/
structure Rd where
  a : Nat
  b : Nat
  o : W
  i : W
namespace Rd
def w (r : Rd) : W := .tup [.num r.a, .num r.b, r.o, r.i]
def un : W → Rd
  | .tup [.num a, .num b, o, i] => ⟨a.toNat, b.toNat, o, i⟩
  | _ => ⟨0, 0, .none, .none⟩
theorem un_w (r : Rd) : un r.w = r := by
  unfold w un
  simp
theorem inj {r s : Rd} (h : r.w = s.w) : r = s := by rw [← un_w r, h, un_w]
instance : DecidableEq Rd := fun r s => decidable_of_iff (r.w = s.w) ⟨inj, fun h => by rw [h]⟩
def rev (r : Rd) : Rd := ⟨r.b, r.a, r.i, r.o⟩
theorem rev_rev (r : Rd) : r.rev.rev = r := rfl
/-- the end of a road, with its door -/
def ew (r : Rd) : W := .tup [.num r.a, r.o]
def sh (k : Nat) (r : Rd) : Rd := ⟨r.a + k, r.b + k, r.o, r.i⟩
structure OkN (n : Nat) (r : Rd) : Prop where
  ha : r.a < n
  hb : r.b < n
  ho : Wok r.o
  hi : Wok r.i
theorem OkN.rev {n : Nat} {r : Rd} (h : OkN n r) : OkN n r.rev := ⟨h.hb, h.ha, h.hi, h.ho⟩
theorem OkN.sh {n k : Nat} {r : Rd} (h : OkN n r) : OkN (n + k) (r.sh k) := ⟨by have := h.ha; show r.a + k < _; omega, by have := h.hb; show r.b + k < _; omega, h.ho, h.hi⟩
theorem OkN.mono {n m : Nat} {r : Rd} (h : OkN n r) (l : n ≤ m) : OkN m r := ⟨by have := h.ha; omega, by have := h.hb; omega, h.ho, h.hi⟩
theorem OkN.full {n : Nat} {r : Rd} (h : OkN n r) : full r.w = true := by simp [w, Ly.full, fulls, h.ho.fl, h.hi.fl]
theorem OkN.depth {n : Nat} {r : Rd} (h : OkN n r) : r.w.depth ≤ 4 := by
  have h1 := h.ho.dp
  have h2 := h.hi.dp
  simp [w, NestedKey.depth, NestedKey.depthAll]
  omega
theorem OkN.lay {n : Nat} {r : Rd} (h : OkN n r) : r.w.data.canLay0 = true := by simp [w, NestedKey.data, NestedKey.datas, PyData.canLay0, PyData.canLayAll0, h.ho.lay, h.hi.lay]
theorem OkN.shaped {n : Nat} {r : Rd} (h : OkN n r) : SeqAt.shaped r.w.data = true := by
  unfold SeqAt.shaped
  rw [h.lay, depth_data]
  have := h.depth
  simp
  omega
theorem wk {F : Hp} {r : Rd} {v : V} (h : Wk F r.w v) : ∃ p o i, v = .ref p ∧ F p = some (.tup [.int r.a, .int r.b, o, i]) ∧ Wk F r.o o ∧ Wk F r.i i := by
  obtain ⟨p, vs, rfl, h1, h2, _⟩ := wk_tup.mp h
  obtain ⟨v1, t1, rfl, q1, h2⟩ := wks_cons.mp h2
  obtain ⟨v2, t2, rfl, q2, h2⟩ := wks_cons.mp h2
  obtain ⟨v3, t3, rfl, q3, h2⟩ := wks_cons.mp h2
  obtain ⟨v4, t4, rfl, q4, h2⟩ := wks_cons.mp h2
  rw [wks_nil.mp h2] at h1
  rw [wk_num.mp q1, wk_num.mp q2] at h1
  exact ⟨p, v3, v4, rfl, h1, q3, q4⟩
/-- a road that is just laid -/
theorem wk_new {F : Hp} {p : Addr} {a b : Nat} {o i : W} {vo vi : V} (hp : F p = none) (h1 : Wk F o vo) (h2 : Wk F i vi) : Wk (upd F p (.tup [.int a, .int b, vo, vi])) (Rd.mk a b o i).w (.ref p) :=
  Ly.wk_new hp (.cons (wk_num.mpr rfl) (.cons (wk_num.mpr rfl) (.cons h1 (.one h2))))
end Rd
/-- a list of roads -/
abbrev Rds (F : Hp) (rs : List Rd) (vs : List V) : Prop := Wks F (rs.map Rd.w) vs
theorem Rds.get {F : Hp} {rs : List Rd} {vs : List V} {i : Nat} {v : V} (h : Rds F rs vs) (e : vs[i]? = some v) : ∃ r, rs[i]? = some r ∧ Wk F r.w v := by
  obtain ⟨k, h1, h2⟩ := Wks.get h e
  rw [List.getElem?_map] at h1
  obtain ⟨r, h3, rfl⟩ := Option.map_eq_some_iff.mp h1
  exact ⟨r, h3, h2⟩
theorem Rds.len {F : Hp} {rs : List Rd} {vs : List V} (h : Rds F rs vs) : vs.length = rs.length := by
  have := Wks.len h
  simpa using this
theorem Rds.app {F : Hp} {rs : List Rd} {vs : List V} {r : Rd} {v : V} (h : Rds F rs vs) (e : Wk F r.w v) : Rds F (rs ++ [r]) (vs ++ [v]) := by
  show Wks F ((rs ++ [r]).map Rd.w) _
  rw [List.map_append]
  exact Wks.app h (Wks.one e)
theorem perm_un {l : List W} {rs : List Rd} (h : l.Perm (rs.map Rd.w)) : ∃ rs' : List Rd, rs'.Perm rs ∧ l = rs'.map Rd.w := by
  refine ⟨l.map Rd.un, ?_, ?_⟩
  · have := h.map Rd.un
    rw [List.map_map] at this
    have e : (Rd.un ∘ Rd.w) = id := by funext r; exact Rd.un_w r
    rw [e, List.map_id] at this
    exact this
  · rw [List.map_map]
    symm
    have : ∀ x ∈ l, (Rd.w ∘ Rd.un) x = x := fun x hx => by
      obtain ⟨r, _, rfl⟩ := List.mem_map.mp (h.mem_iff.mp hx)
      show Rd.w (Rd.un r.w) = r.w
      rw [Rd.un_w]
    rw [List.map_congr_left this]
    simp
/-- words of roads, kept one by one -/
theorem mem_rds {n : Nat} {rs : List Rd} (h : ∀ r ∈ rs, r.OkN n) {k : W} (hk : k ∈ rs.map Rd.w) : full k = true ∧ k.depth ≤ 4 ∧ k.data.canLay0 = true := by
  obtain ⟨r, hr, rfl⟩ := List.mem_map.mp hk
  exact ⟨(h r hr).full, (h r hr).depth, (h r hr).lay⟩
end Ly

namespace Ly
open PySem PySem.Spec PyProof.Rows L2
theorem iteF' {c : Bool} {A B : Prop} (e : c = false) (h : B) : if c = true then A else B := by
  subst e
  exact iteF h
theorem iteT' {c : Bool} {A B : Prop} (e : c = true) (h : A) : if c = true then A else B := by
  subst e
  exact iteT h
/-- what was written came new: nothing that stood is written -/
theorem Ex.newly {M : List Addr} {F H F1 H1 F2 H2 : Hp} (a : Ex [] F H F1 H1) (b : Ex M F1 H1 F2 H2) (hM : ∀ p ∈ M, H p = none) : Ex [] F H F2 H2 where
  ff := Same.trans a.ff b.ff
  fh := b.fh
  hh := fun c o _ e => b.hh c o (fun z => by rw [hM c z] at e; cases e) (a.hh c o (by simp) e)
  dm := fun c e => b.dm c (a.dm c e)
  fr := fun c e => by
    rcases b.fr c e with h | h
    · exact a.fr c h
    · right
      cases z : H c with
      | none => rfl
      | some o => exact absurd h (a.dm c (ne_none z))
theorem Ex.newly' {M M' : List Addr} {F H F1 H1 F2 H2 : Hp} (a : Ex M' F H F1 H1) (b : Ex M F1 H1 F2 H2) (hM : ∀ p ∈ M, H p = none ∨ p ∈ M') : Ex M' F H F2 H2 where
  ff := Same.trans a.ff b.ff
  fh := b.fh
  hh := fun c o h e => b.hh c o (fun z => by
    rcases hM c z with q | q
    · rw [q] at e; cases e
    · exact h q) (a.hh c o h e)
  dm := fun c e => b.dm c (a.dm c e)
  fr := fun c e => by
    rcases b.fr c e with h | h
    · exact a.fr c h
    · right
      cases z : H c with
      | none => rfl
      | some o => exact absurd h (a.dm c (ne_none z))
/-! ### a net -/
def netFs (l1 l2 l3 l4 : Addr) : List (Str × V) := [("own_signs", .ref l1), ("own_roads", .ref l2), ("own_in", .ref l3), ("own_out", .ref l4)]
/-- lists of roads, by place -/
def Lots (F : Hp) (l : Addr) (n : Nat) (f : Nat → List Rd) : Prop := ∃ vs : List V, F l = some (.lst vs) ∧ vs.length = n ∧ ∀ k, k < n → ∃ q us, vs[k]? = some (.ref q) ∧ F q = some (.lst us) ∧ Rds F (f k) us
structure NetF (C : Addr) (F : Hp) (sg : List W) (rs : List Rd) (x : V) : Prop where
  ex : ∃ (a dx l1 l2 l3 l4 : Addr) (svs rvs : List V), x = .ref a ∧ F a = some (.ins C dx (netFs l1 l2 l3 l4)) ∧ F l1 = some (.lst svs) ∧ Wks F sg svs ∧ F l2 = some (.lst rvs) ∧ Rds F rs rvs ∧
    Lots F l3 sg.length (fun k => rs.filter fun r => decide (r.b = k)) ∧ Lots F l4 sg.length (fun k => rs.filter fun r => decide (r.a = k))
  pos : 0 < sg.length
  sml : sg.length < 100000
  sok : ∀ k ∈ sg, Wok k
  rok : ∀ r ∈ rs, r.OkN sg.length
  rsm : rs.length < 100000
theorem Lots.up {F F2 : Hp} (h : Same F F2) {l : Addr} {n : Nat} {f : Nat → List Rd} (x : Lots F l n f) : Lots F2 l n f := by
  obtain ⟨vs, a, b, c⟩ := x
  refine ⟨vs, h _ _ a, b, fun k hk => ?_⟩
  obtain ⟨q, us, d1, d2, d3⟩ := c k hk
  exact ⟨q, us, d1, h _ _ d2, Wks.up h d3⟩
theorem NetF.up {C : Addr} {F F2 : Hp} (h : Same F F2) {sg : List W} {rs : List Rd} {x : V} (n : NetF C F sg rs x) : NetF C F2 sg rs x := by
  obtain ⟨⟨a, dx, l1, l2, l3, l4, svs, rvs, e, h1, h2, h3, h4, h5, h6, h7⟩, p1, p2, p3, p4, p5⟩ := n
  exact ⟨⟨a, dx, l1, l2, l3, l4, svs, rvs, e, h _ _ h1, h _ _ h2, h3.up h, h _ _ h4, Wks.up h h5, h6.up h, h7.up h⟩, p1, p2, p3, p4, p5⟩
end Ly

namespace Ly
open PySem PySem.Spec PyProof.Rows L2
/-! ### lists within a list, each written further -/
structure LotG (qs : List Addr) (F H : Hp) (R : Nat → List V → Prop) : Prop where
  nd : qs.Nodup
  at' : ∀ j q, qs[j]? = some q → F q = none ∧ ∃ us, H q = some (.lst us) ∧ R j us
section
variable {qs : List Addr} {F H F2 H2 : Hp} {R R2 : Nat → List V → Prop} {M : List Addr}
theorem LotG.ex (l : LotG qs F H R) (e : Ex M F H F2 H2) (h : ∀ q ∈ qs, q ∉ M) (r : ∀ j us, R j us → R2 j us) : LotG qs F2 H2 R2 := by
  refine ⟨l.nd, fun j q hq => ?_⟩
  obtain ⟨a, us, b, c⟩ := l.at' j q hq
  exact ⟨e.nf a (ne_none b), us, e.at b (h q (List.mem_of_getElem? hq)), r j us c⟩
theorem nodup_at {α : Type} {l : List α} (h : l.Nodup) {i j : Nat} {x : α} (a : l[i]? = some x) (b : l[j]? = some x) : i = j := by
  obtain ⟨ha, ea⟩ := List.getElem?_eq_some_iff.mp a
  obtain ⟨hb, eb⟩ := List.getElem?_eq_some_iff.mp b
  have pw := List.pairwise_iff_getElem.mp h
  rcases Nat.lt_trichotomy i j with z | z | z
  · exact absurd (ea.trans eb.symm) (pw i j ha hb z)
  · exact z
  · exact absurd (eb.trans ea.symm) (pw j i hb ha z)
theorem LotG.put (l : LotG qs F H R) {j : Nat} {q : Addr} {us : List V} (hq : qs[j]? = some q) (h1 : R2 j us) (h2 : ∀ k us, k ≠ j → R k us → R2 k us) : LotG qs F (upd H q (.lst us)) R2 := by
  refine ⟨l.nd, fun k p hp => ?_⟩
  obtain ⟨a, vs, b, c⟩ := l.at' k p hp
  by_cases e : k = j
  · subst e
    rw [hq] at hp
    cases hp
    exact ⟨a, us, upd_same, h1⟩
  · refine ⟨a, vs, ?_, h2 k vs e c⟩
    rw [upd_ne]
    · exact b
    · rintro rfl
      exact e (nodup_at l.nd hp hq)
theorem LotG.app {qs ps : List Addr} {R' : Nat → List V → Prop} (l : LotG qs F H R) (m : LotG ps F H R') (hd : ∀ q ∈ qs, q ∉ ps) : LotG (qs ++ ps) F H (fun j us => if j < qs.length then R j us else R' (j - qs.length) us) := by
  refine ⟨?_, fun j q hq => ?_⟩
  · rw [List.nodup_append]
    exact ⟨l.nd, m.nd, fun a ha b hb z => hd a ha (by rw [z]; exact hb)⟩
  · by_cases h : j < qs.length
    · rw [List.getElem?_append_left h] at hq
      obtain ⟨a, us, b, c⟩ := l.at' j q hq
      exact ⟨a, us, b, by rw [if_pos h]; exact c⟩
    · rw [List.getElem?_append_right (by omega)] at hq
      obtain ⟨a, us, b, c⟩ := m.at' _ q hq
      exact ⟨a, us, b, by rw [if_neg h]; exact c⟩
theorem LotG.imp (l : LotG qs F H R) (r : ∀ j us, R j us → R2 j us) : LotG qs F H R2 := ⟨l.nd, fun j q hq => by
  obtain ⟨a, us, b, c⟩ := l.at' j q hq
  exact ⟨a, us, b, r j us c⟩⟩
end
/-- [[] for x in l] -/
theorem lcg_nils {K : PySem.W.Frag} {tl : TE} {a : Addr} {xs : List V} {j : Nat} {vs : List Nat} {σ : L2.St} {F H : Hp} {Q : VK} (hl : ∀ R : VK, R (.ref a) H → tl σ H R) (hx : F a = some (.lst xs)) (hF : Same F H) (hn : xs.length < sizeLine)
    (hw : ∀ x : V, wipe ((wipe σ vs).set j (some x)) vs = wipe σ vs)
    (hd : ∀ D qs H1, Ex [] F H F H1 → H D = none → H1 D = some (.lst (qs.map V.ref)) → qs.length = xs.length → D ∉ qs → (∀ q ∈ qs, H q = none) → LotG qs F H1 (fun _ us => us = []) → Q (.ref D) H1) :
    tLc (iList K tl) (gName j) tYes (tLst tNil) vs σ H Q := by
  refine hl _ ⟨a, rfl, ⟨xs, SqL.of (hF _ _ hx)⟩, ?_⟩
  intro D hD
  have fD : F D = none := Same.free hF hD
  refine lc_it walk_listF (fun i H1 => ∃ qs : List Addr, Ex [] F H F H1 ∧ H1 D = some (.lst (qs.map V.ref)) ∧ qs.length = i ∧ D ∉ qs ∧ (∀ q ∈ qs, H q = none) ∧ LotG qs F H1 (fun _ us => us = [])) ⟨[], Ex.new hF hD, upd_same, rfl, by simp, by simp, ⟨List.nodup_nil, by simp⟩⟩ (fun i H1 _ ⟨_, e, _⟩ => e.fh _ _ hx) ?_ ?_
  · rintro i x H1 H2 hi ⟨qs, e, d1, l1, d2, n1, lo⟩ ⟨rfl, hx2⟩
    refine ⟨hw x, Nat.zero_le _, fun p hp => ?_⟩
    have ep : Ex [] F H2 F (upd H2 p (.lst [])) := Ex.new e.fh hp
    have hpD : D ≠ p := ne_of_none d1 hp
    have hHp : H p = none := by
      cases z : H p with
      | none => rfl
      | some o => exact absurd hp (e.dm p (ne_none z))
    have d3 : (upd H2 p (.lst [])) D = some (.lst (qs.map V.ref)) := ep.at d1
    refine ⟨_, d3, by simp; omega, qs ++ [p], (e.trans ep).wr hD fD, by rw [upd_same]; simp, by simp [l1], by simp [d2, hpD], ?_, ?_⟩
    · intro q hq
      rcases List.mem_append.mp hq with z | z
      · exact n1 q z
      · rw [List.mem_singleton.mp z]; exact hHp
    · have lo2 := lo.ex ep (by simp) (R2 := fun _ us => us = []) (fun _ _ h => h)
      have pnew : p ∉ qs := fun z => by
        obtain ⟨k, hk⟩ := List.getElem?_of_mem z
        obtain ⟨_, us, b, _⟩ := lo.at' k p hk
        rw [hp] at b
        cases b
      refine ⟨?_, fun k q hq => ?_⟩
      · rw [List.nodup_append]
        exact ⟨lo.nd, by simp, fun x hx y hy z => pnew (by rw [← List.mem_singleton.mp hy, ← z]; exact hx)⟩
      · have qD : q ≠ D := by
          rintro rfl
          have := List.mem_of_getElem? hq
          simp [d2, hpD] at this
        rw [upd_ne qD]
        by_cases hk : k < qs.length
        · rw [List.getElem?_append_left hk] at hq
          exact lo2.at' k q hq
        · rw [List.getElem?_append_right (by omega)] at hq
          have : q = p := by
            rcases hk2 : k - qs.length with _ | m
            · rw [hk2] at hq; simpa using hq.symm
            · rw [hk2] at hq; simp at hq
          rw [this, upd_same]
          exact ⟨Same.free e.fh hp, [], rfl, rfl⟩
  · rintro H1 ⟨qs, e, d1, l1, d2, n1, lo⟩
    exact hd D qs H1 e hD d1 l1 d2 n1 lo
end Ly

namespace Ly
open PySem PySem.Spec PyProof.Rows L2
theorem Ex.drop {M : List Addr} {F H F2 H2 : Hp} (e : Ex M F H F2 H2) : Ex M F H F H2 := ⟨Same.refl F, fun b o z => e.fh b o (e.ff b o z), e.hh, e.dm, fun b z => .inl z⟩
/-! ### what is reached -/
inductive Rch (g : Nat → List Nat) (s : Nat) : Nat → Prop where
  | refl : Rch g s s
  | step {u v : Nat} : Rch g s u → v ∈ g u → Rch g s v
theorem nodup_sub {α : Type} [DecidableEq α] : ∀ {l m : List α}, l.Nodup → (∀ x ∈ l, x ∈ m) → l.length ≤ m.length
  | [], m, _, _ => Nat.zero_le _
  | a :: l, m, h, s => by
    have h2 := List.nodup_cons.mp h
    have am : a ∈ m := s a (by simp)
    have := nodup_sub (l := l) (m := m.erase a) h2.2 fun x hx => by
      have ne : x ≠ a := by
        rintro rfl
        exact h2.1 hx
      exact (List.mem_erase_of_ne ne).mpr (s x (by simp [hx]))
    rw [List.length_erase_of_mem am] at this
    have pos := List.length_pos_of_mem am
    simp only [List.length_cons]
    omega
theorem nodup_lt {l : List Nat} {n : Nat} (h : l.Nodup) (s : ∀ v ∈ l, v < n) : l.length ≤ n := by
  have := nodup_sub (m := List.range n) h fun x hx => List.mem_range.mpr (s x hx)
  simpa using this
theorem full_iff {l : List Nat} {n : Nat} (h : l.Nodup) (s : ∀ v ∈ l, v < n) : l.length = n ↔ ∀ v, v < n → v ∈ l := by
  constructor
  · intro e v hv
    by_cases z : v ∈ l
    · exact z
    · have := nodup_lt (l := v :: l) (n := n) (List.nodup_cons.mpr ⟨z, h⟩) fun x hx => by
        rcases List.mem_cons.mp hx with y | y
        · rw [y]; exact hv
        · exact s x y
      simp at this
      omega
  · intro a
    have h1 := nodup_lt h s
    have h2 := nodup_sub (l := List.range n) (m := l) List.nodup_range fun x hx => a x (List.mem_range.mp hx)
    simp at h2
    omega
theorem Rch.lt {g : Nat → List Nat} {n s v : Nat} (hs : s < n) (hg : ∀ u, u < n → ∀ v ∈ g u, v < n) (h : Rch g s v) : v < n := by
  induction h with
  | refl => exact hs
  | step _ hv ih => exact hg _ ih _ hv
/-- a set that is closed holds all that is reached -/
theorem Rch.sub {g : Nat → List Nat} {s v : Nat} {l : List Nat} (hs : s ∈ l) (hc : ∀ u ∈ l, ∀ v ∈ g u, v ∈ l) (h : Rch g s v) : v ∈ l := by
  induction h with
  | refl => exact hs
  | step _ hv ih => exact hc _ ih _ hv
theorem Rch.trans {g : Nat → List Nat} {s u v : Nat} (a : Rch g s u) (b : Rch g u v) : Rch g s v := by
  induction b with
  | refl => exact a
  | step _ hv ih => exact .step ih hv
theorem Rch.mono {g g' : Nat → List Nat} {s v : Nat} (h : ∀ u v, v ∈ g u → v ∈ g' u) (a : Rch g s v) : Rch g' s v := by
  induction a with
  | refl => exact .refl
  | step _ hv ih => exact .step ih (h _ _ hv)
/-- the other way round -/
theorem Rch.back {g g' : Nat → List Nat} {s v : Nat} (h : ∀ u v, v ∈ g u → u ∈ g' v) (a : Rch g s v) : Rch g' v s := by
  induction a with
  | refl => exact .refl
  | step _ hv ih => exact (Rch.step .refl (h _ _ hv)).trans ih
/-! ### the graphs of a net -/
def gOut (rs : List Rd) (u : Nat) : List Nat := (rs.filter fun r => decide (r.a = u)).map (·.b)
def gIn (rs : List Rd) (u : Nat) : List Nat := (rs.filter fun r => decide (r.b = u)).map (·.a)
def gAll : List Rd → Nat → List Nat
  | [], _ => []
  | r :: rs, u => (if r.a = u then [r.b] else []) ++ ((if r.b = u then [r.a] else []) ++ gAll rs u)
theorem gAll_app (rs ss : List Rd) (u : Nat) : gAll (rs ++ ss) u = gAll rs u ++ gAll ss u := by
  induction rs with
  | nil => rfl
  | cons r rs ih => simp [gAll, ih]
theorem mem_gOut {rs : List Rd} {u v : Nat} : v ∈ gOut rs u ↔ ∃ r ∈ rs, r.a = u ∧ r.b = v := by
  unfold gOut
  constructor
  · intro h
    obtain ⟨r, hr, e⟩ := List.mem_map.mp h
    rw [List.mem_filter] at hr
    exact ⟨r, hr.1, by simpa using hr.2, e⟩
  · rintro ⟨r, hr, e1, e2⟩
    exact List.mem_map.mpr ⟨r, List.mem_filter.mpr ⟨hr, by simpa using e1⟩, e2⟩
theorem mem_gIn {rs : List Rd} {u v : Nat} : v ∈ gIn rs u ↔ ∃ r ∈ rs, r.b = u ∧ r.a = v := by
  unfold gIn
  constructor
  · intro h
    obtain ⟨r, hr, e⟩ := List.mem_map.mp h
    rw [List.mem_filter] at hr
    exact ⟨r, hr.1, by simpa using hr.2, e⟩
  · rintro ⟨r, hr, e1, e2⟩
    exact List.mem_map.mpr ⟨r, List.mem_filter.mpr ⟨hr, by simpa using e1⟩, e2⟩
theorem mem_gAll {u v : Nat} : ∀ {rs : List Rd}, v ∈ gAll rs u ↔ ∃ r ∈ rs, (r.a = u ∧ r.b = v) ∨ (r.b = u ∧ r.a = v)
  | [] => by simp [gAll]
  | r :: rs => by
    have ih := mem_gAll (u := u) (v := v) (rs := rs)
    simp only [gAll, List.mem_append, ih]
    constructor
    · rintro (h | h | ⟨s, hs, h⟩)
      · split at h
        · rename_i e
          exact ⟨r, by simp, .inl ⟨e, (List.mem_singleton.mp h).symm⟩⟩
        · simp at h
      · split at h
        · rename_i e
          exact ⟨r, by simp, .inr ⟨e, (List.mem_singleton.mp h).symm⟩⟩
        · simp at h
      · exact ⟨s, by simp [hs], h⟩
    · rintro ⟨s, hs, h⟩
      rcases List.mem_cons.mp hs with e | e
      · subst e
        rcases h with ⟨h1, h2⟩ | ⟨h1, h2⟩
        · left; simp [h1, h2]
        · right; left; simp [h1, h2]
      · right; right; exact ⟨s, e, h⟩
/-! ### a dict of ints by a comprehension over one int -/
def ents (l : List Nat) : List (Key × V) := l.map fun (v : Nat) => ((Sum.inl (v : Int) : Key), V.bl true)
theorem ents_val (l : List Nat) (v : Nat) : (valV (ents l) (.inl (v : Int))).isSome = decide (v ∈ l) := by
  rw [← valV_any]
  unfold ents
  rw [List.any_map]
  induction l with
  | nil => simp
  | cons a l ih =>
    simp only [List.any_cons, ih, Function.comp]
    by_cases h : a = v
    · simp [h]
    · have h2 : ¬ v = a := fun z => h z.symm
      have h3 : ¬ ((Sum.inl (a : Int) : Key) = Sum.inl (v : Int)) := fun z => h (by
        have := Sum.inl.inj z
        omega)
      simp [h2, h3]
theorem ents_put {l : List Nat} {v : Nat} (h : v ∉ l) : putK (ents l) (.inl (v : Int)) (.bl true) = ents (l ++ [v]) := by
  rw [putK_new _ (by
    have := ents_val l v
    cases z : valV (ents l) (.inl (v : Int)) with
    | none => rfl
    | some o =>
      rw [z] at this
      simp [h] at this)]
  simp [ents]
theorem dc_one {K : PySem.W.Frag} {tl : TE} {a : Addr} {i : Nat} {j : Nat} {vs : List Nat} {σ : L2.St} {H : Hp} {Q : VK} (hl : ∀ R : VK, R (.ref a) H → tl σ H R) (hx : H a = some (.lst [.int (i : Nat)])) (hj : j < (wipe σ vs).length)
    (hw : ∀ x : V, wipe ((wipe σ vs).set j (some x)) vs = wipe σ vs) (hd : ∀ D, H D = none → Q (.ref D) (upd H D (.dK (ents [i])))) :
    tDc (iList K tl) (gName j) tYes (tVar j) (tC (.bl true)) vs σ H Q := by
  refine hl _ ⟨a, rfl, ⟨_, SqL.of hx⟩, fun D hD => ?_⟩
  refine ⟨fun k m H1 => (k = 0 ∧ m = 1 ∧ H1 = upd H D (.dK [])) ∨ (k = 1 ∧ m = 0 ∧ H1 = upd H D (.dK (ents [i]))), ⟨1, .inl ⟨rfl, rfl, rfl⟩⟩, ?_⟩
  have ha : a ≠ D := ne_of_none hx hD
  rintro k m H1 (⟨rfl, rfl, rfl⟩ | ⟨rfl, rfl, rfl⟩)
  · have sq : SqL K (upd H D (.dK [])) a [.int (i : Nat)] := SqL.of (by rw [upd_ne ha]; exact hx)
    refine .inr ⟨⟨_, _, sq, rfl⟩, fun H2 => H2 = upd H D (.dK (ents [i])), fun H2 e => ⟨0, by omega, .inr ⟨rfl, rfl, e⟩⟩, fun x H2 y => ?_⟩
    obtain ⟨rfl, y⟩ := y
    have ey := y _ sq
    cases ey
    refine ⟨hw _, ?_⟩
    refine ⟨.int (i : Nat), by simp [hj], [], .inl (i : Int), rfl, upd_same, by show 0 < sizeLine; rw [sizeLine_eq]; omega, ?_⟩
    rw [upd_upd]
    rfl
  · have sq : SqL K (upd H D (.dK (ents [i]))) a [.int (i : Nat)] := SqL.of (by rw [upd_ne ha]; exact hx)
    exact .inl ⟨⟨_, sq, Nat.le_refl _⟩, hd D hD⟩
end Ly

namespace Ly
open PySem PySem.Spec PyProof.Rows L2
section
variable {X : Cx}
theorem sw_trueD {ka va : Expr} {gs : List Comprehension} {sco : Scope} {po py : Pos} {y : Str} {l : Nat} {ev : Env} (hk : ev.scope.kind = .function) (hy : ev.scope.names.lookup y = some .local) (hl : (py.line == po.line) = true)
    (ha : (sco.names.any fun (n, k) => n == y && (k == .local || k == .cell)) = false) : swapsWith (.DictComp ka va gs sco po) (some (.Name y py)) l ev = pure true := by
  have k1 : ev.kindOf y = some .local := hy
  have k2 : ev.blockKind = .function := by unfold Env.blockKind; rw [hk]; rfl
  unfold swapsWith
  simp only [k2, k1, ha, Expr.pos, hl]
  rfl
/-- name = {.. for ..}, the name a local -/
theorem ps_setDc {i : Nat} {y : Str} {py : Pos} {ka va tgt itr : Expr} {fs : List Expr} {sco : Scope} {own : List (Str × Nat)} {po sp : Pos} {wi : TI} {g : TG} {tt : TT} {tk tv : TE} (hc : X.calm = true) (hN : X.N.Nodup) (hy : X.N[i]? = some y) (hyl : X.env.scope.names.lookup y = some .local)
    (hsw : swapsWith (.DictComp ka va [⟨tgt, itr, fs, 0⟩] sco po) (some (.Name y py)) sp.line X.env = pure true) (hi : PI X tgt itr wi) (okk : BlkOk X.N X.env.scope sco own)
    (h1 : ∀ (s : Shared) (H : Hp) (C : Addr) (cl : List (Str × Addr)) (fq : List Addr), PG (X.blk s H sco (compEnvC sco cl C X.env) fq) tgt g) (h2 : ∀ (s : Shared) (H : Hp) (C : Addr) (cl : List (Str × Addr)) (fq : List Addr), PTs (X.blk s H sco (compEnvC sco cl C X.env) fq) fs tt)
    (h3 : ∀ (s : Shared) (H : Hp) (C : Addr) (cl : List (Str × Addr)) (fq : List Addr), PE (X.blk s H sco (compEnvC sco cl C X.env) fq) ka tk)
    (h4 : ∀ (s : Shared) (H : Hp) (C : Addr) (cl : List (Str × Addr)) (fq : List Addr), PE (X.blk s H sco (compEnvC sco cl C X.env) fq) va tv) (h5 : ∀ x, foldedSetIterable itr X.env x = pure x := by intro _; rfl) :
    PS X (.Assign [.Name y py] (.DictComp ka va [⟨tgt, itr, fs, 0⟩] sco po) sp) (tAsg (tDc wi g tt tk tv (own.map (·.2))) (gName i)) := by
  refine ⟨fun pn s τ H D J h => ?_⟩
  rw [exec_Assign_Name_used _ _ _ _ hsw]
  refine wpAny_bind (wpAny_standAt (wpAny_bind ?_))
  rw [arm_evalThenUse_DictComp]
  have h' : tDc wi g tt tk tv (own.map (·.2)) τ H (fun x H1 => gName i x τ H1 D.nx) := h
  refine wpAny_bind (thn (dc_core (Qf := fun _ sz => SP X pn D .next sz) hc hN J hi okk h1 h2 h3 h4 h5 h' fun L C sz m Gz Jz q hn f => ?_) fun _ sz hq => wpAny_pure (wpAny_pure hq))
  show wpAny _ _ (assign (.Name y py) X.env (.ref L)) _ _ _
  refine wpAny_assign_Name (store_ok2 (v := V.ref L) Jz hN hy (.inl hyl) rfl (fun s2 J2 ⟨a, sb, ha⟩ => ?_) (.inr hyl))
  obtain ⟨f0, f1, f2, f3, f4, f5⟩ := f
  have neC : C ≠ a := by
    rcases ha with z | z
    · rw [z]; exact f1
    · exact fun e => f4 y a z e.symm
  refine ⟨m, hn.sameBut sb neC, fun g3 sb3 => ?_⟩
  exact ⟨_, Gz, J2.turned (t' := s2.toks) (fun b o hb e => (sb3.2 b hb).trans e) f0 f1 f3 f4 f5, q⟩
/-- .. its keys words -/
theorem ps_setDcN {i : Nat} {y : Str} {py : Pos} {ka va tgt itr : Expr} {fs : List Expr} {sco : Scope} {ows : List (Str × Nat)} {po sp : Pos} {wi : TI} {g : TG} {tq : TT} {tk tv : TE} (hu : X.A.units + 64 < cLine) (hc : X.calm = true) (hN : X.N.Nodup) (hy : X.N[i]? = some y) (hyl : X.env.scope.names.lookup y = some .local)
    (hsw : swapsWith (.DictComp ka va [⟨tgt, itr, fs, 0⟩] sco po) (some (.Name y py)) sp.line X.env = pure true) (hi : PI X tgt itr wi) (okk : BlkOk X.N X.env.scope sco ows)
    (h1 : ∀ (s : Shared) (H : Hp) (C : Addr) (cl : List (Str × Addr)) (fq : List Addr), PG (X.blk s H sco (compEnvC sco cl C X.env) fq) tgt g) (h2 : ∀ (s : Shared) (H : Hp) (C : Addr) (cl : List (Str × Addr)) (fq : List Addr), PTs (X.blk s H sco (compEnvC sco cl C X.env) fq) fs tq)
    (h3 : ∀ (s : Shared) (H : Hp) (C : Addr) (cl : List (Str × Addr)) (fq : List Addr), PE (X.blk s H sco (compEnvC sco cl C X.env) fq) ka tk)
    (h4 : ∀ (s : Shared) (H : Hp) (C : Addr) (cl : List (Str × Addr)) (fq : List Addr), PE (X.blk s H sco (compEnvC sco cl C X.env) fq) va tv) (h5 : ∀ x, foldedSetIterable itr X.env x = pure x := by intro _; rfl) :
    PS X (.Assign [.Name y py] (.DictComp ka va [⟨tgt, itr, fs, 0⟩] sco po) sp) (tAsg (tDcN X.prog X.w wi g tq tk tv (ows.map (·.2))) (gName i)) := by
  refine ⟨fun pn s τ H D J h => ?_⟩
  rw [exec_Assign_Name_used _ _ _ _ hsw]
  refine wpAny_bind (wpAny_standAt (wpAny_bind ?_))
  rw [arm_evalThenUse_DictComp]
  have h' : tDcN X.prog X.w wi g tq tk tv (ows.map (·.2)) τ H (fun x H1 => gName i x τ H1 D.nx) := h
  refine wpAny_bind (thn (dcN_core (Qf := fun _ sz => SP X pn D .next sz) hu hc hN J hi okk h1 h2 h3 h4 h5 h' fun L C sz m Gz Jz q hn f => ?_) fun _ sz hq => wpAny_pure (wpAny_pure hq))
  show wpAny _ _ (assign (.Name y py) X.env (.ref L)) _ _ _
  refine wpAny_assign_Name (store_ok2 (v := V.ref L) Jz hN hy (.inl hyl) rfl (fun s2 J2 ⟨a, sb, ha⟩ => ?_) (.inr hyl))
  obtain ⟨f0, f1, f2, f3, f4, f5⟩ := f
  have neC : C ≠ a := by
    rcases ha with z | z
    · rw [z]; exact f1
    · exact fun e => f4 y a z e.symm
  refine ⟨m, hn.sameBut sb neC, fun g3 sb3 => ?_⟩
  exact ⟨_, Gz, J2.turned (t' := s2.toks) (fun b o hb e => (sb3.2 b hb).trans e) f0 f1 f3 f4 f5, q⟩
end
end Ly

namespace Ly
open PySem PySem.Spec PyProof.Rows L2
/-- a comprehension over pairs, each pair a new tuple -/
theorem lc_pair {Jt : It} {n : Nat} {G : Hp → Prop} {fx fy : Nat → Option V} (wk : Walk Jt n G (YPair fx fy)) {g : TG} {tt : TT} {te : TE} {vs : List Nat} {σ : L2.St} {F H : Hp} {Q : VK} (hF : Same F H) (hn : n < sizeLine)
    (P : Nat → List V → Hp → Prop) (hP : ∀ k acc F F', Same F F' → P k acc F → P k acc F') (h0 : P 0 [] F) (hG : ∀ F' H', Same F F' → Same F' H' → G H')
    (hs : ∀ k x y t acc F1 H1 (Kk : VK) (Nk : Hp → Prop), k < n → fx k = some x → fy k = some y → Ex [] F H F1 (upd H1 t (.tup [x, y])) → P k acc F1 → acc.length ≤ k →
      (∀ z F4 H4, Ex [] F1 (upd H1 t (.tup [x, y])) F4 H4 → P (k + 1) (acc ++ [z]) F4 → Kk z H4) → (∀ F4 H4, Ex [] F1 (upd H1 t (.tup [x, y])) F4 H4 → P (k + 1) acc F4 → Nk H4) →
      g (.ref t) (wipe σ vs) (upd H1 t (.tup [x, y])) fun σ2 H2 => wipe σ2 vs = wipe σ vs ∧ tt σ2 H2 fun b H3 => if b = true then te σ2 H3 Kk else Nk H3)
    (hd : ∀ D acc F1 H1, Ex [] F H F1 H1 → H D = none → F1 D = none → H1 D = some (.lst acc) → P n acc F1 → acc.length ≤ n → Q (.ref D) H1) :
    ∀ D, H D = none → ∃ W : Nat → Nat → Hp → Prop, (∃ m, W 0 m (upd H D (.lst []))) ∧ ∀ i m H, W i m H →
      (Jt.stop i H ∧ Q (.ref D) H) ∨ (Jt.go i H ∧ ∃ Nx : Hp → Prop, (∀ H', Nx H' → ∃ m', m' < m ∧ W (i + 1) m' H') ∧ ∀ x H', Jt.yld i H x H' → g x (wipe σ vs) H' fun σ2 H2 => wipe σ2 vs = wipe σ vs ∧ tt σ2 H2 fun b H3 =>
        if b = true then te σ2 H3 fun y H4 => ∃ acc, H4 D = some (.lst acc) ∧ acc.length < sizeLine ∧ Nx (upd H4 D (.lst (acc ++ [y]))) else Nx H3) := by
  intro D hD
  have fD : F D = none := Same.free hF hD
  have e0 : Ex [] F H F (upd H D (.lst [])) := Ex.new hF hD
  refine lc_it wk (fun i H1 => ∃ acc F1, Ex [] F H F1 H1 ∧ F1 D = none ∧ H1 D = some (.lst acc) ∧ P i acc F1 ∧ acc.length ≤ i) ⟨[], F, e0, fD, upd_same, h0, Nat.le_refl _⟩ (fun i H1 _ ⟨acc, F1, e, _⟩ => hG F1 H1 e.ff e.fh) ?_ ?_
  · rintro i v H1 H2 hi ⟨acc, F1, e1, f1, d1, p1, l1⟩ ⟨t, x, y, rfl, ht, rfl, e2, e3⟩
    have et : Ex [] F1 H1 F1 (upd H1 t (.tup [x, y])) := Ex.new e1.fh ht
    have d2 := et.at d1
    refine hs i x y t acc F1 H1 _ _ hi e2 e3 (e1.trans et) p1 l1 (fun z F4 H4 e4 p4 => ?_) (fun F4 H4 e4 p4 => ?_)
    · have d4 : H4 D = some (.lst acc) := e4.at d2
      have f4 : F4 D = none := e4.nf f1 (ne_none d2)
      exact ⟨acc, d4, by omega, acc ++ [z], F4, ((e1.trans et).trans e4).wr hD f4, f4, upd_same, p4, by simp; omega⟩
    · exact ⟨acc, F4, (e1.trans et).trans e4, e4.nf f1 (ne_none d2), e4.at d2, p4, by omega⟩
  · rintro H1 ⟨acc, F1, e1, f1, d1, p1, l1⟩
    exact hd D acc F1 H1 e1 hD f1 d1 p1 l1
theorem lcg_zip {K : PySem.W.Frag} {ts : TA} {a b : Addr} {xs ys : List V} {n : Nat} {g : TG} {tt : TT} {te : TE} {vs : List Nat} {σ : L2.St} {F H : Hp} {Q : VK} (hl : ∀ R : List V → Hp → Prop, R [.ref a, .ref b] H → ts σ H R) (hx : F a = some (.lst xs)) (hy : F b = some (.lst ys)) (hnn : n = min xs.length ys.length) (hF : Same F H) (hn : n < sizeLine)
    (P : Nat → List V → Hp → Prop) (hP : ∀ k acc F F', Same F F' → P k acc F → P k acc F') (h0 : P 0 [] F)
    (hs : ∀ k x y t acc F1 H1 (Kk : VK) (Nk : Hp → Prop), k < n → xs[k]? = some x → ys[k]? = some y → Ex [] F H F1 (upd H1 t (.tup [x, y])) → P k acc F1 → acc.length ≤ k →
      (∀ z F4 H4, Ex [] F1 (upd H1 t (.tup [x, y])) F4 H4 → P (k + 1) (acc ++ [z]) F4 → Kk z H4) → (∀ F4 H4, Ex [] F1 (upd H1 t (.tup [x, y])) F4 H4 → P (k + 1) acc F4 → Nk H4) →
      g (.ref t) (wipe σ vs) (upd H1 t (.tup [x, y])) fun σ2 H2 => wipe σ2 vs = wipe σ vs ∧ tt σ2 H2 fun b H3 => if b = true then te σ2 H3 Kk else Nk H3)
    (hd : ∀ D acc F1 H1, Ex [] F H F1 H1 → H D = none → F1 D = none → H1 D = some (.lst acc) → P n acc F1 → acc.length ≤ n → Q (.ref D) H1) : tLc (iZip K ts) g tt te vs σ H Q :=
  hl _ ⟨a, b, xs, ys, rfl, SqL.of (hF _ _ hx), SqL.of (hF _ _ hy), lc_pair (walk_zip hnn) hF hn P hP h0 (fun F' H' g1 g2 => ⟨SqL.of (g2 _ _ (g1 _ _ hx)), SqL.of (g2 _ _ (g1 _ _ hy))⟩) hs hd⟩
end Ly

namespace Ly
open PySem PySem.Spec PyProof.Rows L2
/-! ### displays of words, and of lists of words -/
def okW (F : Hp) (d : Nat) (v : V) : Prop := ∃ k : W, full k = true ∧ k.data.canLay0 = true ∧ k.depth ≤ d ∧ Wk F k v
theorem okW.up {F F2 : Hp} {d : Nat} {v : V} (h : Same F F2) (x : okW F d v) : okW F2 d v := by
  obtain ⟨k, a, b, c, e⟩ := x
  exact ⟨k, a, b, c, e.up h⟩
theorem okW.mono {F : Hp} {d d2 : Nat} {v : V} (x : okW F d v) (h : d ≤ d2) : okW F d2 v := by
  obtain ⟨k, a, b, c, e⟩ := x
  exact ⟨k, a, b, Nat.le_trans c h, e⟩
theorem okW.wok {F : Hp} {v : V} (x : okW F 3 v) : ∃ k, Wok k ∧ Wk F k v := by
  obtain ⟨k, a, b, c, e⟩ := x
  exact ⟨k, ⟨a, b, c⟩, e⟩
theorem okWs_words {F : Hp} {d : Nat} : ∀ {vs : List V}, (∀ v ∈ vs, okW F d v) → ∃ ks : List W, Wks F ks vs ∧ ks.length = vs.length ∧ ∀ k ∈ ks, full k = true ∧ k.data.canLay0 = true ∧ k.depth ≤ d
  | [], _ => ⟨[], Wks.nil, rfl, by simp⟩
  | v :: vs, h => by
    obtain ⟨k, a, b, c, e⟩ := h v (by simp)
    obtain ⟨ks, h1, h2, h3⟩ := okWs_words (vs := vs) fun x hx => h x (by simp [hx])
    refine ⟨k :: ks, Wks.cons e h1, by simp [h2], fun x hx => ?_⟩
    rcases List.mem_cons.mp hx with z | z
    · rw [z]; exact ⟨a, b, c⟩
    · exact h3 x z
def okL (F : Hp) (d : Nat) (v : V) : Prop := ∃ (a : Addr) (xs : List V), v = .ref a ∧ F a = some (.lst xs) ∧ 0 < xs.length ∧ xs.length < 100 ∧ ∀ x ∈ xs, okW F d x
theorem okL.up {F F2 : Hp} {d : Nat} {v : V} (h : Same F F2) (x : okL F d v) : okL F2 d v := by
  obtain ⟨a, xs, e, h1, h2, h3, h4⟩ := x
  exact ⟨a, xs, e, h _ _ h1, h2, h3, fun y hy => (h4 y hy).up h⟩
def EvW (te : TE) (d : Nat) : Prop := ∀ (σ : L2.St) (F H : Hp) (Q : VK), Same F H → (∀ v F1 H1, Ex [] F H F1 H1 → okW F1 d v → Q v H1) → te σ H Q
def EvWs (ts : TA) (n d : Nat) : Prop := ∀ (σ : L2.St) (F H : Hp) (R : List V → Hp → Prop), Same F H → (∀ xs F1 H1, Ex [] F H F1 H1 → xs.length = n → (∀ x ∈ xs, okW F1 d x) → R xs H1) → ts σ H R
def EvLs (ts : TA) (n d : Nat) : Prop := ∀ (σ : L2.St) (F H : Hp) (R : List V → Hp → Prop), Same F H → (∀ xs F1 H1, Ex [] F H F1 H1 → xs.length = n → (∀ x ∈ xs, okL F1 d x) → R xs H1) → ts σ H R
theorem ev_int {d : Nat} (i : Int) : EvW (tC (.int i)) d := fun σ F H Q hF k => k _ F H (Ex.refl hF) ⟨.num i, rfl, rfl, Nat.zero_le _, wk_num.mpr rfl⟩
theorem ev_str {d : Nat} {s : Str} (h : PyData.canLay0 (.str s) = true := by decide +kernel) : EvW (tC (.str s)) d := fun σ F H Q hF k => k _ F H (Ex.refl hF) ⟨.text s, rfl, h, Nat.zero_le _, wk_text.mpr rfl⟩
theorem ev_nil {d : Nat} : EvWs tNil 0 d := fun σ F H R hF k => k [] F H (Ex.refl hF) rfl (by simp)
theorem ev_cons {te : TE} {ts : TA} {n d : Nat} (h1 : EvW te d) (h2 : EvWs ts n d) : EvWs (tCons te ts) (n + 1) d := fun σ F H R hF k =>
  r_cons (h1 σ F H _ hF fun v F1 H1 e1 w1 => h2 σ F1 H1 _ e1.fh fun xs F2 H2 e2 l2 w2 => k (v :: xs) F2 H2 (e1.trans e2) (by simp [l2]) fun x hx => by
    rcases List.mem_cons.mp hx with z | z
    · rw [z]; exact w1.up e2.ff
    · exact w2 x z)
theorem ev_tup {ts : TA} {n d : Nat} (h : EvWs ts n d) (hn : n < 1000 := by decide) : EvW (tTup ts) (d + 1) := fun σ F H Q hF k =>
  r_tup (h σ F H _ hF fun xs F1 H1 e1 l1 w1 => ⟨by rw [l1, sizeLine_eq]; omega, fun p hp => by
    obtain ⟨ks, h1, h2, h3⟩ := okWs_words w1
    have hp1 : F1 p = none := Same.free e1.fh hp
    refine k _ _ _ (e1.trans (Ex.newF e1.fh hp)) ⟨.tup ks, by simp [full, fulls_of fun z hz => (h3 z hz).1], by simp [NestedKey.data, PyData.canLay0, lay_datas fun z hz => (h3 z hz).2.1], ?_, wk_new hp1 h1 (by omega)⟩
    simp only [NestedKey.depth]
    have := dall_le (n := d) fun z hz => (h3 z hz).2.2
    omega⟩)
theorem evl_nil {d : Nat} : EvLs tNil 0 d := fun σ F H R hF k => k [] F H (Ex.refl hF) rfl (by simp)
theorem evl_cons {ts us : TA} {n m d : Nat} (h1 : EvWs ts m d) (h2 : EvLs us n d) (h0 : 0 < m := by decide) (hm : m < 100 := by decide) : EvLs (tCons (tLst ts) us) (n + 1) d := fun σ F H R hF k =>
  r_cons (r_lst (h1 σ F H _ hF fun xs F1 H1 e1 l1 w1 => ⟨by rw [l1, sizeLine_eq]; omega, fun p hp => by
    have e2 : Ex [] F1 H1 (upd F1 p (.lst xs)) (upd H1 p (.lst xs)) := Ex.newF e1.fh hp
    have ok : okL (upd F1 p (.lst xs)) d (.ref p) := ⟨p, xs, rfl, upd_same, by omega, by omega, fun x hx => (w1 x hx).up e2.ff⟩
    refine h2 σ _ _ _ e2.fh fun ys F3 H3 e3 l3 w3 => k (.ref p :: ys) F3 H3 (e1.trans (e2.trans e3)) (by simp [l3]) fun x hx => ?_
    rcases List.mem_cons.mp hx with z | z
    · rw [z]; exact ok.up e3.ff
    · exact w3 x z⟩))
/-- a list of lists of words, frozen -/
theorem ev_ll {ts : TA} {n d : Nat} (h : EvLs ts n d) {σ : L2.St} {F H : Hp} {Q : VK} (hF : Same F H) (k : ∀ a xs F1 H1, Ex [] F H F1 H1 → F1 a = some (.lst xs) → xs.length = n → (∀ x ∈ xs, okL F1 d x) → Q (.ref a) H1) (hn : n < 1000 := by decide) : tLst ts σ H Q :=
  r_lst (h σ F H _ hF fun xs F1 H1 e1 l1 w1 => ⟨by rw [l1, sizeLine_eq]; omega, fun p hp => by
    have e2 : Ex [] F1 H1 (upd F1 p (.lst xs)) (upd H1 p (.lst xs)) := Ex.newF e1.fh hp
    exact k p xs _ _ (e1.trans e2) upd_same l1 fun x hx => (w1 x hx).up e2.ff⟩)
/-- a list of words, frozen -/
theorem ev_l {ts : TA} {n d : Nat} (h : EvWs ts n d) {σ : L2.St} {F H : Hp} {Q : VK} (hF : Same F H) (k : ∀ a xs F1 H1, Ex [] F H F1 H1 → F1 a = some (.lst xs) → xs.length = n → (∀ x ∈ xs, okW F1 d x) → Q (.ref a) H1) (hn : n < 1000 := by decide) : tLst ts σ H Q :=
  r_lst (h σ F H _ hF fun xs F1 H1 e1 l1 w1 => ⟨by rw [l1, sizeLine_eq]; omega, fun p hp => by
    have e2 : Ex [] F1 H1 (upd F1 p (.lst xs)) (upd H1 p (.lst xs)) := Ex.newF e1.fh hp
    exact k p xs _ _ (e1.trans e2) upd_same l1 fun x hx => (w1 x hx).up e2.ff⟩)
/-- a frozen list of roads -/
def RL (m : Nat) (F : Hp) (n : Nat) (v : V) : Prop := ∃ p ys rs, v = .ref p ∧ F p = some (.lst ys) ∧ Rds F rs ys ∧ (∀ r ∈ rs, r.OkN n) ∧ rs.length ≤ m
theorem RL.up {m n : Nat} {F F2 : Hp} {v : V} (h : Same F F2) (x : RL m F n v) : RL m F2 n v := by
  obtain ⟨p, ys, rs, e, a, b, c, d⟩ := x
  exact ⟨p, ys, rs, e, h _ _ a, Wks.up h b, c, d⟩
theorem RL.le {m m2 n : Nat} {F : Hp} {v : V} (x : RL m F n v) (h : m ≤ m2) : RL m2 F n v := by
  obtain ⟨p, ys, rs, e, a, b, c, d⟩ := x
  exact ⟨p, ys, rs, e, a, b, c, Nat.le_trans d h⟩
end Ly

namespace T3
open PySem PySem.Spec PyProof.Rows L2 Ly
def top (i : Nat) : Stmt := PySem.Challenge.pw_samefromhere_k03_two_way_joined_strong.main.body.getD i (.Pass ⟨0, 0, 0, 0⟩)
abbrev s_is_two_way : Stmt := top 1
abbrev s_reached_from : Stmt := top 2
abbrev s_is_joined : Stmt := top 3
abbrev s_is_strong : Stmt := top 4
abbrev s_BadNets_init : Stmt := inClass (top 7) 0
abbrev s_BadRoads_init : Stmt := inClass (top 8) 0
abbrev s_BadSigns_init : Stmt := inClass (top 9) 0
abbrev s_is_list : Stmt := top 12
abbrev s_is_integer : Stmt := top 13
abbrev s_is_number : Stmt := top 14
abbrev s_is_word : Stmt := top 15
abbrev s_as_word : Stmt := top 16
abbrev s_order_key : Stmt := top 17
abbrev s_ascending : Stmt := top 18
abbrev s_checked_signs : Stmt := top 20
abbrev s_is_road : Stmt := top 21
abbrev s_checked_roads : Stmt := top 22
abbrev s_Net_init : Stmt := inClass (top 23) 0
abbrev s_Net_signs : Stmt := inClass (top 23) 1
abbrev s_Net_roads : Stmt := inClass (top 23) 2
abbrev s_Net_len : Stmt := inClass (top 23) 3
abbrev s_Net_eq : Stmt := inClass (top 23) 4
abbrev s_checked_nets : Stmt := top 25
abbrev s_beside : Stmt := top 26
abbrev s_backward : Stmt := top 27
abbrev s_law_start : Stmt := top 29
abbrev s_law_draw : Stmt := top 30
abbrev s_law_pick : Stmt := top 31
abbrev s_law_mixed : Stmt := top 32
abbrev s_law_same : Stmt := top 33
abbrev s_law_each_once : Stmt := top 34
abbrev s_law_n_signs : Stmt := top 35
abbrev s_law_n_crowd : Stmt := top 36
abbrev s_law_n_doors : Stmt := top 37
abbrev s_law_n_row : Stmt := top 38
abbrev s_law_n_net : Stmt := top 39
abbrev s_law_is_two_way : Stmt := top 40
abbrev s_law_reached : Stmt := top 41
abbrev s_law_all_right : Stmt := top 42
abbrev s_law_near : Stmt := top 43
abbrev s_law : Stmt := top 44
abbrev N_is_two_way : List Str := ["net", "ends", "one", "other", "out", "into", "end", "known", "road"]
theorem sc_is_two_way : FnScope N_is_two_way ["net"] (defScope s_is_two_way) := ⟨rfl, rfl, rfl, by decide +kernel, rfl, by decide +kernel, by decide +kernel⟩
abbrev N_reached_from : List Str := ["starts", "beyond", "found", "start", "waiting", "there"]
theorem sc_reached_from : FnScope N_reached_from ["starts", "beyond"] (defScope s_reached_from) := ⟨rfl, rfl, rfl, by decide +kernel, rfl, by decide +kernel, by decide +kernel⟩
abbrev N_is_joined : List Str := ["net", "beyond", "sign", "one", "other", "out", "into"]
theorem sc_is_joined : FnScope N_is_joined ["net"] (defScope s_is_joined) := ⟨rfl, rfl, rfl, by decide +kernel, rfl, by decide +kernel, by decide +kernel⟩
abbrev N_is_strong : List Str := ["net", "ahead", "road", "lot", "behind"]
theorem sc_is_strong : FnScope N_is_strong ["net"] (defScope s_is_strong) := ⟨rfl, rfl, rfl, by decide +kernel, rfl, by decide +kernel, by decide +kernel⟩
abbrev N_BadNets_init : List Str := ["self", "index"]
theorem sc_BadNets_init : FnScope N_BadNets_init ["self", "index"] (defScope s_BadNets_init) := ⟨rfl, rfl, rfl, by decide +kernel, rfl, by decide +kernel, by decide +kernel⟩
abbrev N_BadRoads_init : List Str := ["self", "index"]
theorem sc_BadRoads_init : FnScope N_BadRoads_init ["self", "index"] (defScope s_BadRoads_init) := ⟨rfl, rfl, rfl, by decide +kernel, rfl, by decide +kernel, by decide +kernel⟩
abbrev N_BadSigns_init : List Str := ["self", "index"]
theorem sc_BadSigns_init : FnScope N_BadSigns_init ["self", "index"] (defScope s_BadSigns_init) := ⟨rfl, rfl, rfl, by decide +kernel, rfl, by decide +kernel, by decide +kernel⟩
abbrev N_is_list : List Str := ["thing"]
theorem sc_is_list : FnScope N_is_list ["thing"] (defScope s_is_list) := ⟨rfl, rfl, rfl, by decide +kernel, rfl, by decide +kernel, by decide +kernel⟩
abbrev N_is_integer : List Str := ["thing"]
theorem sc_is_integer : FnScope N_is_integer ["thing"] (defScope s_is_integer) := ⟨rfl, rfl, rfl, by decide +kernel, rfl, by decide +kernel, by decide +kernel⟩
abbrev N_is_number : List Str := ["thing"]
theorem sc_is_number : FnScope N_is_number ["thing"] (defScope s_is_number) := ⟨rfl, rfl, rfl, by decide +kernel, rfl, by decide +kernel, by decide +kernel⟩
abbrev N_is_word : List Str := ["thing", "part"]
theorem sc_is_word : FnScope N_is_word ["thing"] (defScope s_is_word) := ⟨rfl, rfl, rfl, by decide +kernel, rfl, by decide +kernel, by decide +kernel⟩
abbrev N_as_word : List Str := ["thing", "part"]
theorem sc_as_word : FnScope N_as_word ["thing"] (defScope s_as_word) := ⟨rfl, rfl, rfl, by decide +kernel, rfl, by decide +kernel, by decide +kernel⟩
abbrev N_order_key : List Str := ["word", "part"]
theorem sc_order_key : FnScope N_order_key ["word"] (defScope s_order_key) := ⟨rfl, rfl, rfl, by decide +kernel, rfl, by decide +kernel, by decide +kernel⟩
abbrev N_ascending : List Str := ["words"]
theorem sc_ascending : FnScope N_ascending ["words"] (defScope s_ascending) := ⟨rfl, rfl, rfl, by decide +kernel, rfl, by decide +kernel, by decide +kernel⟩
abbrev N_checked_signs : List Str := ["signs", "index", "sign"]
theorem sc_checked_signs : FnScope N_checked_signs ["signs"] (defScope s_checked_signs) := ⟨rfl, rfl, rfl, by decide +kernel, rfl, by decide +kernel, by decide +kernel⟩
abbrev N_is_road : List Str := ["thing", "many", "end"]
theorem sc_is_road : FnScope N_is_road ["thing", "many"] (defScope s_is_road) := ⟨rfl, rfl, rfl, by decide +kernel, rfl, by decide +kernel, by decide +kernel⟩
abbrev N_checked_roads : List Str := ["roads", "many", "index", "thing"]
theorem sc_checked_roads : FnScope N_checked_roads ["roads", "many"] (defScope s_checked_roads) := ⟨rfl, rfl, rfl, by decide +kernel, rfl, by decide +kernel, by decide +kernel⟩
abbrev N_Net_init : List Str := ["self", "signs", "roads", "sign", "one", "other", "out", "into"]
theorem sc_Net_init : FnScope N_Net_init ["self", "signs", "roads"] (defScope s_Net_init) := ⟨rfl, rfl, rfl, by decide +kernel, rfl, by decide +kernel, by decide +kernel⟩
abbrev N_Net_signs : List Str := ["self"]
theorem sc_Net_signs : FnScope N_Net_signs ["self"] (defScope s_Net_signs) := ⟨rfl, rfl, rfl, by decide +kernel, rfl, by decide +kernel, by decide +kernel⟩
abbrev N_Net_roads : List Str := ["self"]
theorem sc_Net_roads : FnScope N_Net_roads ["self"] (defScope s_Net_roads) := ⟨rfl, rfl, rfl, by decide +kernel, rfl, by decide +kernel, by decide +kernel⟩
abbrev N_Net_len : List Str := ["self"]
theorem sc_Net_len : FnScope N_Net_len ["self"] (defScope s_Net_len) := ⟨rfl, rfl, rfl, by decide +kernel, rfl, by decide +kernel, by decide +kernel⟩
abbrev N_Net_eq : List Str := ["self", "other"]
theorem sc_Net_eq : FnScope N_Net_eq ["self", "other"] (defScope s_Net_eq) := ⟨rfl, rfl, rfl, by decide +kernel, rfl, by decide +kernel, by decide +kernel⟩
abbrev N_checked_nets : List Str := ["nets", "index", "thing"]
theorem sc_checked_nets : FnScope N_checked_nets ["nets"] (defScope s_checked_nets) := ⟨rfl, rfl, rfl, by decide +kernel, rfl, by decide +kernel, by decide +kernel⟩
abbrev N_beside : List Str := ["nets", "signs", "roads", "net", "far", "one", "other", "out", "into"]
theorem sc_beside : FnScope N_beside ["nets"] (defScope s_beside) := ⟨rfl, rfl, rfl, by decide +kernel, rfl, by decide +kernel, by decide +kernel⟩
abbrev N_backward : List Str := ["net", "one", "other", "out", "into"]
theorem sc_backward : FnScope N_backward ["net"] (defScope s_backward) := ⟨rfl, rfl, rfl, by decide +kernel, rfl, by decide +kernel, by decide +kernel⟩
abbrev N_law_start : List Str := ["_law_script"]
theorem sc_law_start : FnScope N_law_start ["_law_script"] (defScope s_law_start) := ⟨rfl, rfl, rfl, by decide +kernel, rfl, by decide +kernel, by decide +kernel⟩
abbrev N_law_draw : List Str := ["_law_stream", "_law_many", "_law_cell", "_law_digit", "_law_mixed_here"]
theorem sc_law_draw : FnScope N_law_draw ["_law_stream", "_law_many"] (defScope s_law_draw) := ⟨rfl, rfl, rfl, by decide +kernel, rfl, by decide +kernel, by decide +kernel⟩
abbrev N_law_pick : List Str := ["_law_stream", "_law_some"]
theorem sc_law_pick : FnScope N_law_pick ["_law_stream", "_law_some"] (defScope s_law_pick) := ⟨rfl, rfl, rfl, by decide +kernel, rfl, by decide +kernel, by decide +kernel⟩
abbrev N_law_mixed : List Str := ["_law_stream", "_law_some", "_law_left", "_law_k"]
theorem sc_law_mixed : FnScope N_law_mixed ["_law_stream", "_law_some"] (defScope s_law_mixed) := ⟨rfl, rfl, rfl, by decide +kernel, rfl, by decide +kernel, by decide +kernel⟩
abbrev N_law_same : List Str := ["_law_found", "_law_due", "_law_x", "_law_y"]
theorem sc_law_same : FnScope N_law_same ["_law_found", "_law_due"] (defScope s_law_same) := ⟨rfl, rfl, rfl, by decide +kernel, rfl, by decide +kernel, by decide +kernel⟩
abbrev N_law_each_once : List Str := ["_law_things", "_law_found", "_law_thing"]
theorem sc_law_each_once : FnScope N_law_each_once ["_law_things"] (defScope s_law_each_once) := ⟨rfl, rfl, rfl, by decide +kernel, rfl, by decide +kernel, by decide +kernel⟩
abbrev N_law_n_signs : List Str := ["_law_stream", "_law_many", "_law_some", "_law_k"]
theorem sc_law_n_signs : FnScope N_law_n_signs ["_law_stream", "_law_many"] (defScope s_law_n_signs) := ⟨rfl, rfl, rfl, by decide +kernel, rfl, by decide +kernel, by decide +kernel⟩
abbrev N_law_n_crowd : List Str := ["_law_stream", "_law_many", "_law_some", "_law_found", "_law_k", "_law_ends", "_law_more"]
theorem sc_law_n_crowd : FnScope N_law_n_crowd ["_law_stream", "_law_many"] (defScope s_law_n_crowd) := ⟨rfl, rfl, rfl, by decide +kernel, rfl, by decide +kernel, by decide +kernel⟩
abbrev N_law_n_doors : List Str := ["_law_stream", "_law_many", "_law_halves", "_law_free", "_law_found", "_law_k", "_law_one", "_law_other", "_law_is_half", "_law_out", "_law_into"]
theorem sc_law_n_doors : FnScope N_law_n_doors ["_law_stream", "_law_many", "_law_halves"] (defScope s_law_n_doors) := ⟨rfl, rfl, rfl, by decide +kernel, rfl, by decide +kernel, by decide +kernel⟩
abbrev N_law_n_row : List Str := ["_law_stream", "_law_many", "_law_far", "_law_order", "_law_k"]
theorem sc_law_n_row : FnScope N_law_n_row ["_law_stream", "_law_many"] (defScope s_law_n_row) := ⟨rfl, rfl, rfl, by decide +kernel, rfl, by decide +kernel, by decide +kernel⟩
abbrev N_law_n_net : List Str := ["_law_stream", "_law_most", "_law_many", "_law_signs", "_law_way", "_law_roads"]
theorem sc_law_n_net : FnScope N_law_n_net ["_law_stream", "_law_most"] (defScope s_law_n_net) := ⟨rfl, rfl, rfl, by decide +kernel, rfl, by decide +kernel, by decide +kernel⟩
abbrev N_law_is_two_way : List Str := ["_law_roads", "_law_ends", "_law_one", "_law_other", "_law_out", "_law_into"]
theorem sc_law_is_two_way : FnScope N_law_is_two_way ["_law_roads"] (defScope s_law_is_two_way) := ⟨rfl, rfl, rfl, by decide +kernel, rfl, by decide +kernel, by decide +kernel⟩
abbrev N_law_reached : List Str := ["_law_start_here", "_law_pairs", "_law_found", "_law_many", "_law_here", "_law_one", "_law_other"]
theorem sc_law_reached : FnScope N_law_reached ["_law_start_here", "_law_pairs"] (defScope s_law_reached) := ⟨rfl, rfl, rfl, by decide +kernel, rfl, by decide +kernel, by decide +kernel⟩
abbrev N_law_all_right : List Str := ["_law_net", "_law_signs", "_law_roads", "_law_ahead", "_law_road", "_law_behind", "_law_one", "_law_other", "_law_joined", "_law_strong", "_law_place"]
theorem sc_law_all_right : FnScope N_law_all_right ["_law_net", "_law_signs", "_law_roads"] (defScope s_law_all_right) := ⟨rfl, rfl, rfl, by decide +kernel, rfl, by decide +kernel, by decide +kernel⟩
abbrev N_law_near : List Str := ["_law_stream", "_law_signs", "_law_roads", "_law_at", "_law_way", "_law_one", "_law_other", "_law_out", "_law_into", "_law_rest", "_law_some"]
theorem sc_law_near : FnScope N_law_near ["_law_stream", "_law_signs", "_law_roads"] (defScope s_law_near) := ⟨rfl, rfl, rfl, by decide +kernel, rfl, by decide +kernel, by decide +kernel⟩
abbrev N_law : List Str := ["_law_script", "_law_stream", "_law_turn", "_law_signs", "_law_roads", "_law_some", "_law_net"]
theorem sc_law : FnScope N_law ["_law_script"] (defScope s_law) := ⟨rfl, rfl, rfl, by decide +kernel, rfl, by decide +kernel, by decide +kernel⟩
def d_is_two_way : He.DefD := ⟨("is_two_way", none), "is_two_way", "is_two_way", defArgs s_is_two_way, defBody s_is_two_way, defScope s_is_two_way, [], []⟩
def d_reached_from : He.DefD := ⟨("reached_from", none), "reached_from", "reached_from", defArgs s_reached_from, defBody s_reached_from, defScope s_reached_from, [], []⟩
def d_is_joined : He.DefD := ⟨("is_joined", none), "is_joined", "is_joined", defArgs s_is_joined, defBody s_is_joined, defScope s_is_joined, [], []⟩
def d_is_strong : He.DefD := ⟨("is_strong", none), "is_strong", "is_strong", defArgs s_is_strong, defBody s_is_strong, defScope s_is_strong, [], []⟩
def d_BadNets_init : He.DefD := ⟨("BadNets", some "__init__"), "__init__", "BadNets.__init__", defArgs s_BadNets_init, defBody s_BadNets_init, defScope s_BadNets_init, [], []⟩
def d_BadRoads_init : He.DefD := ⟨("BadRoads", some "__init__"), "__init__", "BadRoads.__init__", defArgs s_BadRoads_init, defBody s_BadRoads_init, defScope s_BadRoads_init, [], []⟩
def d_BadSigns_init : He.DefD := ⟨("BadSigns", some "__init__"), "__init__", "BadSigns.__init__", defArgs s_BadSigns_init, defBody s_BadSigns_init, defScope s_BadSigns_init, [], []⟩
def d_is_list : He.DefD := ⟨("is_list", none), "is_list", "is_list", defArgs s_is_list, defBody s_is_list, defScope s_is_list, [], []⟩
def d_is_integer : He.DefD := ⟨("is_integer", none), "is_integer", "is_integer", defArgs s_is_integer, defBody s_is_integer, defScope s_is_integer, [], []⟩
def d_is_number : He.DefD := ⟨("is_number", none), "is_number", "is_number", defArgs s_is_number, defBody s_is_number, defScope s_is_number, [], []⟩
def d_is_word : He.DefD := ⟨("is_word", none), "is_word", "is_word", defArgs s_is_word, defBody s_is_word, defScope s_is_word, [], []⟩
def d_as_word : He.DefD := ⟨("as_word", none), "as_word", "as_word", defArgs s_as_word, defBody s_as_word, defScope s_as_word, [], []⟩
def d_order_key : He.DefD := ⟨("order_key", none), "order_key", "order_key", defArgs s_order_key, defBody s_order_key, defScope s_order_key, [], []⟩
def d_ascending : He.DefD := ⟨("ascending", none), "ascending", "ascending", defArgs s_ascending, defBody s_ascending, defScope s_ascending, [], []⟩
def d_checked_signs : He.DefD := ⟨("checked_signs", none), "checked_signs", "checked_signs", defArgs s_checked_signs, defBody s_checked_signs, defScope s_checked_signs, [], []⟩
def d_is_road : He.DefD := ⟨("is_road", none), "is_road", "is_road", defArgs s_is_road, defBody s_is_road, defScope s_is_road, [], []⟩
def d_checked_roads : He.DefD := ⟨("checked_roads", none), "checked_roads", "checked_roads", defArgs s_checked_roads, defBody s_checked_roads, defScope s_checked_roads, [], []⟩
def d_Net_init : He.DefD := ⟨("Net", some "__init__"), "__init__", "Net.__init__", defArgs s_Net_init, defBody s_Net_init, defScope s_Net_init, [], []⟩
def d_Net_signs : He.DefD := ⟨("Net", some "signs"), "signs", "Net.signs", defArgs s_Net_signs, defBody s_Net_signs, defScope s_Net_signs, [], []⟩
def d_Net_roads : He.DefD := ⟨("Net", some "roads"), "roads", "Net.roads", defArgs s_Net_roads, defBody s_Net_roads, defScope s_Net_roads, [], []⟩
def d_Net_len : He.DefD := ⟨("Net", some "__len__"), "__len__", "Net.__len__", defArgs s_Net_len, defBody s_Net_len, defScope s_Net_len, [], []⟩
def d_Net_eq : He.DefD := ⟨("Net", some "__eq__"), "__eq__", "Net.__eq__", defArgs s_Net_eq, defBody s_Net_eq, defScope s_Net_eq, [], []⟩
def d_checked_nets : He.DefD := ⟨("checked_nets", none), "checked_nets", "checked_nets", defArgs s_checked_nets, defBody s_checked_nets, defScope s_checked_nets, [], []⟩
def d_beside : He.DefD := ⟨("beside", none), "beside", "beside", defArgs s_beside, defBody s_beside, defScope s_beside, [], []⟩
def d_backward : He.DefD := ⟨("backward", none), "backward", "backward", defArgs s_backward, defBody s_backward, defScope s_backward, [], []⟩
def d_law_start : He.DefD := ⟨("_law_start", none), "_law_start", "_law_start", defArgs s_law_start, defBody s_law_start, defScope s_law_start, [], []⟩
def d_law_draw : He.DefD := ⟨("_law_draw", none), "_law_draw", "_law_draw", defArgs s_law_draw, defBody s_law_draw, defScope s_law_draw, [], []⟩
def d_law_pick : He.DefD := ⟨("_law_pick", none), "_law_pick", "_law_pick", defArgs s_law_pick, defBody s_law_pick, defScope s_law_pick, [], []⟩
def d_law_mixed : He.DefD := ⟨("_law_mixed", none), "_law_mixed", "_law_mixed", defArgs s_law_mixed, defBody s_law_mixed, defScope s_law_mixed, [], []⟩
def d_law_same : He.DefD := ⟨("_law_same", none), "_law_same", "_law_same", defArgs s_law_same, defBody s_law_same, defScope s_law_same, [], []⟩
def d_law_each_once : He.DefD := ⟨("_law_each_once", none), "_law_each_once", "_law_each_once", defArgs s_law_each_once, defBody s_law_each_once, defScope s_law_each_once, [], []⟩
def d_law_n_signs : He.DefD := ⟨("_law_n_signs", none), "_law_n_signs", "_law_n_signs", defArgs s_law_n_signs, defBody s_law_n_signs, defScope s_law_n_signs, [], []⟩
def d_law_n_crowd : He.DefD := ⟨("_law_n_crowd", none), "_law_n_crowd", "_law_n_crowd", defArgs s_law_n_crowd, defBody s_law_n_crowd, defScope s_law_n_crowd, [], []⟩
def d_law_n_doors : He.DefD := ⟨("_law_n_doors", none), "_law_n_doors", "_law_n_doors", defArgs s_law_n_doors, defBody s_law_n_doors, defScope s_law_n_doors, [], []⟩
def d_law_n_row : He.DefD := ⟨("_law_n_row", none), "_law_n_row", "_law_n_row", defArgs s_law_n_row, defBody s_law_n_row, defScope s_law_n_row, [], []⟩
def d_law_n_net : He.DefD := ⟨("_law_n_net", none), "_law_n_net", "_law_n_net", defArgs s_law_n_net, defBody s_law_n_net, defScope s_law_n_net, [], []⟩
def d_law_is_two_way : He.DefD := ⟨("_law_is_two_way", none), "_law_is_two_way", "_law_is_two_way", defArgs s_law_is_two_way, defBody s_law_is_two_way, defScope s_law_is_two_way, [], []⟩
def d_law_reached : He.DefD := ⟨("_law_reached", none), "_law_reached", "_law_reached", defArgs s_law_reached, defBody s_law_reached, defScope s_law_reached, [], []⟩
def d_law_all_right : He.DefD := ⟨("_law_all_right", none), "_law_all_right", "_law_all_right", defArgs s_law_all_right, defBody s_law_all_right, defScope s_law_all_right, [], []⟩
def d_law_near : He.DefD := ⟨("_law_near", none), "_law_near", "_law_near", defArgs s_law_near, defBody s_law_near, defScope s_law_near, [], []⟩
def d_law : He.DefD := ⟨("law", none), "law", "law", defArgs s_law, defBody s_law, defScope s_law, [], []⟩
def fn : List He.DefD := [d_is_two_way, d_reached_from, d_is_joined, d_is_strong, d_BadNets_init, d_BadRoads_init, d_BadSigns_init, d_is_list, d_is_integer, d_is_number, d_is_word, d_as_word, d_order_key, d_ascending, d_checked_signs, d_is_road, d_checked_roads, d_Net_init, d_Net_signs, d_Net_roads, d_Net_len, d_Net_eq, d_checked_nets, d_beside, d_backward, d_law_start, d_law_draw, d_law_pick, d_law_mixed, d_law_same, d_law_each_once, d_law_n_signs, d_law_n_crowd, d_law_n_doors, d_law_n_row, d_law_n_net, d_law_is_two_way, d_law_reached, d_law_all_right, d_law_near, d_law]
def fa : List He.Fa := [.glo "is_two_way",
  .glo "reached_from",
  .glo "is_joined",
  .glo "is_strong",
  .glo "is_list",
  .glo "is_integer",
  .glo "is_number",
  .glo "is_word",
  .glo "as_word",
  .glo "order_key",
  .glo "ascending",
  .glo "checked_signs",
  .glo "is_road",
  .glo "checked_roads",
  .glo "checked_nets",
  .glo "beside",
  .glo "backward",
  .glo "_law_start",
  .glo "_law_draw",
  .glo "_law_pick",
  .glo "_law_mixed",
  .glo "_law_same",
  .glo "_law_each_once",
  .glo "_law_n_signs",
  .glo "_law_n_crowd",
  .glo "_law_n_doors",
  .glo "_law_n_row",
  .glo "_law_n_net",
  .glo "_law_is_two_way",
  .glo "_law_reached",
  .glo "_law_all_right",
  .glo "_law_near",
  .glo "law",
  .glo "NetError",
  .glo "BadNets",
  .glo "BadRoads",
  .glo "BadSigns",
  .glo "Made",
  .glo "Net",
  .free "ValueError",
  .free "all",
  .free "bool",
  .free "dict",
  .free "enumerate",
  .free "int",
  .free "isinstance",
  .free "len",
  .free "list",
  .free "range",
  .free "sorted",
  .free "str",
  .free "tuple",
  .free "zip",
  .cls "Net",
  .noat "Net" "own_in",
  .noat "Net" "own_out",
  .noat "Net" "own_roads",
  .noat "Net" "own_signs",
  .meth "Net" "__init__",
  .meth "Net" "signs",
  .meth "Net" "roads",
  .meth "Net" "__len__",
  .meth "Net" "__eq__",
  .mkr "Net"]
def xs : PySem.W.Frag → Bool := fun K => (decide (PySem.W.kitOne K (.ref (He.ga K "Net")) (.ref (He.ga K "Net")) = some true)) && ((decide (PySem.W.findIn K (.ref (He.ga K "Net")) "__class__" = some (some (.builtin "object.__class__")))) && ((decide (PySem.W.specialIn K (.builtin "object.__class__") "__get__" = some (some (.builtin "getset_descriptor.__get__")))) && ((decide (PySem.W.takesIn K (.builtin "object.__class__") = some true)) && ((decide (PySem.W.mroIn K (He.ga K "Net") (.type "object") = some true))))))
structure Top (K : PySem.W.Frag) (mg : Str → Option Value) : Prop where
  g_is_two_way : mg "is_two_way" = some (.ref (He.ga K "is_two_way"))
  g_reached_from : mg "reached_from" = some (.ref (He.ga K "reached_from"))
  g_is_joined : mg "is_joined" = some (.ref (He.ga K "is_joined"))
  g_is_strong : mg "is_strong" = some (.ref (He.ga K "is_strong"))
  g_is_list : mg "is_list" = some (.ref (He.ga K "is_list"))
  g_is_integer : mg "is_integer" = some (.ref (He.ga K "is_integer"))
  g_is_number : mg "is_number" = some (.ref (He.ga K "is_number"))
  g_is_word : mg "is_word" = some (.ref (He.ga K "is_word"))
  g_as_word : mg "as_word" = some (.ref (He.ga K "as_word"))
  g_order_key : mg "order_key" = some (.ref (He.ga K "order_key"))
  g_ascending : mg "ascending" = some (.ref (He.ga K "ascending"))
  g_checked_signs : mg "checked_signs" = some (.ref (He.ga K "checked_signs"))
  g_is_road : mg "is_road" = some (.ref (He.ga K "is_road"))
  g_checked_roads : mg "checked_roads" = some (.ref (He.ga K "checked_roads"))
  g_checked_nets : mg "checked_nets" = some (.ref (He.ga K "checked_nets"))
  g_beside : mg "beside" = some (.ref (He.ga K "beside"))
  g_backward : mg "backward" = some (.ref (He.ga K "backward"))
  g__law_start : mg "_law_start" = some (.ref (He.ga K "_law_start"))
  g__law_draw : mg "_law_draw" = some (.ref (He.ga K "_law_draw"))
  g__law_pick : mg "_law_pick" = some (.ref (He.ga K "_law_pick"))
  g__law_mixed : mg "_law_mixed" = some (.ref (He.ga K "_law_mixed"))
  g__law_same : mg "_law_same" = some (.ref (He.ga K "_law_same"))
  g__law_each_once : mg "_law_each_once" = some (.ref (He.ga K "_law_each_once"))
  g__law_n_signs : mg "_law_n_signs" = some (.ref (He.ga K "_law_n_signs"))
  g__law_n_crowd : mg "_law_n_crowd" = some (.ref (He.ga K "_law_n_crowd"))
  g__law_n_doors : mg "_law_n_doors" = some (.ref (He.ga K "_law_n_doors"))
  g__law_n_row : mg "_law_n_row" = some (.ref (He.ga K "_law_n_row"))
  g__law_n_net : mg "_law_n_net" = some (.ref (He.ga K "_law_n_net"))
  g__law_is_two_way : mg "_law_is_two_way" = some (.ref (He.ga K "_law_is_two_way"))
  g__law_reached : mg "_law_reached" = some (.ref (He.ga K "_law_reached"))
  g__law_all_right : mg "_law_all_right" = some (.ref (He.ga K "_law_all_right"))
  g__law_near : mg "_law_near" = some (.ref (He.ga K "_law_near"))
  g_law : mg "law" = some (.ref (He.ga K "law"))
  g_NetError : mg "NetError" = some (.ref (He.ga K "NetError"))
  g_BadNets : mg "BadNets" = some (.ref (He.ga K "BadNets"))
  g_BadRoads : mg "BadRoads" = some (.ref (He.ga K "BadRoads"))
  g_BadSigns : mg "BadSigns" = some (.ref (He.ga K "BadSigns"))
  g_Made : mg "Made" = some (.ref (He.ga K "Made"))
  g_Net : mg "Net" = some (.ref (He.ga K "Net"))
  b_ValueError : mg "ValueError" = none
  b_all : mg "all" = none
  b_bool : mg "bool" = none
  b_dict : mg "dict" = none
  b_enumerate : mg "enumerate" = none
  b_int : mg "int" = none
  b_isinstance : mg "isinstance" = none
  b_len : mg "len" = none
  b_list : mg "list" = none
  b_range : mg "range" = none
  b_sorted : mg "sorted" = none
  b_str : mg "str" = none
  b_tuple : mg "tuple" = none
  b_zip : mg "zip" = none
  cl_Net : Cls K (He.ga K "Net")
  na_Net_own_in : NoAttr K (He.ga K "Net") "own_in"
  na_Net_own_out : NoAttr K (He.ga K "Net") "own_out"
  na_Net_own_roads : NoAttr K (He.ga K "Net") "own_roads"
  na_Net_own_signs : NoAttr K (He.ga K "Net") "own_signs"
  me_Net_init : Meth K (He.ga K "Net") "__init__" (He.ma K (He.ga K "Net") "__init__")
  me_Net_signs : Meth K (He.ga K "Net") "signs" (He.ma K (He.ga K "Net") "signs")
  me_Net_roads : Meth K (He.ga K "Net") "roads" (He.ma K (He.ga K "Net") "roads")
  me_Net_len : Meth K (He.ga K "Net") "__len__" (He.ma K (He.ga K "Net") "__len__")
  me_Net_eq : Meth K (He.ga K "Net") "__eq__" (He.ma K (He.ga K "Net") "__eq__")
  mk_Net : Mk K (He.ga K "Net") (He.ma K (He.ga K "Net") "__init__")
  F_is_two_way : ∃ fd, FunD K "is_two_way" "is_two_way" (defArgs s_is_two_way) (defBody s_is_two_way) (defScope s_is_two_way) [] [] (He.fAd K ("is_two_way", none)) fd
  F_reached_from : ∃ fd, FunD K "reached_from" "reached_from" (defArgs s_reached_from) (defBody s_reached_from) (defScope s_reached_from) [] [] (He.fAd K ("reached_from", none)) fd
  F_is_joined : ∃ fd, FunD K "is_joined" "is_joined" (defArgs s_is_joined) (defBody s_is_joined) (defScope s_is_joined) [] [] (He.fAd K ("is_joined", none)) fd
  F_is_strong : ∃ fd, FunD K "is_strong" "is_strong" (defArgs s_is_strong) (defBody s_is_strong) (defScope s_is_strong) [] [] (He.fAd K ("is_strong", none)) fd
  F_BadNets_init : ∃ fd, FunD K "__init__" "BadNets.__init__" (defArgs s_BadNets_init) (defBody s_BadNets_init) (defScope s_BadNets_init) [] [] (He.fAd K ("BadNets", some "__init__")) fd
  F_BadRoads_init : ∃ fd, FunD K "__init__" "BadRoads.__init__" (defArgs s_BadRoads_init) (defBody s_BadRoads_init) (defScope s_BadRoads_init) [] [] (He.fAd K ("BadRoads", some "__init__")) fd
  F_BadSigns_init : ∃ fd, FunD K "__init__" "BadSigns.__init__" (defArgs s_BadSigns_init) (defBody s_BadSigns_init) (defScope s_BadSigns_init) [] [] (He.fAd K ("BadSigns", some "__init__")) fd
  F_is_list : ∃ fd, FunD K "is_list" "is_list" (defArgs s_is_list) (defBody s_is_list) (defScope s_is_list) [] [] (He.fAd K ("is_list", none)) fd
  F_is_integer : ∃ fd, FunD K "is_integer" "is_integer" (defArgs s_is_integer) (defBody s_is_integer) (defScope s_is_integer) [] [] (He.fAd K ("is_integer", none)) fd
  F_is_number : ∃ fd, FunD K "is_number" "is_number" (defArgs s_is_number) (defBody s_is_number) (defScope s_is_number) [] [] (He.fAd K ("is_number", none)) fd
  F_is_word : ∃ fd, FunD K "is_word" "is_word" (defArgs s_is_word) (defBody s_is_word) (defScope s_is_word) [] [] (He.fAd K ("is_word", none)) fd
  F_as_word : ∃ fd, FunD K "as_word" "as_word" (defArgs s_as_word) (defBody s_as_word) (defScope s_as_word) [] [] (He.fAd K ("as_word", none)) fd
  F_order_key : ∃ fd, FunD K "order_key" "order_key" (defArgs s_order_key) (defBody s_order_key) (defScope s_order_key) [] [] (He.fAd K ("order_key", none)) fd
  F_ascending : ∃ fd, FunD K "ascending" "ascending" (defArgs s_ascending) (defBody s_ascending) (defScope s_ascending) [] [] (He.fAd K ("ascending", none)) fd
  F_checked_signs : ∃ fd, FunD K "checked_signs" "checked_signs" (defArgs s_checked_signs) (defBody s_checked_signs) (defScope s_checked_signs) [] [] (He.fAd K ("checked_signs", none)) fd
  F_is_road : ∃ fd, FunD K "is_road" "is_road" (defArgs s_is_road) (defBody s_is_road) (defScope s_is_road) [] [] (He.fAd K ("is_road", none)) fd
  F_checked_roads : ∃ fd, FunD K "checked_roads" "checked_roads" (defArgs s_checked_roads) (defBody s_checked_roads) (defScope s_checked_roads) [] [] (He.fAd K ("checked_roads", none)) fd
  F_Net_init : ∃ fd, FunD K "__init__" "Net.__init__" (defArgs s_Net_init) (defBody s_Net_init) (defScope s_Net_init) [] [] (He.fAd K ("Net", some "__init__")) fd
  F_Net_signs : ∃ fd, FunD K "signs" "Net.signs" (defArgs s_Net_signs) (defBody s_Net_signs) (defScope s_Net_signs) [] [] (He.fAd K ("Net", some "signs")) fd
  F_Net_roads : ∃ fd, FunD K "roads" "Net.roads" (defArgs s_Net_roads) (defBody s_Net_roads) (defScope s_Net_roads) [] [] (He.fAd K ("Net", some "roads")) fd
  F_Net_len : ∃ fd, FunD K "__len__" "Net.__len__" (defArgs s_Net_len) (defBody s_Net_len) (defScope s_Net_len) [] [] (He.fAd K ("Net", some "__len__")) fd
  F_Net_eq : ∃ fd, FunD K "__eq__" "Net.__eq__" (defArgs s_Net_eq) (defBody s_Net_eq) (defScope s_Net_eq) [] [] (He.fAd K ("Net", some "__eq__")) fd
  F_checked_nets : ∃ fd, FunD K "checked_nets" "checked_nets" (defArgs s_checked_nets) (defBody s_checked_nets) (defScope s_checked_nets) [] [] (He.fAd K ("checked_nets", none)) fd
  F_beside : ∃ fd, FunD K "beside" "beside" (defArgs s_beside) (defBody s_beside) (defScope s_beside) [] [] (He.fAd K ("beside", none)) fd
  F_backward : ∃ fd, FunD K "backward" "backward" (defArgs s_backward) (defBody s_backward) (defScope s_backward) [] [] (He.fAd K ("backward", none)) fd
  F_law_start : ∃ fd, FunD K "_law_start" "_law_start" (defArgs s_law_start) (defBody s_law_start) (defScope s_law_start) [] [] (He.fAd K ("_law_start", none)) fd
  F_law_draw : ∃ fd, FunD K "_law_draw" "_law_draw" (defArgs s_law_draw) (defBody s_law_draw) (defScope s_law_draw) [] [] (He.fAd K ("_law_draw", none)) fd
  F_law_pick : ∃ fd, FunD K "_law_pick" "_law_pick" (defArgs s_law_pick) (defBody s_law_pick) (defScope s_law_pick) [] [] (He.fAd K ("_law_pick", none)) fd
  F_law_mixed : ∃ fd, FunD K "_law_mixed" "_law_mixed" (defArgs s_law_mixed) (defBody s_law_mixed) (defScope s_law_mixed) [] [] (He.fAd K ("_law_mixed", none)) fd
  F_law_same : ∃ fd, FunD K "_law_same" "_law_same" (defArgs s_law_same) (defBody s_law_same) (defScope s_law_same) [] [] (He.fAd K ("_law_same", none)) fd
  F_law_each_once : ∃ fd, FunD K "_law_each_once" "_law_each_once" (defArgs s_law_each_once) (defBody s_law_each_once) (defScope s_law_each_once) [] [] (He.fAd K ("_law_each_once", none)) fd
  F_law_n_signs : ∃ fd, FunD K "_law_n_signs" "_law_n_signs" (defArgs s_law_n_signs) (defBody s_law_n_signs) (defScope s_law_n_signs) [] [] (He.fAd K ("_law_n_signs", none)) fd
  F_law_n_crowd : ∃ fd, FunD K "_law_n_crowd" "_law_n_crowd" (defArgs s_law_n_crowd) (defBody s_law_n_crowd) (defScope s_law_n_crowd) [] [] (He.fAd K ("_law_n_crowd", none)) fd
  F_law_n_doors : ∃ fd, FunD K "_law_n_doors" "_law_n_doors" (defArgs s_law_n_doors) (defBody s_law_n_doors) (defScope s_law_n_doors) [] [] (He.fAd K ("_law_n_doors", none)) fd
  F_law_n_row : ∃ fd, FunD K "_law_n_row" "_law_n_row" (defArgs s_law_n_row) (defBody s_law_n_row) (defScope s_law_n_row) [] [] (He.fAd K ("_law_n_row", none)) fd
  F_law_n_net : ∃ fd, FunD K "_law_n_net" "_law_n_net" (defArgs s_law_n_net) (defBody s_law_n_net) (defScope s_law_n_net) [] [] (He.fAd K ("_law_n_net", none)) fd
  F_law_is_two_way : ∃ fd, FunD K "_law_is_two_way" "_law_is_two_way" (defArgs s_law_is_two_way) (defBody s_law_is_two_way) (defScope s_law_is_two_way) [] [] (He.fAd K ("_law_is_two_way", none)) fd
  F_law_reached : ∃ fd, FunD K "_law_reached" "_law_reached" (defArgs s_law_reached) (defBody s_law_reached) (defScope s_law_reached) [] [] (He.fAd K ("_law_reached", none)) fd
  F_law_all_right : ∃ fd, FunD K "_law_all_right" "_law_all_right" (defArgs s_law_all_right) (defBody s_law_all_right) (defScope s_law_all_right) [] [] (He.fAd K ("_law_all_right", none)) fd
  F_law_near : ∃ fd, FunD K "_law_near" "_law_near" (defArgs s_law_near) (defBody s_law_near) (defScope s_law_near) [] [] (He.fAd K ("_law_near", none)) fd
  F_law : ∃ fd, FunD K "law" "law" (defArgs s_law) (defBody s_law) (defScope s_law) [] [] (He.fAd K ("law", none)) fd
  kNN : PySem.W.kitOne K (.ref (He.ga K "Net")) (.ref (He.ga K "Net")) = some true
  kCl : PySem.W.findIn K (.ref (He.ga K "Net")) "__class__" = some (some (.builtin "object.__class__"))
  kGet : PySem.W.specialIn K (.builtin "object.__class__") "__get__" = some (some (.builtin "getset_descriptor.__get__"))
  kTk : PySem.W.takesIn K (.builtin "object.__class__") = some true
  kMro : PySem.W.mroIn K (He.ga K "Net") (.type "object") = some true
theorem top_of {K : PySem.W.Frag} {h : Heap} {mg : Str → Option Value} (X : K.In h) (G : h.Ns mainGlobals mg) (c : He.SaysD fa fn K) (hx : xs K = true) : Top K mg := by
  have hx0 := hx
  obtain ⟨e0, hx1⟩ := He.ba hx0
  obtain ⟨e1, hx2⟩ := He.ba hx1
  obtain ⟨e2, hx3⟩ := He.ba hx2
  obtain ⟨e3, hx4⟩ := He.ba hx3
  have e4 := hx4
  exact {
    g_is_two_way := He.glo_ok X G (c.fact 0 (f := .glo "is_two_way") rfl)
    g_reached_from := He.glo_ok X G (c.fact 1 (f := .glo "reached_from") rfl)
    g_is_joined := He.glo_ok X G (c.fact 2 (f := .glo "is_joined") rfl)
    g_is_strong := He.glo_ok X G (c.fact 3 (f := .glo "is_strong") rfl)
    g_is_list := He.glo_ok X G (c.fact 4 (f := .glo "is_list") rfl)
    g_is_integer := He.glo_ok X G (c.fact 5 (f := .glo "is_integer") rfl)
    g_is_number := He.glo_ok X G (c.fact 6 (f := .glo "is_number") rfl)
    g_is_word := He.glo_ok X G (c.fact 7 (f := .glo "is_word") rfl)
    g_as_word := He.glo_ok X G (c.fact 8 (f := .glo "as_word") rfl)
    g_order_key := He.glo_ok X G (c.fact 9 (f := .glo "order_key") rfl)
    g_ascending := He.glo_ok X G (c.fact 10 (f := .glo "ascending") rfl)
    g_checked_signs := He.glo_ok X G (c.fact 11 (f := .glo "checked_signs") rfl)
    g_is_road := He.glo_ok X G (c.fact 12 (f := .glo "is_road") rfl)
    g_checked_roads := He.glo_ok X G (c.fact 13 (f := .glo "checked_roads") rfl)
    g_checked_nets := He.glo_ok X G (c.fact 14 (f := .glo "checked_nets") rfl)
    g_beside := He.glo_ok X G (c.fact 15 (f := .glo "beside") rfl)
    g_backward := He.glo_ok X G (c.fact 16 (f := .glo "backward") rfl)
    g__law_start := He.glo_ok X G (c.fact 17 (f := .glo "_law_start") rfl)
    g__law_draw := He.glo_ok X G (c.fact 18 (f := .glo "_law_draw") rfl)
    g__law_pick := He.glo_ok X G (c.fact 19 (f := .glo "_law_pick") rfl)
    g__law_mixed := He.glo_ok X G (c.fact 20 (f := .glo "_law_mixed") rfl)
    g__law_same := He.glo_ok X G (c.fact 21 (f := .glo "_law_same") rfl)
    g__law_each_once := He.glo_ok X G (c.fact 22 (f := .glo "_law_each_once") rfl)
    g__law_n_signs := He.glo_ok X G (c.fact 23 (f := .glo "_law_n_signs") rfl)
    g__law_n_crowd := He.glo_ok X G (c.fact 24 (f := .glo "_law_n_crowd") rfl)
    g__law_n_doors := He.glo_ok X G (c.fact 25 (f := .glo "_law_n_doors") rfl)
    g__law_n_row := He.glo_ok X G (c.fact 26 (f := .glo "_law_n_row") rfl)
    g__law_n_net := He.glo_ok X G (c.fact 27 (f := .glo "_law_n_net") rfl)
    g__law_is_two_way := He.glo_ok X G (c.fact 28 (f := .glo "_law_is_two_way") rfl)
    g__law_reached := He.glo_ok X G (c.fact 29 (f := .glo "_law_reached") rfl)
    g__law_all_right := He.glo_ok X G (c.fact 30 (f := .glo "_law_all_right") rfl)
    g__law_near := He.glo_ok X G (c.fact 31 (f := .glo "_law_near") rfl)
    g_law := He.glo_ok X G (c.fact 32 (f := .glo "law") rfl)
    g_NetError := He.glo_ok X G (c.fact 33 (f := .glo "NetError") rfl)
    g_BadNets := He.glo_ok X G (c.fact 34 (f := .glo "BadNets") rfl)
    g_BadRoads := He.glo_ok X G (c.fact 35 (f := .glo "BadRoads") rfl)
    g_BadSigns := He.glo_ok X G (c.fact 36 (f := .glo "BadSigns") rfl)
    g_Made := He.glo_ok X G (c.fact 37 (f := .glo "Made") rfl)
    g_Net := He.glo_ok X G (c.fact 38 (f := .glo "Net") rfl)
    b_ValueError := He.free_ok X G (c.fact 39 (f := .free "ValueError") rfl)
    b_all := He.free_ok X G (c.fact 40 (f := .free "all") rfl)
    b_bool := He.free_ok X G (c.fact 41 (f := .free "bool") rfl)
    b_dict := He.free_ok X G (c.fact 42 (f := .free "dict") rfl)
    b_enumerate := He.free_ok X G (c.fact 43 (f := .free "enumerate") rfl)
    b_int := He.free_ok X G (c.fact 44 (f := .free "int") rfl)
    b_isinstance := He.free_ok X G (c.fact 45 (f := .free "isinstance") rfl)
    b_len := He.free_ok X G (c.fact 46 (f := .free "len") rfl)
    b_list := He.free_ok X G (c.fact 47 (f := .free "list") rfl)
    b_range := He.free_ok X G (c.fact 48 (f := .free "range") rfl)
    b_sorted := He.free_ok X G (c.fact 49 (f := .free "sorted") rfl)
    b_str := He.free_ok X G (c.fact 50 (f := .free "str") rfl)
    b_tuple := He.free_ok X G (c.fact 51 (f := .free "tuple") rfl)
    b_zip := He.free_ok X G (c.fact 52 (f := .free "zip") rfl)
    cl_Net := He.cls_ok (c.fact 53 (f := .cls "Net") rfl)
    na_Net_own_in := He.noat_ok (c.fact 54 (f := .noat "Net" "own_in") rfl)
    na_Net_own_out := He.noat_ok (c.fact 55 (f := .noat "Net" "own_out") rfl)
    na_Net_own_roads := He.noat_ok (c.fact 56 (f := .noat "Net" "own_roads") rfl)
    na_Net_own_signs := He.noat_ok (c.fact 57 (f := .noat "Net" "own_signs") rfl)
    me_Net_init := He.meth_ok (c.fact 58 (f := .meth "Net" "__init__") rfl)
    me_Net_signs := He.meth_ok (c.fact 59 (f := .meth "Net" "signs") rfl)
    me_Net_roads := He.meth_ok (c.fact 60 (f := .meth "Net" "roads") rfl)
    me_Net_len := He.meth_ok (c.fact 61 (f := .meth "Net" "__len__") rfl)
    me_Net_eq := He.meth_ok (c.fact 62 (f := .meth "Net" "__eq__") rfl)
    mk_Net := He.mkr_ok (c.fact 63 (f := .mkr "Net") rfl)
    F_is_two_way := c.def_ 0 (d := d_is_two_way) rfl
    F_reached_from := c.def_ 1 (d := d_reached_from) rfl
    F_is_joined := c.def_ 2 (d := d_is_joined) rfl
    F_is_strong := c.def_ 3 (d := d_is_strong) rfl
    F_BadNets_init := c.def_ 4 (d := d_BadNets_init) rfl
    F_BadRoads_init := c.def_ 5 (d := d_BadRoads_init) rfl
    F_BadSigns_init := c.def_ 6 (d := d_BadSigns_init) rfl
    F_is_list := c.def_ 7 (d := d_is_list) rfl
    F_is_integer := c.def_ 8 (d := d_is_integer) rfl
    F_is_number := c.def_ 9 (d := d_is_number) rfl
    F_is_word := c.def_ 10 (d := d_is_word) rfl
    F_as_word := c.def_ 11 (d := d_as_word) rfl
    F_order_key := c.def_ 12 (d := d_order_key) rfl
    F_ascending := c.def_ 13 (d := d_ascending) rfl
    F_checked_signs := c.def_ 14 (d := d_checked_signs) rfl
    F_is_road := c.def_ 15 (d := d_is_road) rfl
    F_checked_roads := c.def_ 16 (d := d_checked_roads) rfl
    F_Net_init := c.def_ 17 (d := d_Net_init) rfl
    F_Net_signs := c.def_ 18 (d := d_Net_signs) rfl
    F_Net_roads := c.def_ 19 (d := d_Net_roads) rfl
    F_Net_len := c.def_ 20 (d := d_Net_len) rfl
    F_Net_eq := c.def_ 21 (d := d_Net_eq) rfl
    F_checked_nets := c.def_ 22 (d := d_checked_nets) rfl
    F_beside := c.def_ 23 (d := d_beside) rfl
    F_backward := c.def_ 24 (d := d_backward) rfl
    F_law_start := c.def_ 25 (d := d_law_start) rfl
    F_law_draw := c.def_ 26 (d := d_law_draw) rfl
    F_law_pick := c.def_ 27 (d := d_law_pick) rfl
    F_law_mixed := c.def_ 28 (d := d_law_mixed) rfl
    F_law_same := c.def_ 29 (d := d_law_same) rfl
    F_law_each_once := c.def_ 30 (d := d_law_each_once) rfl
    F_law_n_signs := c.def_ 31 (d := d_law_n_signs) rfl
    F_law_n_crowd := c.def_ 32 (d := d_law_n_crowd) rfl
    F_law_n_doors := c.def_ 33 (d := d_law_n_doors) rfl
    F_law_n_row := c.def_ 34 (d := d_law_n_row) rfl
    F_law_n_net := c.def_ 35 (d := d_law_n_net) rfl
    F_law_is_two_way := c.def_ 36 (d := d_law_is_two_way) rfl
    F_law_reached := c.def_ 37 (d := d_law_reached) rfl
    F_law_all_right := c.def_ 38 (d := d_law_all_right) rfl
    F_law_near := c.def_ 39 (d := d_law_near) rfl
    F_law := c.def_ 40 (d := d_law) rfl
    kNN := of_decide_eq_true e0
    kCl := of_decide_eq_true e1
    kGet := of_decide_eq_true e2
    kTk := of_decide_eq_true e3
    kMro := of_decide_eq_true e4
  }
end T3

namespace T3
open PySem PySem.Spec PyProof.Rows L2 Ly
section
variable {P : Program} {w : World} {K : PySem.W.Frag} {mg : Str → Option Value} {base : Heap}
/-- the spring's own list -/
abbrev sO (q : Addr) (l k m : Int) : HO := .lst [V.ref q, V.int l, V.int k, V.int m]
def Strm (F H : Hp) (st q : Addr) (c : Int) : Prop := ∃ (ns : List Int) (l k m : Int), H st = some (.lst [.ref q, .int l, .int k, .int m]) ∧ H q = some (.lst (ns.map V.int)) ∧ 0 ≤ l ∧ 0 ≤ m ∧ m < 2147483647 ∧ 0 ≤ k ∧ k ≤ c ∧ F st = none ∧ F q = none ∧ st ≠ q
theorem dp_ints {K : PySem.W.Frag} {H : Hp} : ∀ ns : List Int, DpAll K H (ns.map V.int) (ns.map PyData.int)
  | [] => .nil
  | n :: ns => .cons (.int n) (dp_ints ns)
theorem lay_ints : ∀ ns : List Int, PyData.canLayAll0 (ns.map PyData.int) = true
  | [] => by simp [PyData.canLayAll0]
  | n :: ns => by simp [PyData.canLayAll0, PyData.canLay0, lay_ints ns]
theorem dep_ints : ∀ ns : List Int, PyData.depthAll (ns.map PyData.int) = 0
  | [] => by simp [PyData.depthAll]
  | n :: ns => by simp [PyData.depthAll, PyData.depth, dep_ints ns]
theorem shaped_ints (ns : List Int) : SeqAt.shaped (.list (ns.map PyData.int)) = true := by
  simp [SeqAt.shaped, PyData.canLay0, PyData.depth, lay_ints, dep_ints]
def spStart (K : PySem.W.Frag) : Sp := fun vs H Q _ => ∃ (a : Addr) (ns : List Int) (F : Hp), vs = [.ref a] ∧ SqL K H a (ns.map V.int) ∧ Same F H ∧
  ∀ st q H', Ex [] F H F H' → Strm F H' st q 0 → H st = none → H q = none → Q (.ref st) H'
theorem ok_law_start (T : Top K mg) : Ok P w K mg base "_law_start" 1 ["_law_script"] (spStart K) := by
  refine ok_of T.g__law_start T.F_law_start sc_law_start (fun _ _ _ _ _ _ us hl => match us, hl with | [_], _ => rfl) (fun vs H Q E h => ?_) (fun cdv A outer s H vs Q E hr h => ?_)
  · obtain ⟨a, ns, F, rfl, _⟩ := h
    rfl
  obtain ⟨a, ns, F, rfl, hS, hF, k⟩ := h
  refine ⟨_, (pss_one (ps_ret (pe_lst (pa_cons (pe_callTy call_list_of rfl T.b_list (by decide +kernel) (pa_cons (pv 0) pa_nil)) (pa_cons pe_int (pa_cons pe_int (pa_cons pe_int pa_nil))))))), ?_⟩
  refine ⟨_, rfl, _, _, rfl, .inl hS, fun q hq => ?_⟩
  refine ⟨by show 4 ≤ sizeLine; decide, fun st hst => ?_⟩
  obtain ⟨hst0, hne⟩ := Ly.upd_none hst
  have e1 : Ex [] F H F (upd H q (.lst (ns.map V.int))) := Ex.new hF hq
  refine k st q _ (e1.trans (Ex.new e1.fh hst)) ⟨ns, 0, 0, 11, upd_same, ?_, by decide, by decide, by decide, by decide, by decide, Same.free hF hst0, Same.free hF hq, hne⟩ hst0 hq
  rw [upd_ne hne.symm]; exact upd_same
/-- a draw: a number from 0 to many - 1 -/
def spDraw : Sp := fun vs H Q _ => ∃ (st q : Addr) (many : Int) (F : Hp) (c : Int), vs = [.ref st, .int many] ∧ Same F H ∧ Strm F H st q c ∧ 0 < many ∧ many < 1000000 ∧ c < 1000000000 ∧
  ∀ d H', 0 ≤ d → d < many → Ex [st, q] F H F H' → Strm F H' st q (c + 1) → Q (.int d) H'
theorem ok_law_draw (T : Top K mg) : Ok P w K mg base "_law_draw" 1 ["_law_stream", "_law_many"] spDraw := by
  refine ok_of T.g__law_draw T.F_law_draw sc_law_draw (fun _ _ _ _ _ _ us hl => match us, hl with | [_, _], _ => rfl) (fun vs H Q E h => ?_) (fun cdv A outer s H vs Q E hr h => ?_)
  · obtain ⟨st, q, many, F, c, rfl, _⟩ := h
    rfl
  obtain ⟨st, q, many, F, c, rfl, hF, ⟨ns, l, k, m, h1, h2, hl, hm1, hm2, hk1, hk2, f1, f2, hne⟩, hmany, hmany2, hc, kk⟩ := h
  refine ⟨_, (pss_cons (ps_asg (pe_op op_add (pe_ix ix_list (pv 0) pe_int (fun _ _ => rfl)) pe_int) (pg_sub (pv 0) pe_int set_list))
    (pss_cons (ps_while PassesOwn.never (PW.pt (pw_and (pt_cmpR op_eq (pe_ix ix_list (pv 0) pe_int (fun _ _ => rfl)) pe_int (nomark _)) (pw_and1 (pt_cmpR (op_neD (hu64 hr)) (pe_ix ix_list (pv 0) pe_int (fun _ _ => rfl)) (pe_lst pa_nil) (nomark _))))) (pss_cons (ps_set (i := 2) sc_law_draw.nd rfl (Or.inl rfl) (pe_bm PySem.F.plainAttrs_list PySem.F.slot_list_pop PySem.F.type_list_pop mt_popAt (pe_ix ix_list (pv 0) pe_int (fun _ _ => rfl)) (pa_cons pe_int pa_nil)))
    (pss_cons (ps_asg (pe_op op_modN (pe_callTy call_int1 rfl T.b_int (by decide +kernel) (pa_cons (pe_op op_add (pe_op op_add (pe_op op_mul (pe_ix ix_list (pv 0) pe_int (fun _ _ => rfl)) pe_int) (pv 2)) pe_int) pa_nil)) pe_int) (pg_sub (pv 0) pe_int set_list))
    (pss_one (ps_asg (pe_ifExp (pt_cmpR op_ge (pv 2) (pe_op op_pow pe_int pe_int) (nomark _)) (pv 2) pe_int) (pg_sub (pv 0) pe_int set_list))))))
    (pss_cons (ps_if (pt_cmpR op_gt (pe_ix ix_list (pv 0) pe_int (fun _ _ => rfl)) pe_int (nomark _)) (pss_cons (ps_set (i := 3) sc_law_draw.nd rfl (Or.inl rfl) (pe_op op_modN (pe_callTy call_int1 rfl T.b_int (by decide +kernel) (pa_cons (pe_ix ix_list (pv 0) pe_int (fun _ _ => rfl)) pa_nil)) (pv 1)))
    (pss_cons (ps_asg (pe_op op_fdivN (pe_ix ix_list (pv 0) pe_int (fun _ _ => rfl)) (pv 1)) (pg_sub (pv 0) pe_int set_list))
    (pss_one (ps_ret (pv 3))))) pss_nil)
    (pss_cons (ps_set (i := 4) sc_law_draw.nd rfl (Or.inl rfl) (pe_op op_modN (pe_callTy call_int1 rfl T.b_int (by decide +kernel) (pa_cons (pe_op op_pow (pe_op op_add (pe_op op_add (pe_ix ix_list (pv 0) pe_int (fun _ _ => rfl)) (pe_op op_mul pe_int (pe_ix ix_list (pv 0) pe_int (fun _ _ => rfl)))) pe_int) pe_int) pa_nil)) pe_int))
    (pss_one (ps_ret (pe_op op_modN (pe_op op_modN (pe_callTy call_int1 rfl T.b_int (by decide +kernel) (pa_cons (pe_op op_pow (pe_op op_add (pe_op op_add (pe_op op_mul (pv 4) pe_int) (pe_op op_mul pe_int (pe_ix ix_list (pv 0) pe_int (fun _ _ => rfl)))) pe_int) pe_int) pa_nil)) pe_int) (pv 1)))))))), ?_⟩
  have s3 : ∀ (H : Hp) (q : Addr) (a b c : Int), atI [V.ref q, .int a, .int b, .int c] 0 = some (.ref q) ∧ atI [V.ref q, .int a, .int b, .int c] 1 = some (.int a) ∧ atI [V.ref q, .int a, .int b, .int c] 2 = some (.int b) ∧ atI [V.ref q, .int a, .int b, .int c] 3 = some (.int c) := fun _ _ _ _ _ => ⟨rfl, rfl, rfl, rfl⟩
  -- stream[2] = stream[2] + 1
  refine ⟨_, rfl, st, _, 2, _, rfl, rfl, SqL.of h1, rfl, _, _, rfl, rfl, _, rfl, st, _, 2, 2, rfl, rfl, h1, rfl, ?_⟩
  have g1 : Ex [st, q] F H F (upd H st (.lst [.ref q, .int l, .int (k + 1), .int m])) := Ex.put hF f1 (by simp)
  have g2 : (upd H st (.lst [.ref q, .int l, .int (k + 1), .int m])) st = some (.lst [.ref q, .int l, .int (k + 1), .int m]) := upd_same
  have g3 : (upd H st (.lst [.ref q, .int l, .int (k + 1), .int m])) q = some (.lst (ns.map V.int)) := by rw [upd_ne hne.symm]; exact h2
  show tWhile _ _ _ _ (upd H st (.lst [.ref q, .int l, .int (k + 1), .int m]))
  generalize (upd H st (.lst [.ref q, .int l, .int (k + 1), .int m])) = H1 at g1 g2 g3
  have f1_ := f1
  have after : ∀ (H2 : Hp) (ns : List Int) (l m : Int) (v : Option V), Ex [st, q] F H F H2 → H2 st = some (.lst [.ref q, .int l, .int (k + 1), .int m]) → H2 q = some (.lst (ns.map V.int)) → 0 ≤ l → 0 ≤ m → m < 2147483647 →
      tSeq (tIfS (tTest (tOp RGt (tOp (rIxL K) (tVar 0) (tC (.int 1))) (tC (.int 0)))) (tSeq (tAsg (tOp RMod (tCB RInt (tCons (tOp (rIxL K) (tVar 0) (tC (.int 1))) tNil)) (tVar 1)) (gName 3)) (tSeq (tAsg (tOp RFdiv (tOp (rIxL K) (tVar 0) (tC (.int 1))) (tVar 1)) (gSub (tVar 0) (tC (.int 1)) rSetL)) (tRet (tVar 3)))) tNext)
        (tSeq (tAsg (tOp RMod (tCB RInt (tCons (tOp RPow (tOp RAdd (tOp RAdd (tOp (rIxL K) (tVar 0) (tC (.int 3))) (tOp RMul (tC (.int 7919)) (tOp (rIxL K) (tVar 0) (tC (.int 2))))) (tC (.int 104729))) (tC (.int 5))) tNil)) (tC (.int 2147483629))) (gName 4))
          (tRet (tOp RMod (tOp RMod (tCB RInt (tCons (tOp RPow (tOp RAdd (tOp RAdd (tOp RMul (tVar 4) (tC (.int 48271))) (tOp RMul (tC (.int 30011)) (tOp (rIxL K) (tVar 0) (tC (.int 2))))) (tC (.int 29))) (tC (.int 3))) tNil)) (tC (.int 1000000007))) (tVar 1))))
        { nx := fun _ H' => Q .non H', rt := Q } [some (V.ref st), some (V.int many), v, none, none] H2 := by
    intro H2 ns l m v e e1 e2 hl hm1 hm2
    refine ⟨_, rfl, _, _, _, _, rfl, rfl, SqL.of e1, rfl, _, _, rfl, rfl, _, rfl, ?_⟩
    refine ite2 (fun h0 => ?_) (fun h0 => ?_)
    · have l0 : 0 < l := by simpa using h0
      refine ⟨_, rfl, _, _, _, _, rfl, rfl, SqL.of e1, rfl, .inl ⟨_, rfl, _, rfl, _, _, rfl, rfl, by omega, ?_⟩⟩
      refine ⟨_, rfl, _, _, _, _, rfl, rfl, SqL.of e1, rfl, _, rfl, _, _, rfl, rfl, ⟨by omega, by omega⟩, _, rfl, st, _, 1, 1, rfl, rfl, e1, rfl, ?_⟩
      refine ⟨_, rfl, kk _ _ (Int.fmod_nonneg_of_pos _ hmany) (Int.fmod_lt_of_pos _ hmany) (e.trans (Ex.put e.fh f1 (by simp))) ⟨ns, l.fdiv many, k + 1, m, upd_same, by rw [upd_ne hne.symm]; exact e2, ?_, hm1, hm2, by omega, by omega, f1, f2, hne⟩⟩
      exact Int.fdiv_nonneg hl (by omega)
    · have l0 : l = 0 := by
        have : ¬ 0 < l := by simpa using h0
        omega
      refine ⟨_, rfl, _, _, _, _, rfl, rfl, SqL.of e1, rfl, _, rfl, _, _, _, _, rfl, rfl, SqL.of e1, rfl, _, _, rfl, rfl, .inl ⟨by decide, by decide⟩, _, _, rfl, rfl, _, _, rfl, rfl, _, _, rfl, rfl, ⟨by decide, by decide, by omega⟩, .inl ⟨_, rfl, _, _, rfl, rfl, (show (2147483629 : Int) ≠ 0 by decide), ?_⟩⟩
      have r1 := Int.fmod_nonneg_of_pos ((m + 7919 * (k + 1) + 104729) ^ (5 : Int).toNat) (show (0 : Int) < 2147483629 by decide)
      have r2 := Int.fmod_lt_of_pos ((m + 7919 * (k + 1) + 104729) ^ (5 : Int).toNat) (show (0 : Int) < 2147483629 by decide)
      refine ⟨_, rfl, _, _, rfl, rfl, .inl ⟨by omega, by omega⟩, _, rfl, _, _, _, _, rfl, rfl, SqL.of e1, rfl, _, _, rfl, rfl, .inl ⟨by decide, by decide⟩, _, _, rfl, rfl, _, _, rfl, rfl, _, _, rfl, rfl, ⟨by decide, by decide, by omega⟩, .inl ⟨_, rfl, _, _, rfl, rfl, (show (1000000007 : Int) ≠ 0 by decide), _, rfl, _, _, rfl, rfl, by omega, ?_⟩⟩
      exact kk _ _ (Int.fmod_nonneg_of_pos _ hmany) (Int.fmod_lt_of_pos _ hmany) e ⟨ns, l, k + 1, m, e1, e2, hl, hm1, hm2, by omega, by omega, f1, f2, hne⟩
  refine while_by (fun σ H2 => ∃ ns l m v, σ = [some (V.ref st), some (V.int many), v, none, none] ∧ Ex [st, q] F H F H2 ∧ H2 st = some (.lst [.ref q, .int l, .int (k + 1), .int m]) ∧ H2 q = some (.lst (ns.map V.int)) ∧ 0 ≤ l ∧ 0 ≤ m ∧ m < 2147483647) (fun σ H2 => match H2 q with | some (.lst xs) => xs.length | _ => 0) ⟨ns, l, m, none, rfl, g1, g2, g3, hl, hm1, hm2⟩ ?_ ?_
  · rintro σ H2 ⟨ns, l, m, v, rfl, e, e1, e2, hl, hm1, hm2⟩
    refine ⟨_, rfl, _, _, _, _, rfl, rfl, SqL.of e1, rfl, rfl, _, rfl, ?_⟩
    refine ite2 (fun hc1 => ?_) (fun hc1 => ?_)
    · -- the rest may be drawn from
      have l0 : l = 0 := by simpa using hc1
      subst l0
      refine ⟨_, rfl, _, _, _, _, rfl, rfl, SqL.of e1, rfl, Nat.zero_le _, fun p hp => ?_⟩
      have e' : Ex [st, q] F H F (upd H2 p (.lst [])) := e.trans (Ex.new e.fh hp)
      have d1 : (upd H2 p (.lst [])) st = some (.lst [.ref q, .int 0, .int (k + 1), .int m]) := by rw [upd_ne (ne_of_none e1 hp)]; exact e1
      have d2 : (upd H2 p (.lst [])) q = some (.lst (ns.map V.int)) := by rw [upd_ne (ne_of_none e2 hp)]; exact e2
      refine ⟨.list (ns.map .int), .list [], .lst (SqL.of d2) (dp_ints ns), .lst (SqL.of upd_same) .nil, shaped_ints ns, by decide, _, rfl, ?_⟩
      generalize (upd H2 p (.lst [])) = H3 at e' d1 d2
      refine ite2 (fun hn => ?_) (fun hn => ?_)
      · cases ns with
        | nil => simp [PyData.eqv, PyData.eqvAll] at hn
        | cons z ns =>
          refine ⟨_, rfl, _, _, _, _, rfl, rfl, SqL.of d1, rfl, .inl ⟨rfl, _, SqL.of d2⟩, _, _, _, 0, _, rfl, rfl, d2, by decide, by decide, (by simp [seqIndex?]), rfl, ?_⟩
          have f1 : (upd H3 q (.lst (ns.map V.int))) st = some (.lst [.ref q, .int 0, .int (k + 1), .int m]) := by rw [upd_ne hne]; exact d1
          have e3 : Ex [st, q] F H F (upd H3 q (.lst (ns.map V.int))) := e'.trans (Ex.put e'.fh f2 (by simp))
          have f2' : (upd H3 q (.lst (ns.map V.int))) q = some (.lst (ns.map V.int)) := upd_same
          show tSeq _ _ _ _ (upd H3 q (.lst (ns.map V.int)))
          generalize (upd H3 q (.lst (ns.map V.int))) = H4 at e3 f1 f2'
          refine ⟨_, rfl, _, _, _, _, rfl, rfl, SqL.of f1, rfl, _, _, rfl, rfl, .inl ⟨by omega, by omega⟩, _, rfl, _, _, rfl, rfl, _, _, rfl, rfl, .inl ⟨_, rfl, _, _, rfl, rfl, (show (2147483647 : Int) ≠ 0 by decide), _, rfl, st, _, 3, 3, rfl, rfl, f1, rfl, ?_⟩⟩
          have r1 := Int.fmod_nonneg_of_pos (m * 8191 + z + 3) (show (0 : Int) < 2147483647 by decide)
          have r2 := Int.fmod_lt_of_pos (m * 8191 + z + 3) (show (0 : Int) < 2147483647 by decide)
          have e4 : Ex [st, q] F H F (upd H4 st (sO q 0 (k + 1) ((m * 8191 + z + 3).fmod 2147483647))) := e3.trans (Ex.put e3.fh f1_ (by simp))
          have g1 : (upd H4 st (sO q 0 (k + 1) ((m * 8191 + z + 3).fmod 2147483647))) st = some (sO q 0 (k + 1) ((m * 8191 + z + 3).fmod 2147483647)) := upd_same
          have g2 : (upd H4 st (sO q 0 (k + 1) ((m * 8191 + z + 3).fmod 2147483647))) q = some (.lst (ns.map V.int)) := by rw [upd_ne hne.symm]; exact f2'
          refine ⟨_, rfl, _, _, rfl, rfl, ⟨by decide, by decide, by decide⟩, _, _, rfl, rfl, _, rfl, ?_⟩
          have done_ : ∀ l' : Int, 0 ≤ l' → (fun (σ' : L2.St) (H' : Hp) => (∃ (ns : List Int) (l m : Int) (v : Option V), σ' = [some (V.ref st), some (V.int many), v, none, none] ∧ Ex [st, q] F H F H' ∧ H' st = some (.lst [.ref q, .int l, .int (k + 1), .int m]) ∧ H' q = some (.lst (ns.map V.int)) ∧ 0 ≤ l ∧ 0 ≤ m ∧ m < 2147483647) ∧ (match H' q with | some (.lst xs) => xs.length | _ => 0) < (match H2 q with | some (.lst xs) => xs.length | _ => 0))
              [some (V.ref st), some (V.int many), some (.int z), none, none] (upd (upd H4 st (sO q 0 (k + 1) ((m * 8191 + z + 3).fmod 2147483647))) st (sO q l' (k + 1) ((m * 8191 + z + 3).fmod 2147483647))) := fun l' hl' => by
            have y : (upd (upd H4 st (sO q 0 (k + 1) ((m * 8191 + z + 3).fmod 2147483647))) st (sO q l' (k + 1) ((m * 8191 + z + 3).fmod 2147483647))) q = some (.lst (ns.map V.int)) := by rw [upd_ne hne.symm]; exact g2
            refine ⟨⟨ns, l', _, _, rfl, e4.trans (Ex.put e4.fh f1_ (by simp)), upd_same, y, hl', r1, r2⟩, ?_⟩
            show (match (upd (upd H4 st (sO q 0 (k + 1) ((m * 8191 + z + 3).fmod 2147483647))) st _) q with | some (.lst xs) => xs.length | _ => 0) < _
            rw [y, e2]
            simp
          refine ite2 (fun hz => ?_) (fun hz => ?_)
          · refine ⟨_, rfl, _, rfl, st, _, 1, 1, rfl, rfl, g1, rfl, done_ z ?_⟩
            have : (10 : Int) ^ (18 : Int).toNat ≤ z := by simpa using hz
            have h10 : (10 : Int) ^ (18 : Int).toNat = 1000000000000000000 := by decide
            omega
          · exact ⟨_, rfl, st, _, 1, 1, rfl, rfl, g1, rfl, done_ 0 (by decide)⟩
      · exact after _ _ _ _ _ e' d1 d2 (by decide) hm1 hm2
    · exact after _ _ _ _ _ e e1 e2 hl hm1 hm2
  · intro σ H Q Q' hQ hq
    obtain ⟨v, h1, p, xs, i, v2, h2, h3, h4, h5, h6, k1, h7, h8⟩ := hq
    refine ⟨v, h1, p, xs, i, v2, h2, h3, h4, h5, h6, k1, h7, ?_⟩
    revert h8
    cases k1
    · intro h8; exact hQ _ _ h8
    · intro h8
      obtain ⟨v, h1, p, xs, i, v2, h2, h3, h4, h5, h6, h7⟩ := h8
      refine ⟨v, h1, p, xs, i, v2, h2, h3, h4, h5, h6, fun p hp => ?_⟩
      obtain ⟨d, e, q1, q2, q3, q4, k2, q5, q6⟩ := h7 p hp
      exact ⟨d, e, q1, q2, q3, q4, k2, q5, hQ _ _ q6⟩
end
end T3

namespace T3
open PySem PySem.Spec PyProof.Rows L2 Ly
section
variable {P : Program} {w : World} {K : PySem.W.Frag} {mg : Str → Option Value} {base : Heap}
theorem Strm.up {F F' H : Hp} {st q : Addr} {c : Int} (s : Strm F H st q c) (h1 : F' st = none) (h2 : F' q = none) : Strm F' H st q c := by
  obtain ⟨ns, l, k, m, a, b, c1, c2, c3, c4, c5, _, _, d⟩ := s
  exact ⟨ns, l, k, m, a, b, c1, c2, c3, c4, c5, h1, h2, d⟩
/-- what leaves the spring alone keeps it -/
theorem Strm.ex {M : List Addr} {F H F' H' : Hp} {st q : Addr} {c : Int} (s : Strm F H st q c) (e : Ex M F H F' H') (h1 : st ∉ M) (h2 : q ∉ M) : Strm F' H' st q c := by
  obtain ⟨ns, l, k, m, a, b, c1, c2, c3, c4, c5, d1, d2, d⟩ := s
  exact ⟨ns, l, k, m, e.at a h1, e.at b h2, c1, c2, c3, c4, c5, e.nf d1 (ne_none a), e.nf d2 (ne_none b), d⟩
theorem Strm.ex0 {F H F' H' : Hp} {st q : Addr} {c : Int} (s : Strm F H st q c) (e : Ex [] F H F' H') : Strm F' H' st q c := s.ex e (by simp) (by simp)
theorem Strm.le {F H : Hp} {st q : Addr} {c c' : Int} (s : Strm F H st q c) (h : c ≤ c') : Strm F H st q c' := by
  obtain ⟨ns, l, k, m, a, b, c1, c2, c3, c4, c5, d⟩ := s
  exact ⟨ns, l, k, m, a, b, c1, c2, c3, c4, by omega, d⟩
theorem Strm.hs {F H : Hp} {st q : Addr} {c : Int} (s : Strm F H st q c) : H st ≠ none ∧ H q ≠ none ∧ F st = none ∧ F q = none := by
  obtain ⟨ns, l, k, m, a, b, c1, c2, c3, c4, c5, d1, d2, d⟩ := s
  exact ⟨ne_none a, ne_none b, d1, d2⟩
/-- what is no part of the spring stands behind a draw -/
theorem Strm.ne {F H : Hp} {st q p : Addr} {c : Int} (s : Strm F H st q c) (h : F p ≠ none ∨ H p = none) : p ∉ [st, q] := by
  obtain ⟨a, b, c, d⟩ := s.hs
  intro z
  simp only [List.mem_cons, List.not_mem_nil, or_false] at z
  rcases h with h | h
  · rcases z with z | z
    · rw [z] at h; exact h c
    · rw [z] at h; exact h d
  · rcases z with z | z
    · rw [z] at h; exact a h
    · rw [z] at h; exact b h
/-- one of some things -/
def spPick : Sp := fun vs H Q _ => ∃ (st q a : Addr) (xs : List V) (F : Hp) (c : Int), vs = [.ref st, .ref a] ∧ Same F H ∧ Strm F H st q c ∧ F a = some (.lst xs) ∧ 0 < xs.length ∧ xs.length < 1000000 ∧ c < 1000000000 ∧
  ∀ v H', v ∈ xs → Ex [st, q] F H F H' → Strm F H' st q (c + 1) → Q v H'
theorem ok_law_pick (T : Top K mg) : Ok P w K mg base "_law_pick" 2 ["_law_stream", "_law_some"] spPick := by
  have G : Ok P w K mg base "_law_draw" 1 ["_law_stream", "_law_many"] spDraw := ok_law_draw T
  refine ok_of T.g__law_pick T.F_law_pick sc_law_pick (fun _ _ _ _ _ _ us hl => match us, hl with | [_, _], _ => rfl) (fun vs H Q E h => ?_) (fun cdv A outer s H vs Q E hr h => ?_)
  · obtain ⟨st, q, a, xs, F, c, rfl, _⟩ := h
    rfl
  obtain ⟨st, q, a, xs, F, c, rfl, hF, hS, ha, hl0, hl1, hc, kk⟩ := h
  refine ⟨_, (pss_one (ps_ret (pe_ix ix_list (pv 1) (pe_ok G hr (pa_cons (pv 0) (pa_cons (pe_callB call_len_seq rfl T.b_len (by decide +kernel) (pa_cons (pv 1) pa_nil)) pa_nil))) (fun _ _ => rfl)))), ?_⟩
  refine ⟨_, rfl, _, rfl, _, rfl, _, _, rfl, .inl (SqL.of (hF _ _ ha)), st, q, _, F, c, rfl, hF, hS, (by omega), (by omega), hc, fun d H1 d0 d1 e1 s1 => ?_⟩
  have hd : d.toNat < xs.length := by omega
  refine ⟨a, xs, d, xs[d.toNat], rfl, rfl, SqL.of (e1.fh _ _ ha), ?_, kk _ _ (List.getElem_mem hd) e1 s1⟩
  exact at_toNat d0 hd
/-- the things in a drawn order: a new list -/
def spMixed : Sp := fun vs H Q _ => ∃ (st q a : Addr) (xs : List V) (F : Hp) (c : Int), vs = [.ref st, .ref a] ∧ Same F H ∧ Strm F H st q c ∧ F a = some (.lst xs) ∧ xs.length < 100000 ∧ c + xs.length < 1000000000 ∧
  ∀ p ys H', ys.Perm xs → Ex [st, q] F H F H' → Strm F H' st q (c + xs.length) → H p = none → H' p = some (.lst ys) → F p = none → Q (.ref p) H'
theorem ok_law_mixed (T : Top K mg) : Ok P w K mg base "_law_mixed" 2 ["_law_stream", "_law_some"] spMixed := by
  have G_draw : Ok P w K mg base "_law_draw" 1 ["_law_stream", "_law_many"] spDraw := ok_law_draw T
  refine ok_of T.g__law_mixed T.F_law_mixed sc_law_mixed (fun _ _ _ _ _ _ us hl => match us, hl with | [_, _], _ => rfl) (fun vs H Q E h => ?_) (fun cdv A outer s H vs Q E hr h => ?_)
  · obtain ⟨st, q, a, xs, F, c, rfl, _⟩ := h
    rfl
  obtain ⟨st, q, a, xs, F, c, rfl, hF, hS, ha, hl1, hc, kk⟩ := h
  refine ⟨_, (pss_cons (ps_set (i := 2) sc_law_mixed.nd rfl (Or.inr rfl) (pe_callTy call_list_of rfl T.b_list (by decide +kernel) (pa_cons (pv 1) pa_nil)))
    (pss_one (ps_ret (pe_lc (own := [("_law_k", 3)]) (g := (gName 3)) (tt := tYes) (te := (tBM K "list" rPopAt (tVar 2) (tCons (tCall spDraw [] E0 (tCons (tVar 0) (tCons (tCB (RLen K) (tCons (tVar 2) tNil)) tNil))) tNil))) rfl sc_law_mixed.nd (pi_range1 rfl T.b_range (pa_cons (pe_callB call_len_seq rfl T.b_len (by decide +kernel) (pa_cons (pv 2) pa_nil)) pa_nil)) (blkOk_by (own := [("_law_k", 3)]) (N := N_law_mixed) (sc := defScope s_law_mixed) (by decide +kernel)) (fun _ _ _ _ _ => (pg_name (i := 3) sc_law_mixed.nd rfl (Or.inl rfl))) (fun _ _ _ _ _ => pts_nil) (fun _ _ _ _ _ => (pe_bm PySem.F.plainAttrs_list PySem.F.slot_list_pop PySem.F.type_list_pop mt_popAt (pv 2) (pa_cons (pe_ok G_draw hr (pa_cons (pv 0) (pa_cons (pe_callB call_len_seq rfl T.b_len (by decide +kernel) (pa_cons (pv 2) pa_nil)) pa_nil))) pa_nil))))))), ?_⟩
  refine ⟨_, rfl, _, _, rfl, .inl (SqL.of (hF _ _ ha)), fun L hL => ?_⟩
  have e0 : Ex [st, q] F H F (upd H L (.lst xs)) := Ex.new hF hL
  refine ⟨_, rfl, _, _, rfl, .inl (SqL.of upd_same), _, rfl, by omega, by omega, fun D hD => ?_⟩
  obtain ⟨hD0, hDL⟩ := Ly.upd_none hD
  have fL : F L = none := Same.free hF hL
  have fD : F D = none := Same.free hF hD0
  refine lc_it walk_range (fun i H' => ∃ acc ls, Ex [st, q] F H F H' ∧ Strm F H' st q (c + i) ∧ H' L = some (.lst ls) ∧ H' D = some (.lst acc) ∧ (acc ++ ls).Perm xs ∧ acc.length = i) ?_ (fun _ _ _ _ => trivial) ?_ ?_
  · refine ⟨[], xs, e0.trans (Ex.new e0.fh hD), ?_, by rw [upd_ne hDL.symm]; exact upd_same, upd_same, by simp, rfl⟩
    have := (hS.ex0 (Ex.new hF hL (o := .lst xs))).ex0 (Ex.new (F := F) (fun b v z => by rw [upd_ne (ne_of_none (hF b v z) hL)]; exact hF b v z) hD (o := .lst []))
    simpa using this
  · rintro i x H1 H2 hi ⟨acc, ls, e1, s1, l1, d1, pm, al⟩ ⟨rfl, rfl⟩
    refine ⟨rfl, ?_⟩
    have hlen : acc.length + ls.length = xs.length := by simpa using pm.length_eq
    have hi' : i < xs.length := by simpa using hi
    refine ⟨_, rfl, .inl ⟨rfl, _, SqL.of l1⟩, _, rfl, _, rfl, _, _, rfl, .inl (SqL.of l1), st, q, _, F, c + i, rfl, e1.fh, s1, by omega, by omega, by omega, fun d H3 d0 d1' e3 s3 => ?_⟩
    have l3 : H3 L = some (.lst ls) := e3.at l1 (hS.ne (.inr hL))
    have d3 : H3 D = some (.lst acc) := e3.at d1 (hS.ne (.inr hD0))
    have hd : d.toNat < ls.length := by omega
    have nLD : L ≠ D := hDL.symm
    refine ⟨L, ls, d, d.toNat, ls[d.toNat], rfl, rfl, l3, by omega, by omega, ?_, by simp [hd], acc, by rw [upd_ne nLD.symm]; exact d3, ?_, ?_⟩
    · exact sIx d0 d1'
    · exact Nat.lt_of_le_of_lt (show acc.length ≤ 100000 by omega) (by decide)
    · have e4 : Ex [st, q] F H F (upd H3 L (.lst (ls.eraseIdx d.toNat))) := (e1.trans e3).wr hL fL
      refine ⟨acc ++ [ls[d.toNat]], ls.eraseIdx d.toNat, e4.wr hD0 fD, ?_, by rw [upd_ne nLD]; exact upd_same, upd_same, ?_, by simp [al]⟩
      · obtain ⟨ns, l, k, m, a1, b1, c1, c2, c3, c4, c5, f1, f2, g⟩ := s3
        have n1 := hS.ne (p := L) (.inr hL)
        have n2 := hS.ne (p := D) (.inr hD0)
        simp only [List.mem_cons, List.not_mem_nil, or_false, not_or] at n1 n2
        refine ⟨ns, l, k, m, ?_, ?_, c1, c2, c3, c4, by omega, f1, f2, g⟩
        · rw [upd_ne (Ne.symm n2.1), upd_ne (Ne.symm n1.1)]; exact a1
        · rw [upd_ne (Ne.symm n2.2), upd_ne (Ne.symm n1.2)]; exact b1
      · refine List.Perm.trans ?_ pm
        rw [List.append_assoc]
        refine List.Perm.append_left acc ?_
        show (ls[d.toNat] :: ls.eraseIdx d.toNat).Perm ls
        exact perm_erase ls _ hd
  · rintro H1 ⟨acc, ls, e1, s1, l1, d1, pm, al⟩
    have hlen : acc.length + ls.length = xs.length := by simpa using pm.length_eq
    have hls : ls = [] := List.length_eq_zero_iff.mp (by simp at al; omega)
    subst hls
    refine kk D acc _ (by simpa using pm) e1 (s1.le (by simp)) hD0 d1 fD
end
end T3

namespace T3
open PySem PySem.Spec PyProof.Rows L2 Ly
section
variable {P : Program} {w : World} {K : PySem.W.Frag} {mg : Str → Option Value} {base : Heap}
def spIsList : Sp := fun vs H Q _ => ∃ (x : V) (d : PyData) (F : Hp), vs = [x] ∧ Same F H ∧ Dd F d x ∧ ∀ H', Ex [] F H F H' → Q (.bl (seqy d)) H'
theorem ok_is_list (T : Top K mg) : Ok P w K mg base "is_list" 1 ["thing"] spIsList := by
  refine ok_of T.g_is_list T.F_is_list sc_is_list (fun _ _ _ _ _ _ us hl => match us, hl with | [_], _ => rfl) (fun vs H Q E h => ?_) (fun cdv A outer s H vs Q E hr h => ?_)
  · first | (obtain ⟨rfl, _⟩ := h; rfl) | (obtain ⟨_, rfl, _⟩ := h; rfl) | (obtain ⟨_, _, rfl, _⟩ := h; rfl) | (obtain ⟨_, _, _, rfl, _⟩ := h; rfl) | (obtain ⟨_, _, _, _, rfl, _⟩ := h; rfl) | (obtain ⟨_, _, _, _, _, rfl, _⟩ := h; rfl) | (obtain ⟨_, _, _, _, _, _, rfl, _⟩ := h; rfl) | (obtain ⟨_, _, _, _, _, _, _, rfl, _⟩ := h; rfl) | (obtain ⟨_, _, _, _, _, _, _, _, rfl, _⟩ := h; rfl) | (obtain ⟨_, _, _, _, _, _, _, _, _, rfl, _⟩ := h; rfl) | (obtain ⟨_, _, _, _, _, _, _, _, _, _, rfl, _⟩ := h; rfl) | (obtain ⟨_, _, _, _, _, _, _, _, _, _, _, rfl, _⟩ := h; rfl)
  obtain ⟨x, d, F, rfl, hF, hd, kk⟩ := h
  refine ⟨_, (pss_one (ps_ret (pe_callB call_isiT rfl T.b_isinstance (by decide +kernel) (pa_cons (pv 0) (pa_cons (pe_tup (pa_cons (pe_bltn rfl T.b_list (by decide +kernel) (show RelV (.ty "list") _ from rfl)) (pa_cons (pe_bltn rfl T.b_tuple (by decide +kernel) (show RelV (.ty "tuple") _ from rfl)) pa_nil))) pa_nil))))), ?_⟩
  refine ⟨_, rfl, by show 2 ≤ sizeLine; decide, fun p hp => ?_⟩
  have e : Ex [] F H F (upd H p (.tup [.ty "list", .ty "tuple"])) := Ex.new hF hp
  exact ⟨x, p, _, .type (tyN d), [.type "list", .type "tuple"], seqy d, rfl, upd_same, .cons (.ty _) (.cons (.ty _) .nil), dd_tyx hd e.fh, kit_seq d, kk _ e⟩
def spIsInteger : Sp := fun vs H Q _ => ∃ (x : V) (d : PyData) (F : Hp), vs = [x] ∧ Same F H ∧ Dd F d x ∧ Q (.bl (inty d)) H
theorem ok_is_integer (T : Top K mg) : Ok P w K mg base "is_integer" 1 ["thing"] spIsInteger := by
  refine ok_of T.g_is_integer T.F_is_integer sc_is_integer (fun _ _ _ _ _ _ us hl => match us, hl with | [_], _ => rfl) (fun vs H Q E h => ?_) (fun cdv A outer s H vs Q E hr h => ?_)
  · first | (obtain ⟨rfl, _⟩ := h; rfl) | (obtain ⟨_, rfl, _⟩ := h; rfl) | (obtain ⟨_, _, rfl, _⟩ := h; rfl) | (obtain ⟨_, _, _, rfl, _⟩ := h; rfl) | (obtain ⟨_, _, _, _, rfl, _⟩ := h; rfl) | (obtain ⟨_, _, _, _, _, rfl, _⟩ := h; rfl) | (obtain ⟨_, _, _, _, _, _, rfl, _⟩ := h; rfl) | (obtain ⟨_, _, _, _, _, _, _, rfl, _⟩ := h; rfl) | (obtain ⟨_, _, _, _, _, _, _, _, rfl, _⟩ := h; rfl) | (obtain ⟨_, _, _, _, _, _, _, _, _, rfl, _⟩ := h; rfl) | (obtain ⟨_, _, _, _, _, _, _, _, _, _, rfl, _⟩ := h; rfl) | (obtain ⟨_, _, _, _, _, _, _, _, _, _, _, rfl, _⟩ := h; rfl)
  obtain ⟨x, d, F, rfl, hF, hd, kk⟩ := h
  refine ⟨_, (pss_one (ps_ret (pe_and (pe_callB call_isi rfl T.b_isinstance (by decide +kernel) (pa_cons (pv 0) (pa_cons (pe_bltn rfl T.b_int (by decide +kernel) (show RelV (.ty "int") _ from rfl)) pa_nil))) (pe_one (pe_not (pe_callB call_isi rfl T.b_isinstance (by decide +kernel) (pa_cons (pv 0) (pa_cons (pe_bltn rfl T.b_bool (by decide +kernel) (show RelV (.ty "bool") _ from rfl)) pa_nil)))))))), ?_⟩
  refine ⟨_, rfl, x, .ty "int", _, _, _, rfl, .ty _, dd_tyx hd hF, kit_int d, _, rfl, ?_⟩
  cases hi : intb d with
  | false =>
    refine iteF ?_
    have : inty d = false := by cases d <;> simp_all [inty, intb]
    rw [this] at kk; exact kk
  | true =>
    refine iteT ⟨_, rfl, x, .ty "bool", _, _, _, rfl, .ty _, dd_tyx hd hF, kit_bool d, _, rfl, ?_⟩
    have : inty d = !boolb d := by cases d <;> simp_all [inty, intb, boolb]
    rw [this] at kk; exact kk
def numy : PyData → Bool
  | .int i => decide (0 ≤ i)
  | _ => false
def spIsNumber : Sp := fun vs H Q _ => ∃ (x : V) (d : PyData) (F : Hp), vs = [x] ∧ Same F H ∧ Dd F d x ∧ Q (.bl (numy d)) H
theorem ok_is_number (T : Top K mg) : Ok P w K mg base "is_number" 2 ["thing"] spIsNumber := by
  have G_is_integer : Ok P w K mg base "is_integer" 1 ["thing"] spIsInteger := ok_is_integer T
  refine ok_of T.g_is_number T.F_is_number sc_is_number (fun _ _ _ _ _ _ us hl => match us, hl with | [_], _ => rfl) (fun vs H Q E h => ?_) (fun cdv A outer s H vs Q E hr h => ?_)
  · first | (obtain ⟨rfl, _⟩ := h; rfl) | (obtain ⟨_, rfl, _⟩ := h; rfl) | (obtain ⟨_, _, rfl, _⟩ := h; rfl) | (obtain ⟨_, _, _, rfl, _⟩ := h; rfl) | (obtain ⟨_, _, _, _, rfl, _⟩ := h; rfl) | (obtain ⟨_, _, _, _, _, rfl, _⟩ := h; rfl) | (obtain ⟨_, _, _, _, _, _, rfl, _⟩ := h; rfl) | (obtain ⟨_, _, _, _, _, _, _, rfl, _⟩ := h; rfl) | (obtain ⟨_, _, _, _, _, _, _, _, rfl, _⟩ := h; rfl) | (obtain ⟨_, _, _, _, _, _, _, _, _, rfl, _⟩ := h; rfl) | (obtain ⟨_, _, _, _, _, _, _, _, _, _, rfl, _⟩ := h; rfl) | (obtain ⟨_, _, _, _, _, _, _, _, _, _, _, rfl, _⟩ := h; rfl)
  obtain ⟨x, d, F, rfl, hF, hd, kk⟩ := h
  refine ⟨_, (pss_one (ps_ret (pe_and (pe_ok G_is_integer hr (pa_cons (pv 0) pa_nil)) (pe_one (pe_cmpR op_ge (pv 0) pe_int (nomark _)))))), ?_⟩
  refine ⟨_, rfl, x, d, F, rfl, hF, hd, _, rfl, ?_⟩
  cases d with
  | int i =>
    have := dd_int.mp hd
    subst this
    exact iteT ⟨_, rfl, _, _, rfl, rfl, kk⟩
  | _ => exact iteF kk
theorem ok_never {x : Str} {params : Arguments} {body : List Stmt} {scope : Scope} {ps : List Str} {k : Nat} (hm : mg x = some (.ref (He.ga K x)))
    (F : ∃ fd, FunD K x x params body scope [] [] (He.ga K x) fd)
    (hb : ∀ (kV doc pm : Value) (an : Option Addr) (cdv ct : Value) (us : List Value), us.length = ps.length → bindArgs (PySem.W.fnOf x x params body scope .none kV doc pm an cdv ct) ⟨us, []⟩ = pure (ps.zip us))
    {sp : Sp} (no : ∀ vs H Q E, sp vs H Q E → False) : Ok P w K mg base x k ps sp := by
  obtain ⟨fd, F⟩ := F
  exact ⟨fd, hm, F.kp, F.bindsN hb, ⟨fun vs H Q E h => (no _ _ _ _ h).elim, fun A outer s H args us vs Q E _ _ _ _ h => (no _ _ _ _ h).elim⟩⟩
def spIsWord (n : Nat) : Sp := fun vs H Q _ => ∃ (x : V) (d : PyData) (F : Hp), vs = [x] ∧ Same F H ∧ Dd F d x ∧ d.depth < n ∧ ∀ H', Ex [] F H F H' → Q (.bl (wordy d)) H'
theorem bools_take {ds : List PyData} {k : Nat} {d : PyData} (h : ds[k]? = some d) (f : PyData → V) : (ds.take (k + 1)).map f = (ds.take k).map f ++ [f d] := by
  rw [List.take_add_one, h]; simp
theorem wordys_all : ∀ ds : List PyData, (ds.map wordy).all id = wordys ds
  | [] => by simp [wordys]
  | d :: ds => by simp only [List.map_cons, List.all_cons, wordys, id]; rw [wordys_all ds]
theorem dds_small {F H : Hp} {a : Addr} {vs : List V} : True := trivial
theorem ok_is_word (T : Top K mg) : ∀ n : Nat, Ok P w K mg base "is_word" (n + 3) ["thing"] (spIsWord n)
  | 0 => ok_never T.g_is_word T.F_is_word (fun _ _ _ _ _ _ us hl => match us, hl with | [_], _ => rfl) fun vs H Q E h => by
    obtain ⟨x, d, F, _, _, _, h, _⟩ := h
    omega
  | n + 1 => by
    have G_is_list : Ok P w K mg base "is_list" 1 ["thing"] spIsList := ok_is_list T
    have G_is_integer : Ok P w K mg base "is_integer" 1 ["thing"] spIsInteger := ok_is_integer T
    have G_is_word : Ok P w K mg base "is_word" (n + 3) ["thing"] (spIsWord n) := ok_is_word T n
    refine ok_of T.g_is_word T.F_is_word sc_is_word (fun _ _ _ _ _ _ us hl => match us, hl with | [_], _ => rfl) (fun vs H Q E h => ?_) (fun cdv A outer s H vs Q E hr h => ?_)
    · first | (obtain ⟨rfl, _⟩ := h; rfl) | (obtain ⟨_, rfl, _⟩ := h; rfl) | (obtain ⟨_, _, rfl, _⟩ := h; rfl) | (obtain ⟨_, _, _, rfl, _⟩ := h; rfl) | (obtain ⟨_, _, _, _, rfl, _⟩ := h; rfl) | (obtain ⟨_, _, _, _, _, rfl, _⟩ := h; rfl) | (obtain ⟨_, _, _, _, _, _, rfl, _⟩ := h; rfl) | (obtain ⟨_, _, _, _, _, _, _, rfl, _⟩ := h; rfl) | (obtain ⟨_, _, _, _, _, _, _, _, rfl, _⟩ := h; rfl) | (obtain ⟨_, _, _, _, _, _, _, _, _, rfl, _⟩ := h; rfl) | (obtain ⟨_, _, _, _, _, _, _, _, _, _, rfl, _⟩ := h; rfl) | (obtain ⟨_, _, _, _, _, _, _, _, _, _, _, rfl, _⟩ := h; rfl)
    obtain ⟨x, d, F, rfl, hF, hd, hn, kk⟩ := h
    refine ⟨_, (pss_cons (ps_if (pt_val (pe_ok G_is_list hr (pa_cons (pv 0) pa_nil))) (pss_one (ps_ret (pe_callB (cr_all rfl) rfl T.b_all (by decide +kernel) (pa_cons (pe_lc (own := [("part", 1)]) (g := (gName 1)) (tt := tYes) (te := (tCall (spIsWord n) [] E0 (tCons (tVar 1) tNil))) rfl sc_is_word.nd (pi_seqV (pv 0)) (blkOk_by (own := [("part", 1)]) (N := N_is_word) (sc := defScope s_is_word) (by decide +kernel)) (fun _ _ _ _ _ => (pg_name (i := 1) sc_is_word.nd rfl (Or.inl rfl))) (fun _ _ _ _ _ => pts_nil) (fun _ _ _ _ _ => (pe_ok G_is_word hr (pa_cons (pv 1) pa_nil)))) pa_nil)))) pss_nil)
    (pss_one (ps_ret (pe_or (pe_ok G_is_integer hr (pa_cons (pv 0) pa_nil)) (pe_one (pe_callB call_isi rfl T.b_isinstance (by decide +kernel) (pa_cons (pv 0) (pa_cons (pe_bltn rfl T.b_str (by decide +kernel) (show RelV (.ty "str") _ from rfl)) pa_nil)))))))), ?_⟩
    refine ⟨_, rfl, x, d, F, rfl, hF, hd, fun H1 e1 => ⟨_, rfl, ?_⟩⟩
    have seq : ∀ (ds : List PyData) (a : Addr) (vs : List V), (F a = some (.lst vs) ∨ F a = some (.tup vs)) → x = .ref a → Dds F ds vs → wordy d = wordys ds → PyData.depthAll ds < n → vs.length < sizeLine →
        tRet (tCB (rAll K) (tCons (tLc (iSeqV K 0) (gName 1) tYes (tCall (spIsWord n) [] E0 (tCons (tVar 1) tNil)) [1]) tNil)) { nx := fun _ H' => Q .non H', rt := Q } [some x, none] H1 := by
      intro ds a vs ha hx hds hw hdn hvs
      subst hx
      refine r_ret (r_cb (r_cons (lcg_seqV [] rfl ha e1.fh (by simp) hvs (fun k acc _ => acc = (ds.take k).map fun d => .bl (wordy d)) (fun _ _ _ => True) (fun _ _ _ _ _ h => h) (fun _ _ _ _ _ _ _ _ _ => trivial) rfl trivial ?_ ?_)))
      · intro k y acc F' H' Kk Nk hk hy e p _ _ k1 _
        refine ⟨rfl, _, rfl, ?_⟩
        obtain ⟨d', hd', dd'⟩ := hds.get hy
        refine ⟨y, d', F', rfl, e.fh, dd'.up e.ff, ?_, fun H4 e4 => k1 _ F' H4 e4 ?_ trivial⟩
        · have := depth_mem (List.mem_of_getElem? hd'); omega
        · rw [bools_take hd', p]
      · intro D acc F' H' e hD fD hd' p _ _
        have l1 := hds.len
        refine ⟨D, ds.map wordy, rfl, SqL.of (by rw [hd', p, List.take_of_length_le (by omega)]; simp), ?_⟩
        rw [wordys_all, ← hw]
        exact kk H' (by
          have := e1.trans (e.mono (M' := []) (by simp))
          exact ⟨Same.refl F, fun b o z => this.fh b o (this.ff b o z), this.hh, this.dm, fun b z => .inl z⟩)
    cases d with
    | list ds =>
      obtain ⟨a, vs, h1, h2, h3, h4⟩ := dd_list.mp hd
      exact iteT (seq ds a vs (.inl h2) h1 h3 (by simp [wordy]) (by simp [PyData.depth] at hn; omega) (by rw [h3.len]; exact Nat.lt_trans h4 (by decide)))
    | tuple ds =>
      obtain ⟨a, vs, h1, h2, h3, h4⟩ := dd_tuple.mp hd
      exact iteT (seq ds a vs (.inr h2) h1 h3 (by simp [wordy]) (by simp [PyData.depth] at hn; omega) (by rw [h3.len]; exact Nat.lt_trans h4 (by decide)))
    | int i => exact iteF ⟨_, rfl, x, _, F, rfl, e1.fh, hd, _, rfl, iteT (kk _ e1)⟩
    | none => exact iteF ⟨_, rfl, x, _, F, rfl, e1.fh, hd, _, rfl, iteF ⟨_, rfl, x, .ty "str", _, _, _, rfl, .ty _, dd_tyx hd e1.fh, kit_str _, kk _ e1⟩⟩
    | bool b => exact iteF ⟨_, rfl, x, _, F, rfl, e1.fh, hd, _, rfl, iteF ⟨_, rfl, x, .ty "str", _, _, _, rfl, .ty _, dd_tyx hd e1.fh, kit_str _, kk _ e1⟩⟩
    | str s => exact iteF ⟨_, rfl, x, _, F, rfl, e1.fh, hd, _, rfl, iteF ⟨_, rfl, x, .ty "str", _, _, _, rfl, .ty _, dd_tyx hd e1.fh, kit_str _, kk _ e1⟩⟩
    | dict kvs => exact iteF ⟨_, rfl, x, _, F, rfl, e1.fh, hd, _, rfl, iteF ⟨_, rfl, x, .ty "str", _, _, _, rfl, .ty _, dd_tyx hd e1.fh, kit_str _, kk _ e1⟩⟩
end
end T3

namespace T3
open PySem PySem.Spec PyProof.Rows L2 Ly
section
variable {P : Program} {w : World} {K : PySem.W.Frag} {mg : Str → Option Value} {base : Heap}
theorem toWs_at : ∀ {ds : List PyData} {k : Nat} {d : PyData}, ds[k]? = some d → (toWs ds).take (k + 1) = (toWs ds).take k ++ [toW d]
  | [], k, d, h => by simp at h
  | e :: ds, 0, d, h => by simp at h; subst h; simp [toWs]
  | e :: ds, k + 1, d, h => by
    simp at h
    simp only [toWs, List.take_succ_cons, List.cons_append]
    rw [toWs_at h]
theorem toWs_len : ∀ ds : List PyData, (toWs ds).length = ds.length
  | [] => rfl
  | _ :: ds => by simp only [toWs, List.length_cons, toWs_len ds]
theorem wordys_mem {d : PyData} : ∀ {ds : List PyData}, wordys ds = true → d ∈ ds → wordy d = true
  | [], _, h => by simp at h
  | e :: ds, h, hm => by
    simp only [wordys, Bool.and_eq_true] at h
    rcases List.mem_cons.mp hm with q | q
    · rw [q]; exact h.1
    · exact wordys_mem h.2 q
def spAsWord (n : Nat) : Sp := fun vs H Q _ => ∃ (x : V) (d : PyData) (F : Hp), vs = [x] ∧ Same F H ∧ Dd F d x ∧ wordy d = true ∧ d.depth < n ∧ ∀ v F' H', Ex [] F H F' H' → Wk F' (toW d) v → Q v H'
theorem ok_as_word (T : Top K mg) : ∀ n : Nat, Ok P w K mg base "as_word" (n + 3) ["thing"] (spAsWord n)
  | 0 => ok_never T.g_as_word T.F_as_word (fun _ _ _ _ _ _ us hl => match us, hl with | [_], _ => rfl) fun vs H Q E h => by
    obtain ⟨x, d, F, _, _, _, _, h, _⟩ := h
    omega
  | n + 1 => by
    have G_is_list : Ok P w K mg base "is_list" 1 ["thing"] spIsList := ok_is_list T
    have G_as_word : Ok P w K mg base "as_word" (n + 3) ["thing"] (spAsWord n) := ok_as_word T n
    refine ok_of T.g_as_word T.F_as_word sc_as_word (fun _ _ _ _ _ _ us hl => match us, hl with | [_], _ => rfl) (fun vs H Q E h => ?_) (fun cdv A outer s H vs Q E hr h => ?_)
    · first | (obtain ⟨rfl, _⟩ := h; rfl) | (obtain ⟨_, rfl, _⟩ := h; rfl) | (obtain ⟨_, _, rfl, _⟩ := h; rfl) | (obtain ⟨_, _, _, rfl, _⟩ := h; rfl) | (obtain ⟨_, _, _, _, rfl, _⟩ := h; rfl) | (obtain ⟨_, _, _, _, _, rfl, _⟩ := h; rfl) | (obtain ⟨_, _, _, _, _, _, rfl, _⟩ := h; rfl) | (obtain ⟨_, _, _, _, _, _, _, rfl, _⟩ := h; rfl) | (obtain ⟨_, _, _, _, _, _, _, _, rfl, _⟩ := h; rfl) | (obtain ⟨_, _, _, _, _, _, _, _, _, rfl, _⟩ := h; rfl) | (obtain ⟨_, _, _, _, _, _, _, _, _, _, rfl, _⟩ := h; rfl) | (obtain ⟨_, _, _, _, _, _, _, _, _, _, _, rfl, _⟩ := h; rfl)
    obtain ⟨x, d, F, rfl, hF, hd, hw, hn, kk⟩ := h
    refine ⟨_, (pss_one (ps_ret (pe_ifExp (pt_val (pe_ok G_is_list hr (pa_cons (pv 0) pa_nil))) (pe_callTy call_tuple_of rfl T.b_tuple (by decide +kernel) (pa_cons (pe_lc (own := [("part", 1)]) (g := (gName 1)) (tt := tYes) (te := (tCall (spAsWord n) [] E0 (tCons (tVar 1) tNil))) rfl sc_as_word.nd (pi_seqV (pv 0)) (blkOk_by (own := [("part", 1)]) (N := N_as_word) (sc := defScope s_as_word) (by decide +kernel)) (fun _ _ _ _ _ => (pg_name (i := 1) sc_as_word.nd rfl (Or.inl rfl))) (fun _ _ _ _ _ => pts_nil) (fun _ _ _ _ _ => (pe_ok G_as_word hr (pa_cons (pv 1) pa_nil)))) pa_nil)) (pv 0)))), ?_⟩
    refine r_ret (r_if (r_b ⟨_, rfl, x, d, F, rfl, hF, hd, fun H1 e1 => ⟨_, rfl, ?_⟩⟩))
    have seq : ∀ (ds : List PyData) (a : Addr) (vs : List V), (F a = some (.lst vs) ∨ F a = some (.tup vs)) → x = .ref a → Dds F ds vs → ds.length < 1000000 → wordys ds = true → toW d = .tup (toWs ds) → PyData.depthAll ds < n →
        tCB (RTuple K) (tCons (tLc (iSeqV K 0) (gName 1) tYes (tCall (spAsWord n) [] E0 (tCons (tVar 1) tNil)) [1]) tNil) [some x, none] H1 Q := by
      intro ds a vs ha hx hds hl hws htw hdn
      subst hx
      have l1 := hds.len
      refine r_cb (r_cons (lcg_seqV [] rfl ha e1.fh (by simp) (by rw [l1]; exact Nat.lt_trans hl (by decide)) (fun k acc F => Wks F ((toWs ds).take k) acc) (fun _ _ _ => True) (fun _ _ _ _ h q => q.up h) (fun _ _ _ _ _ _ _ _ _ => trivial) (by simp; exact Wks.nil) trivial ?_ ?_))
      · intro k y acc F' H' Kk Nk hk hy e p _ _ k1 _
        refine ⟨rfl, _, rfl, ?_⟩
        obtain ⟨d', hd', dd'⟩ := hds.get hy
        refine ⟨y, d', F', rfl, e.fh, dd'.up e.ff, wordys_mem hws (List.mem_of_getElem? hd'), ?_, fun v F4 H4 e4 wv => k1 v F4 H4 e4 ?_ trivial⟩
        · have := depth_mem (List.mem_of_getElem? hd'); omega
        · rw [toWs_at hd']
          exact (p.up e4.ff).app (Wks.one wv)
      · intro D acc F' H' e hD fD hd' p _ _
        rw [List.take_of_length_le (by rw [toWs_len, l1]; exact Nat.le_refl _)] at p
        refine ⟨D, acc, rfl, .inl ⟨SqL.of hd', fun q hq => ?_⟩⟩
        have e2 : Ex [] F H (upd F' q (.tup acc)) (upd H' q (.tup acc)) := (e1.trans e).trans (Ex.newF e.fh hq)
        refine kk _ _ _ e2 ?_
        rw [htw]
        exact wk_new (Same.free e.fh hq) p (by rw [toWs_len]; exact hl)
    cases d with
    | list ds =>
      obtain ⟨a, vs, h1, h2, h3, h4⟩ := dd_list.mp hd
      exact iteT (seq ds a vs (.inl h2) h1 h3 h4 (by simpa [wordy] using hw) (by simp [toW]) (by simp [PyData.depth] at hn; omega))
    | tuple ds =>
      obtain ⟨a, vs, h1, h2, h3, h4⟩ := dd_tuple.mp hd
      exact iteT (seq ds a vs (.inr h2) h1 h3 h4 (by simpa [wordy] using hw) (by simp [toW]) (by simp [PyData.depth] at hn; omega))
    | int i => exact iteF ⟨_, rfl, kk _ _ _ e1 (by simpa [toW, Wk, Dd] using hd)⟩
    | str s => exact iteF ⟨_, rfl, kk _ _ _ e1 (by simpa [toW, Wk, Dd] using hd)⟩
    | none => simp [wordy] at hw
    | bool b => simp [wordy] at hw
    | dict kvs => simp [wordy] at hw
/-! ### the key of a word -/
theorem okeys_at : ∀ {ks : List W} {i : Nat} {k : W}, ks[i]? = some k → (okeys ks).take (i + 1) = (okeys ks).take i ++ [okey k]
  | [], i, k, h => by simp at h
  | e :: ks, 0, k, h => by simp at h; subst h; simp [okeys]
  | e :: ks, i + 1, k, h => by
    simp at h
    simp only [okeys, List.take_succ_cons, List.cons_append]
    rw [okeys_at h]
theorem fulls_mem {k : W} : ∀ {ks : List W}, fulls ks = true → k ∈ ks → full k = true
  | [], _, h => by simp at h
  | e :: ks, h, hm => by
    simp only [fulls, Bool.and_eq_true] at h
    rcases List.mem_cons.mp hm with q | q
    · rw [q]; exact h.1
    · exact fulls_mem h.2 q
theorem wdepth_mem {k : W} : ∀ {ks : List W}, k ∈ ks → k.depth ≤ NestedKey.depthAll ks
  | [], h => by simp at h
  | e :: ks, h => by
    simp only [NestedKey.depthAll]
    rcases List.mem_cons.mp h with h | h
    · rw [h]; omega
    · have := wdepth_mem h; omega
theorem ok_order_key (T : Top K mg) : ∀ n : Nat, Ok P w K mg base "order_key" (n + 3) ["word"] (spOrderKey n)
  | 0 => ok_never T.g_order_key T.F_order_key (fun _ _ _ _ _ _ us hl => match us, hl with | [_], _ => rfl) fun vs H Q E h => by
    obtain ⟨x, d, F, _, _, _, _, h, _⟩ := h
    omega
  | n + 1 => by
    have G_order_key : Ok P w K mg base "order_key" (n + 3) ["word"] (spOrderKey n) := ok_order_key T n
    refine ok_of T.g_order_key T.F_order_key sc_order_key (fun _ _ _ _ _ _ us hl => match us, hl with | [_], _ => rfl) (fun vs H Q E h => ?_) (fun cdv A outer s H vs Q E hr h => ?_)
    · first | (obtain ⟨rfl, _⟩ := h; rfl) | (obtain ⟨_, rfl, _⟩ := h; rfl) | (obtain ⟨_, _, rfl, _⟩ := h; rfl) | (obtain ⟨_, _, _, rfl, _⟩ := h; rfl) | (obtain ⟨_, _, _, _, rfl, _⟩ := h; rfl) | (obtain ⟨_, _, _, _, _, rfl, _⟩ := h; rfl) | (obtain ⟨_, _, _, _, _, _, rfl, _⟩ := h; rfl) | (obtain ⟨_, _, _, _, _, _, _, rfl, _⟩ := h; rfl) | (obtain ⟨_, _, _, _, _, _, _, _, rfl, _⟩ := h; rfl) | (obtain ⟨_, _, _, _, _, _, _, _, _, rfl, _⟩ := h; rfl) | (obtain ⟨_, _, _, _, _, _, _, _, _, _, rfl, _⟩ := h; rfl) | (obtain ⟨_, _, _, _, _, _, _, _, _, _, _, rfl, _⟩ := h; rfl)
    obtain ⟨x, k, F, rfl, hF, hk, hf, hn, kk⟩ := h
    refine ⟨_, (pss_cons (ps_if (pt_val (pe_callB call_isi rfl T.b_isinstance (by decide +kernel) (pa_cons (pv 0) (pa_cons (pe_bltn rfl T.b_tuple (by decide +kernel) (show RelV (.ty "tuple") _ from rfl)) pa_nil)))) (pss_one (ps_ret (pe_tup (pa_cons pe_int (pa_cons (pe_callTy call_tuple_of rfl T.b_tuple (by decide +kernel) (pa_cons (pe_lc (own := [("part", 1)]) (g := (gName 1)) (tt := tYes) (te := (tCall (spOrderKey n) [] E0 (tCons (tVar 1) tNil))) rfl sc_order_key.nd (pi_tup (pv 0)) (blkOk_by (own := [("part", 1)]) (N := N_order_key) (sc := defScope s_order_key) (by decide +kernel)) (fun _ _ _ _ _ => (pg_name (i := 1) sc_order_key.nd rfl (Or.inl rfl))) (fun _ _ _ _ _ => pts_nil) (fun _ _ _ _ _ => (pe_ok G_order_key hr (pa_cons (pv 1) pa_nil)))) pa_nil)) pa_nil))))) pss_nil)
    (pss_one (ps_ret (pe_ifExp (pt_val (pe_callB call_isi rfl T.b_isinstance (by decide +kernel) (pa_cons (pv 0) (pa_cons (pe_bltn rfl T.b_str (by decide +kernel) (show RelV (.ty "str") _ from rfl)) pa_nil)))) (pe_tup (pa_cons pe_int (pa_cons (pv 0) pa_nil))) (pe_tup (pa_cons pe_int (pa_cons (pv 0) pa_nil))))))), ?_⟩
    refine r_seq (r_ifS (r_b ⟨_, rfl, x, .ty "tuple", _, _, _, rfl, .ty _, dd_tyx (wk_dd hk) hF, kit_tup _, _, rfl, ?_⟩))
    have two : ∀ (i : Int) (v : V) (k' : W) (F1 H1 : Hp), Ex [] F H F1 H1 → Wk F1 k' v → ∀ p, H1 p = none → okey k = .tup [.num i, k'] → Q (.ref p) (upd H1 p (.tup [.int i, v])) := fun i v k' F1 H1 e wv p hp ek =>
      kk _ _ _ (e.trans (Ex.newF e.fh hp)) (by rw [ek]; exact wk_new (Same.free e.fh hp) (Wks.cons (wk_num.mpr rfl) (Wks.one wv)))
    cases k with
    | tup ks =>
      obtain ⟨a, vs, rfl, h2, h3, h4⟩ := wk_tup.mp hk
      have l1 := h3.len
      refine iteT (r_ret (r_tup (r_cons (r_c (r_cons (r_cb (r_cons (lcg_tup [] (fun R h => ⟨_, rfl, h⟩) h2 hF (by simp) (by rw [l1]; exact Nat.lt_trans h4 (by decide)) (fun k acc F => Wks F ((okeys ks).take k) acc) (fun _ _ _ => True) (fun _ _ _ _ h q => q.up h) (fun _ _ _ _ _ _ _ _ _ => trivial) (by simp; exact Wks.nil) trivial ?_ ?_))))))))
      · intro i y acc F' H' Kk Nk hi hy e p _ _ k1 _
        refine ⟨rfl, _, rfl, ?_⟩
        obtain ⟨k', hk', wk'⟩ := h3.get hy
        refine ⟨y, k', F', rfl, e.fh, wk'.up e.ff, fulls_mem (by simpa [full] using hf) (List.mem_of_getElem? hk'), ?_, fun v F4 H4 e4 wv => k1 v F4 H4 e4 ?_ trivial⟩
        · have := wdepth_mem (List.mem_of_getElem? hk')
          simp [NestedKey.depth] at hn; omega
        · rw [okeys_at hk']
          exact (p.up e4.ff).app (Wks.one wv)
      · intro D acc F' H' e hD fD hd' p _ _
        rw [List.take_of_length_le (by rw [okeys_len, l1]; exact Nat.le_refl _)] at p
        refine ⟨D, acc, rfl, .inl ⟨SqL.of hd', fun q hq => ?_⟩⟩
        have e2 : Ex [] F H (upd F' q (.tup acc)) (upd H' q (.tup acc)) := e.trans (Ex.newF e.fh hq)
        refine ⟨by show 2 ≤ sizeLine; decide, fun z hz => two 2 _ _ _ _ e2 (wk_new (Same.free e.fh hq) p (by rw [okeys_len]; exact h4)) z hz (by simp [okey])⟩
    | text s =>
      have := wk_text.mp hk
      subst this
      refine iteF (r_next ?_)
      dsimp only
      refine r_ret (r_if (r_b ?_))
      exact ⟨_, rfl, _, .ty "str", _, _, _, rfl, .ty _, dd_tyx (wk_dd hk) hF, kit_str _, _, rfl, iteT ⟨_, rfl, by show 2 ≤ sizeLine; decide, fun p hp => two 1 _ _ _ _ (Ex.refl hF) hk p hp (by simp [okey])⟩⟩
    | num i =>
      have := wk_num.mp hk
      subst this
      refine iteF (r_next ?_)
      dsimp only
      refine r_ret (r_if (r_b ?_))
      exact ⟨_, rfl, _, .ty "str", _, _, _, rfl, .ty _, dd_tyx (wk_dd hk) hF, kit_str _, _, rfl, iteF ⟨_, rfl, by show 2 ≤ sizeLine; decide, fun p hp => two 0 _ _ _ _ (Ex.refl hF) hk p hp (by simp [okey])⟩⟩
    | none => simp [full] at hf
end
end T3

namespace T3
open PySem PySem.Spec PyProof.Rows L2 Ly
section
variable {P : Program} {w : World} {K : PySem.W.Frag} {mg : Str → Option Value} {base : Heap}
def spAscending : Sp := fun vs H Q _ => ∃ (a : Addr) (xs : List V) (ws : List W) (F : Hp), vs = [.ref a] ∧ Same F H ∧ H a = some (.lst xs) ∧ Wks F ws xs ∧ (∀ k ∈ ws, full k = true ∧ k.depth ≤ 5) ∧
  ∀ p ys F' H', Ex [] F H F' H' → H p = none → F' p = none → H' p = some (.lst ys) → Wks F' (wsort ws) ys → Q (.ref p) H'
theorem ok_ascending (T : Top K mg) : Ok P w K mg base "ascending" 12 ["words"] spAscending := by
  have G_order_key : Ok P w K mg base "order_key" 9 ["word"] (spOrderKey 6) := ok_order_key T 6
  refine ok_of T.g_ascending T.F_ascending sc_ascending (fun _ _ _ _ _ _ us hl => match us, hl with | [_], _ => rfl) (fun vs H Q E h => ?_) (fun cdv A outer s H vs Q E hr h => ?_)
  · first | (obtain ⟨rfl, _⟩ := h; rfl) | (obtain ⟨_, rfl, _⟩ := h; rfl) | (obtain ⟨_, _, rfl, _⟩ := h; rfl) | (obtain ⟨_, _, _, rfl, _⟩ := h; rfl) | (obtain ⟨_, _, _, _, rfl, _⟩ := h; rfl) | (obtain ⟨_, _, _, _, _, rfl, _⟩ := h; rfl) | (obtain ⟨_, _, _, _, _, _, rfl, _⟩ := h; rfl) | (obtain ⟨_, _, _, _, _, _, _, rfl, _⟩ := h; rfl) | (obtain ⟨_, _, _, _, _, _, _, _, rfl, _⟩ := h; rfl) | (obtain ⟨_, _, _, _, _, _, _, _, _, rfl, _⟩ := h; rfl) | (obtain ⟨_, _, _, _, _, _, _, _, _, _, rfl, _⟩ := h; rfl) | (obtain ⟨_, _, _, _, _, _, _, _, _, _, _, rfl, _⟩ := h; rfl)
  obtain ⟨a, xs, ws, F, rfl, hF, ha, hw, ho, kk⟩ := h
  refine ⟨_, (pss_one (ps_ret (pe_sortedK G_order_key (hr.mono (by omega)) (by decide) T.b_sorted (pa_cons (pv 0) pa_nil)))), ?_⟩
  refine ⟨_, rfl, a, xs, ws, F, rfl, rfl, SqL.of ha, hF, hw, fulls_of fun k hk => (ho k hk).1, ?_, kk⟩
  have := dall_le (n := 5) fun k hk => (ho k hk).2
  omega
def spCheckedSigns : Sp := fun vs H Q _ => ∃ (a : Addr) (xs : List V) (sg : List W) (F : Hp), vs = [.ref a] ∧ Same F H ∧ F a = some (.lst xs) ∧ Wks F sg xs ∧ (∀ k ∈ sg, Wok k) ∧ 0 < sg.length ∧ sg.length < 1000000 ∧
  ∀ p ys F' H', Ex [] F H F' H' → H p = none → F' p = none → H' p = some (.lst ys) → Wks F' sg ys → Q (.ref p) H'
theorem wks_take_snoc {F : Hp} {ks : List W} {vs : List V} {i : Nat} {k : W} {v : V} (h : Wks F (ks.take i) vs) (e : ks[i]? = some k) (q : Wk F k v) : Wks F (ks.take (i + 1)) (vs ++ [v]) := by
  rw [List.take_add_one, e]
  exact Wks.app h (Wks.one q)
theorem ok_checked_signs (T : Top K mg) : Ok P w K mg base "checked_signs" 11 ["signs"] spCheckedSigns := by
  have G_is_list : Ok P w K mg base "is_list" 1 ["thing"] spIsList := ok_is_list T
  have G_is_word : Ok P w K mg base "is_word" 9 ["thing"] (spIsWord 6) := ok_is_word T 6
  have G_as_word : Ok P w K mg base "as_word" 9 ["thing"] (spAsWord 6) := ok_as_word T 6
  refine ok_of T.g_checked_signs T.F_checked_signs sc_checked_signs (fun _ _ _ _ _ _ us hl => match us, hl with | [_], _ => rfl) (fun vs H Q E h => ?_) (fun cdv A outer s H vs Q E hr h => ?_)
  · first | (obtain ⟨rfl, _⟩ := h; rfl) | (obtain ⟨_, rfl, _⟩ := h; rfl) | (obtain ⟨_, _, rfl, _⟩ := h; rfl) | (obtain ⟨_, _, _, rfl, _⟩ := h; rfl) | (obtain ⟨_, _, _, _, rfl, _⟩ := h; rfl) | (obtain ⟨_, _, _, _, _, rfl, _⟩ := h; rfl) | (obtain ⟨_, _, _, _, _, _, rfl, _⟩ := h; rfl) | (obtain ⟨_, _, _, _, _, _, _, rfl, _⟩ := h; rfl) | (obtain ⟨_, _, _, _, _, _, _, _, rfl, _⟩ := h; rfl) | (obtain ⟨_, _, _, _, _, _, _, _, _, rfl, _⟩ := h; rfl) | (obtain ⟨_, _, _, _, _, _, _, _, _, _, rfl, _⟩ := h; rfl) | (obtain ⟨_, _, _, _, _, _, _, _, _, _, _, rfl, _⟩ := h; rfl)
  obtain ⟨a, xs, sg, F, rfl, hF, ha, hw, ho, h0, h1, kk⟩ := h
  refine ⟨_, (pss_cons (ps_if (PW.pt (pw_or (pt_not (pt_val (pe_ok G_is_list hr (pa_cons (pv 0) pa_nil)))) (pw_or1 (pt_cmpR op_eq (pe_callB call_len_seq rfl T.b_len (by decide +kernel) (pa_cons (pv 0) pa_nil)) pe_int (nomark _))))) (pss_one ps_never) pss_nil)
    (pss_cons (ps_for PassesOwn.never rfl (pi_enum rfl T.b_enumerate (pa_cons (pv 0) pa_nil)) (pg_tup rfl (pgs_cons (pg_name (i := 1) sc_checked_signs.nd rfl (Or.inl rfl)) (pgs_cons (pg_name (i := 2) sc_checked_signs.nd rfl (Or.inl rfl)) pgs_nil))) (pss_one (ps_if (pt_not (pt_val (pe_ok G_is_word hr (pa_cons (pv 2) pa_nil)))) (pss_one ps_never) pss_nil)))
    (pss_one (ps_ret (pe_lc (own := [("sign", 2)]) (g := (gName 2)) (tt := tYes) (te := (tCall (spAsWord 6) [] E0 (tCons (tVar 2) tNil))) rfl sc_checked_signs.nd (pi_list (pv 0)) (blkOk_by (own := [("sign", 2)]) (N := N_checked_signs) (sc := defScope s_checked_signs) (by decide +kernel)) (fun _ _ _ _ _ => (pg_name (i := 2) sc_checked_signs.nd rfl (Or.inl rfl))) (fun _ _ _ _ _ => pts_nil) (fun _ _ _ _ _ => (pe_ok G_as_word hr (pa_cons (pv 2) pa_nil)))))))), ?_⟩
  have l1 := hw.len
  have z1 := sizeLine_eq
  have hd : Dd F (.list (NestedKey.datas sg)) (.ref a) := dd_list.mpr ⟨a, xs, rfl, ha, wks_dds hw, by rw [datas_len]; exact h1⟩
  refine ⟨_, rfl, _, _, F, rfl, hF, hd, fun H1 e1 => ⟨_, rfl, ?_⟩⟩
  refine iteF ⟨_, rfl, _, _, rfl, .inl (SqL.of (e1.fh _ _ ha)), rfl, _, rfl, ?_⟩
  refine iteF' (by
    have : ¬ xs = [] := fun z => by
      rw [z] at l1
      simp at l1
      omega
    simpa using this) ?_
  refine r_next ?_
  dsimp only
  refine r_seq (forg_enum [] (fun R h => ⟨_, rfl, h⟩) ha e1.fh (fun i σ1 F1 H2 => ∃ u v, σ1 = [some (.ref a), u, v]) ⟨_, _, rfl⟩ ?_ ?_)
  · rintro i x t σ1 F1 H2 Nk hi hx e ⟨u, v, rfl⟩ ht nk
    obtain ⟨k, hk, wk⟩ := hw.get hx
    have wo := ho k (List.mem_of_getElem? hk)
    refine ⟨t, _, rfl, SqT.of upd_same, rfl, _, _, rfl, _, _, rfl, rfl, ?_⟩
    have et : Ex [] F1 H2 F1 (upd H2 t (.tup [.int (i : Nat), x])) := Ex.new e.fh ht
    refine ⟨_, rfl, x, k.data, F1, rfl, et.fh, (wk_dd wk).up e.ff, ?_, fun H3 e3 => ⟨_, rfl, ?_⟩⟩
    · rw [depth_data]
      have := wo.dp
      omega
    · rw [wordy_data, wo.fl]
      exact iteF (nk _ F1 H3 e3 ⟨_, _, rfl⟩)
  · rintro σ1 F1 H2 e ⟨u, v, rfl⟩
    dsimp only
    refine r_ret (lcg_list [] (fun R h => ⟨_, rfl, h⟩) (e.ff _ _ ha) e.fh (by simp) (by omega) (fun k acc F => Wks F (sg.take k) acc) (fun _ _ _ => True) (fun _ _ _ _ h q => q.up h) (fun _ _ _ _ _ _ _ _ _ => trivial) (by simp; exact Wks.nil) trivial ?_ ?_)
    · intro i y acc F' H' Kk Nk hi hy e4 p _ _ k1 _
      refine ⟨rfl, _, rfl, ?_⟩
      obtain ⟨k', hk', wk'⟩ := hw.get hy
      have wo := ho k' (List.mem_of_getElem? hk')
      refine ⟨y, k'.data, F', rfl, e4.fh, (wk_dd wk').up (Same.trans e.ff e4.ff), ?_, ?_, fun v F5 H5 e5 wv => k1 v F5 H5 e5 ?_ trivial⟩
      · rw [wordy_data, wo.fl]
      · rw [depth_data]
        have := wo.dp
        omega
      · rw [toW_data] at wv
        exact wks_take_snoc (p.up e5.ff) hk' wv
    · intro D acc F' H' e4 hD fD hd' p _ _
      rw [List.take_of_length_le (by omega)] at p
      have e5 : Ex [] F H F' H' := e1.trans (e.trans e4)
      refine kk D acc F' H' e5 ?_ fD hd' p
      cases z : H D with
      | none => rfl
      | some o =>
        have := (e1.trans e).dm D (ne_none z)
        exact absurd hD this
def spIsRoad : Sp := fun vs H Q _ => ∃ (x : V) (r : Rd) (n : Nat) (F : Hp), vs = [x, .int n] ∧ Same F H ∧ Wk F r.w x ∧ r.OkN n ∧ ∀ H', Ex [] F H F H' → Q (.bl true) H'
theorem ok_is_road (T : Top K mg) : Ok P w K mg base "is_road" 10 ["thing", "many"] spIsRoad := by
  have G_is_list : Ok P w K mg base "is_list" 1 ["thing"] spIsList := ok_is_list T
  have G_is_word : Ok P w K mg base "is_word" 9 ["thing"] (spIsWord 6) := ok_is_word T 6
  have G_is_number : Ok P w K mg base "is_number" 2 ["thing"] spIsNumber := ok_is_number T
  refine ok_of T.g_is_road T.F_is_road sc_is_road (fun _ _ _ _ _ _ us hl => match us, hl with | [_, _], _ => rfl) (fun vs H Q E h => ?_) (fun cdv A outer s H vs Q E hr h => ?_)
  · first | (obtain ⟨rfl, _⟩ := h; rfl) | (obtain ⟨_, rfl, _⟩ := h; rfl) | (obtain ⟨_, _, rfl, _⟩ := h; rfl) | (obtain ⟨_, _, _, rfl, _⟩ := h; rfl) | (obtain ⟨_, _, _, _, rfl, _⟩ := h; rfl) | (obtain ⟨_, _, _, _, _, rfl, _⟩ := h; rfl) | (obtain ⟨_, _, _, _, _, _, rfl, _⟩ := h; rfl) | (obtain ⟨_, _, _, _, _, _, _, rfl, _⟩ := h; rfl) | (obtain ⟨_, _, _, _, _, _, _, _, rfl, _⟩ := h; rfl) | (obtain ⟨_, _, _, _, _, _, _, _, _, rfl, _⟩ := h; rfl) | (obtain ⟨_, _, _, _, _, _, _, _, _, _, rfl, _⟩ := h; rfl) | (obtain ⟨_, _, _, _, _, _, _, _, _, _, _, rfl, _⟩ := h; rfl)
  obtain ⟨x, r, n, F, rfl, hF, hw, ho, kk⟩ := h
  refine ⟨_, (pss_cons (ps_if (PW.pt (pw_or (pt_not (pt_val (pe_ok G_is_list hr (pa_cons (pv 0) pa_nil)))) (pw_or (pt_cmpR op_ne (pe_callB call_len_seq rfl T.b_len (by decide +kernel) (pa_cons (pv 0) pa_nil)) pe_int (nomark _)) (pw_or (pt_not (pt_val (pe_ok G_is_word hr (pa_cons (pe_ix ix_tup (pv 0) pe_int (fun _ _ => rfl)) pa_nil)))) (pw_or1 (pt_not (pt_val (pe_ok G_is_word hr (pa_cons (pe_ix ix_tup (pv 0) pe_int (fun _ _ => rfl)) pa_nil))))))))) (pss_one (ps_ret pe_bl)) pss_nil)
    (pss_one (ps_ret (pe_callB (cr_all rfl) rfl T.b_all (by decide +kernel) (pa_cons (pe_lc (own := [("end", 2)]) (g := (gName 2)) (tt := tYes) (te := (tAndV (tCall spIsNumber [] E0 (tCons (tVar 2) tNil)) (tOp RLt (tVar 2) (tVar 1)))) rfl sc_is_road.nd (pi_tup (pe_slice sl_tup (pv 0) po_none (po_some pe_int))) (blkOk_by (own := [("end", 2)]) (N := N_is_road) (sc := defScope s_is_road) (by decide +kernel)) (fun _ _ _ _ _ => (pg_name (i := 2) sc_is_road.nd rfl (Or.inl rfl))) (fun _ _ _ _ _ => pts_nil) (fun _ _ _ _ _ => (pe_and (pe_ok G_is_number hr (pa_cons (pv 2) pa_nil)) (pe_one (pe_cmpR op_lt (pv 2) (pv 1) (nomark _)))))) pa_nil))))), ?_⟩
  have hd := wk_dd hw
  obtain ⟨p, vo, vi, rfl, ha, wo, wi⟩ := Rd.wk hw
  refine ⟨_, rfl, _, _, F, rfl, hF, hd, fun H1 e1 => ⟨_, rfl, ?_⟩⟩
  have sq : ∀ {H2 : Hp}, Ex [] F H F H2 → SqT K H2 p [.int r.a, .int r.b, vo, vi] := fun e => SqT.of (e.fh _ _ ha)
  refine iteF ⟨_, rfl, _, _, rfl, .inr (sq e1), rfl, _, rfl, ?_⟩
  refine iteF' rfl ⟨_, rfl, p, _, 2, vo, rfl, rfl, sq e1, rfl, vo, r.o.data, F, rfl, e1.fh, wk_dd wo, ?_, fun H2 e2 => ⟨_, rfl, ?_⟩⟩
  · rw [depth_data]
    have := ho.ho.dp
    omega
  have e12 := e1.trans e2
  refine iteF' (by rw [wordy_data, ho.ho.fl]; rfl) ⟨_, rfl, p, _, 3, vi, rfl, rfl, sq e12, rfl, vi, r.i.data, F, rfl, e2.fh, wk_dd wi, ?_, fun H3 e3 => ⟨_, rfl, ?_⟩⟩
  · rw [depth_data]
    have := ho.hi.dp
    omega
  have e13 := e12.trans e3
  refine iteF' (by rw [wordy_data, ho.hi.fl]; rfl) (r_next ?_)
  dsimp only
  refine r_ret (r_cb (r_cons ?_))
  have cut : cutV [V.int r.a, .int r.b, vo, vi] none (some 2) = [.int r.a, .int r.b] := rfl
  have core : ∀ (R : VK) (tl : TE), (∀ R' : VK, (∀ q, H3 q = none → R' (.ref q) (upd H3 q (.tup [.int r.a, .int r.b]))) → tl [some (.ref p), some (.int n), none] H3 R') → (∀ D H4, Ex [] F H F H4 ∨ True → (∃ F4, Ex [] F H F4 H4) → H4 D = some (.lst [.bl true, .bl true]) → R (.ref D) H4) →
      tLc (iTup K tl) (gName 2) tYes (tAndV (tCall spIsNumber [] E0 (tCons (tVar 2) tNil)) (tOp RLt (tVar 2) (tVar 1))) [2] [some (.ref p), some (.int n), none] H3 R := by
    intro R tl htl hR
    refine htl _ fun q hq => ?_
    have e4 : Ex [] F H (upd F q (.tup [.int r.a, .int r.b])) (upd H3 q (.tup [.int r.a, .int r.b])) := e13.trans (Ex.newF e13.fh hq)
    refine lcg_tup (tl := tC (.ref q)) [] (fun R h => h) upd_same e4.fh (by simp) (by simp [sizeLine_eq]) (fun k acc _ => acc = List.replicate k (.bl true)) (fun _ _ _ => True) (fun _ _ _ _ _ q => q) (fun _ _ _ _ _ _ _ _ _ => trivial) rfl trivial ?_ ?_
    · intro i y acc F' H' Kk Nk hi hy e pp _ _ k1 _
      refine ⟨rfl, ?_⟩
      have num : ∀ m : Nat, m < n → y = .int m → Kk (.bl true) H' → tAndV (tCall spIsNumber [] E0 (tCons (tVar 2) tNil)) (tOp RLt (tVar 2) (tVar 1)) [some (.ref p), some (.int n), some y] H' Kk := by
        intro m hm ey kk2
        subst ey
        refine ⟨_, rfl, .int m, .int m, F', rfl, e.fh, dd_int.mpr rfl, _, rfl, ?_⟩
        refine iteT' (by simp [numy]) ⟨_, rfl, _, rfl, _, _, rfl, rfl, ?_⟩
        have : decide ((m : Int) < n) = true := by simp; omega
        show Kk (.bl (decide ((m : Int) < n))) H'
        rw [this]
        exact kk2
      have go : Kk (.bl true) H' := k1 _ _ _ (Ex.refl e.fh) (by rw [pp, List.replicate_succ']) trivial
      have e01 : y = .int r.a ∨ y = .int r.b := by
        match i, hi, hy with
        | 0, _, hy => exact .inl (by simpa using hy.symm)
        | 1, _, hy => exact .inr (by simpa using hy.symm)
      rcases e01 with e0 | e0
      · exact num r.a ho.ha e0 go
      · exact num r.b ho.hb e0 go
    · intro D acc F' H' e hD fD hd' pp _ _
      refine hR D H' (.inr trivial) ⟨F', e4.trans e⟩ ?_
      rw [hd', pp]
      rfl
  refine core _ _ (fun R' h => ⟨_, rfl, 2, rfl, p, _, rfl, sq e13, (by show ¬ (HT.sIx 4 0 none = 0 ∧ HT.sIx 4 4 (some 2) = 4); decide), ?_⟩) fun D H4 _ ⟨F4, e4⟩ hD => ?_
  · intro q hq
    rw [cut]
    exact h q hq
  · refine ⟨D, [true, true], rfl, SqL.of hD, kk H4 ?_⟩
    exact ⟨Same.refl F, fun b o z => e4.fh b o (e4.ff b o z), e4.hh, e4.dm, fun b z => .inl z⟩
def spCheckedRoads : Sp := fun vs H Q _ => ∃ (a : Addr) (xs : List V) (rs : List Rd) (n : Nat) (F : Hp), vs = [.ref a, .int n] ∧ Same F H ∧ F a = some (.lst xs) ∧ Rds F rs xs ∧ (∀ r ∈ rs, r.OkN n) ∧ rs.length < 100000 ∧
  ∀ p ys rs' F' H', rs'.Perm rs → Ex [] F H F' H' → H p = none → F' p = none → H' p = some (.lst ys) → Rds F' rs' ys → Q (.ref p) H'
theorem ok_checked_roads (T : Top K mg) : Ok P w K mg base "checked_roads" 13 ["roads", "many"] spCheckedRoads := by
  have G_is_list : Ok P w K mg base "is_list" 1 ["thing"] spIsList := ok_is_list T
  have G_is_road : Ok P w K mg base "is_road" 10 ["thing", "many"] spIsRoad := ok_is_road T
  have G_as_word : Ok P w K mg base "as_word" 9 ["thing"] (spAsWord 6) := ok_as_word T 6
  have G_ascending : Ok P w K mg base "ascending" 12 ["words"] spAscending := ok_ascending T
  refine ok_of T.g_checked_roads T.F_checked_roads sc_checked_roads (fun _ _ _ _ _ _ us hl => match us, hl with | [_, _], _ => rfl) (fun vs H Q E h => ?_) (fun cdv A outer s H vs Q E hr h => ?_)
  · first | (obtain ⟨rfl, _⟩ := h; rfl) | (obtain ⟨_, rfl, _⟩ := h; rfl) | (obtain ⟨_, _, rfl, _⟩ := h; rfl) | (obtain ⟨_, _, _, rfl, _⟩ := h; rfl) | (obtain ⟨_, _, _, _, rfl, _⟩ := h; rfl) | (obtain ⟨_, _, _, _, _, rfl, _⟩ := h; rfl) | (obtain ⟨_, _, _, _, _, _, rfl, _⟩ := h; rfl) | (obtain ⟨_, _, _, _, _, _, _, rfl, _⟩ := h; rfl) | (obtain ⟨_, _, _, _, _, _, _, _, rfl, _⟩ := h; rfl) | (obtain ⟨_, _, _, _, _, _, _, _, _, rfl, _⟩ := h; rfl) | (obtain ⟨_, _, _, _, _, _, _, _, _, _, rfl, _⟩ := h; rfl) | (obtain ⟨_, _, _, _, _, _, _, _, _, _, _, rfl, _⟩ := h; rfl)
  obtain ⟨a, xs, rs, n, F, rfl, hF, ha, hw, ho, h1, kk⟩ := h
  refine ⟨_, (pss_cons (ps_if (pt_not (pt_val (pe_ok G_is_list hr (pa_cons (pv 0) pa_nil)))) (pss_one ps_never) pss_nil)
    (pss_cons (ps_for PassesOwn.never rfl (pi_enum rfl T.b_enumerate (pa_cons (pv 0) pa_nil)) (pg_tup rfl (pgs_cons (pg_name (i := 2) sc_checked_roads.nd rfl (Or.inl rfl)) (pgs_cons (pg_name (i := 3) sc_checked_roads.nd rfl (Or.inl rfl)) pgs_nil))) (pss_one (ps_if (pt_not (pt_val (pe_ok G_is_road hr (pa_cons (pv 3) (pa_cons (pv 1) pa_nil))))) (pss_one ps_never) pss_nil)))
    (pss_one (ps_ret (pe_ok G_ascending hr (pa_cons (pe_lc (own := [("thing", 3)]) (g := (gName 3)) (tt := tYes) (te := (tCall (spAsWord 6) [] E0 (tCons (tVar 3) tNil))) rfl sc_checked_roads.nd (pi_list (pv 0)) (blkOk_by (own := [("thing", 3)]) (N := N_checked_roads) (sc := defScope s_checked_roads) (by decide +kernel)) (fun _ _ _ _ _ => (pg_name (i := 3) sc_checked_roads.nd rfl (Or.inl rfl))) (fun _ _ _ _ _ => pts_nil) (fun _ _ _ _ _ => (pe_ok G_as_word hr (pa_cons (pv 3) pa_nil)))) pa_nil)))))), ?_⟩
  have l1 := hw.len
  have z1 := sizeLine_eq
  have hd : Dd F (.list (NestedKey.datas (rs.map Rd.w))) (.ref a) := dd_list.mpr ⟨a, xs, rfl, ha, wks_dds hw, by rw [datas_len, List.length_map]; omega⟩
  refine ⟨_, rfl, _, _, F, rfl, hF, hd, fun H1 e1 => ⟨_, rfl, ?_⟩⟩
  refine iteF (r_next ?_)
  dsimp only
  refine r_seq (forg_enum [] (fun R h => ⟨_, rfl, h⟩) ha e1.fh (fun i σ1 F1 H2 => ∃ u v, σ1 = [some (.ref a), some (.int n), u, v]) ⟨_, _, rfl⟩ ?_ ?_)
  · rintro i x t σ1 F1 H2 Nk hi hx e ⟨u, v, rfl⟩ ht nk
    obtain ⟨r, hr', wk⟩ := hw.get hx
    have wo := ho r (List.mem_of_getElem? hr')
    refine ⟨t, _, rfl, SqT.of upd_same, rfl, _, _, rfl, _, _, rfl, rfl, ?_⟩
    have et : Ex [] F1 H2 F1 (upd H2 t (.tup [.int (i : Nat), x])) := Ex.new e.fh ht
    refine ⟨_, rfl, _, rfl, x, r, n, F1, rfl, et.fh, wk.up e.ff, wo, fun H3 e3 => ⟨_, rfl, ?_⟩⟩
    exact iteF (nk _ F1 H3 e3 ⟨_, _, rfl⟩)
  · rintro σ1 F1 H2 e ⟨u, v, rfl⟩
    dsimp only
    refine r_ret (r_call (r_cons (lcg_list [] (fun R h => ⟨_, rfl, h⟩) (e.ff _ _ ha) e.fh (by simp) (by omega) (fun k acc F => Wks F ((rs.map Rd.w).take k) acc) (fun _ _ _ => True) (fun _ _ _ _ h q => q.up h) (fun _ _ _ _ _ _ _ _ _ => trivial) (by simp; exact Wks.nil) trivial ?_ ?_)))
    · intro i y acc F' H' Kk Nk hi hy e4 p _ _ k1 _
      refine ⟨rfl, _, rfl, ?_⟩
      obtain ⟨k', hk', wk'⟩ := Wks.get hw hy
      obtain ⟨f1, f2, _⟩ := mem_rds ho (List.mem_of_getElem? hk')
      refine ⟨y, k'.data, F', rfl, e4.fh, (wk_dd wk').up (Same.trans e.ff e4.ff), ?_, ?_, fun v F5 H5 e5 wv => k1 v F5 H5 e5 ?_ trivial⟩
      · rw [wordy_data, f1]
      · rw [depth_data]
        omega
      · rw [toW_data] at wv
        exact wks_take_snoc (p.up e5.ff) hk' wv
    · intro D acc F' H' e4 hD fD hd' p _ _
      rw [List.take_of_length_le (by rw [List.length_map]; omega)] at p
      have e5 : Ex [] F H F' H' := e1.trans (e.trans e4)
      refine ⟨D, acc, rs.map Rd.w, F', rfl, e4.fh, hd', p, fun k hk => ?_, fun q ys F6 H6 e6 hq fq hq' wq => ?_⟩
      · obtain ⟨f1, f2, _⟩ := mem_rds ho hk
        exact ⟨f1, by omega⟩
      · obtain ⟨rs', q1, q2⟩ := perm_un (List.mergeSort_perm (rs.map Rd.w) wle)
        have wq' : Wks F6 ((rs.map Rd.w).mergeSort wle) ys := wq
        rw [q2] at wq'
        refine kk q ys rs' F6 H6 q1 (e5.trans e6) ?_ fq hq' wq'
        cases z : H q with
        | none => rfl
        | some o => exact absurd hq (e5.dm q (ne_none z))
end
end T3

namespace T3
open PySem PySem.Spec PyProof.Rows L2 Ly
section
variable {P : Program} {w : World} {K : PySem.W.Frag} {mg : Str → Option Value} {base : Heap}
theorem lot_push {qs : List Addr} {F1 H1 : Hp} {R R2 : Nat → List V → Prop} {q p2 : Addr} {t us us2 : List V} {j : Nat} (lo : LotG qs F1 H1 R) (hs : Same F1 H1) (hq : qs[j]? = some q) (hu : H1 q = some (.lst us)) (hp : H1 p2 = none)
    (h1 : R2 j us2) (h2 : ∀ k us, k ≠ j → R k us → R2 k us) : LotG qs (upd F1 p2 (.tup t)) (upd (upd H1 p2 (.tup t)) q (.lst us2)) R2 ∧ Ex qs F1 H1 (upd F1 p2 (.tup t)) (upd (upd H1 p2 (.tup t)) q (.lst us2)) := by
  have e1 : Ex [] F1 H1 (upd F1 p2 (.tup t)) (upd H1 p2 (.tup t)) := Ex.newF hs hp
  have l1 : LotG qs (upd F1 p2 (.tup t)) (upd H1 p2 (.tup t)) R := lo.ex e1 (by simp) fun _ _ h => h
  obtain ⟨fq, _⟩ := l1.at' j q hq
  exact ⟨l1.put hq h1 h2, (e1.mono (by simp)).trans (Ex.put e1.fh fq (List.mem_of_getElem? hq))⟩
def spInit (K : PySem.W.Frag) : Sp := fun vs H Q _ => ∃ (x sa ra dx : Addr) (svs rvs : List V) (sg : List W) (rs : List Rd) (F : Hp), vs = [.ref x, .ref sa, .ref ra] ∧ Same F H ∧ F x = none ∧ H x = some (.ins (He.ga K "Net") dx []) ∧
  F sa = some (.lst svs) ∧ Wks F sg svs ∧ (∀ k ∈ sg, Wok k) ∧ 0 < sg.length ∧ sg.length < 100000 ∧ F ra = some (.lst rvs) ∧ Rds F rs rvs ∧ (∀ r ∈ rs, r.OkN sg.length) ∧ rs.length < 100000 ∧
  ∀ rs' l1 l2 l3 l4 svs' rvs' F' H', rs'.Perm rs → Ex [x] F H F' H' → F' x = none → H' x = some (.ins (He.ga K "Net") dx (netFs l1 l2 l3 l4)) → F' l1 = some (.lst svs') → Wks F' sg svs' → F' l2 = some (.lst rvs') → Rds F' rs' rvs' →
    Lots F' l3 sg.length (fun k => rs'.filter fun r => decide (r.b = k)) → Lots F' l4 sg.length (fun k => rs'.filter fun r => decide (r.a = k)) → Q .non H'
def lotR (n : Nat) (rs : List Rd) (F : Hp) (i : Nat) (j : Nat) (us : List V) : Prop := Rds F (if j < n then (rs.take i).filter (fun r => decide (r.b = j)) else (rs.take i).filter (fun r => decide (r.a = j - n))) us ∧ us.length ≤ i
theorem take_filter {rs : List Rd} {i : Nat} {r : Rd} (h : rs[i]? = some r) (f : Rd → Bool) : (rs.take (i + 1)).filter f = if f r = true then (rs.take i).filter f ++ [r] else (rs.take i).filter f := by
  rw [List.take_add_one, h, List.filter_append]
  by_cases e : f r = true
  · simp [e]
  · simp [e]
theorem ok_init (T : Top K mg) : OkM P w K mg base (He.ma K (He.ga K "Net") "__init__") 14 ["self", "signs", "roads"] (spInit K) := by
  have G_checked_signs : Ok P w K mg base "checked_signs" 11 ["signs"] spCheckedSigns := ok_checked_signs T
  have G_checked_roads : Ok P w K mg base "checked_roads" 13 ["roads", "many"] spCheckedRoads := ok_checked_roads T
  refine okm_of T.F_Net_init sc_Net_init (fun _ _ _ _ _ _ us hl => match us, hl with | [_, _, _], _ => rfl) (fun vs H Q E h => ?_) (fun cdv A outer s H vs Q E hr h => ?_)
  · first | (obtain ⟨rfl, _⟩ := h; rfl) | (obtain ⟨_, rfl, _⟩ := h; rfl) | (obtain ⟨_, _, rfl, _⟩ := h; rfl) | (obtain ⟨_, _, _, rfl, _⟩ := h; rfl) | (obtain ⟨_, _, _, _, rfl, _⟩ := h; rfl) | (obtain ⟨_, _, _, _, _, rfl, _⟩ := h; rfl) | (obtain ⟨_, _, _, _, _, _, rfl, _⟩ := h; rfl) | (obtain ⟨_, _, _, _, _, _, _, rfl, _⟩ := h; rfl) | (obtain ⟨_, _, _, _, _, _, _, _, rfl, _⟩ := h; rfl) | (obtain ⟨_, _, _, _, _, _, _, _, _, rfl, _⟩ := h; rfl) | (obtain ⟨_, _, _, _, _, _, _, _, _, _, rfl, _⟩ := h; rfl) | (obtain ⟨_, _, _, _, _, _, _, _, _, _, _, rfl, _⟩ := h; rfl)
  obtain ⟨x, sa, ra, dx, svs, rvs, sg, rs, F, rfl, hF, fx, hx, hsa, hsg, hok, h0, h1, hra, hrs, hro, h2, kk⟩ := h
  refine ⟨_, (pss_cons (ps_fld (pv 0) (pe_ok G_checked_signs hr (pa_cons (pv 1) pa_nil)) rfl)
    (pss_cons (ps_fld (pv 0) (pe_ok G_checked_roads hr (pa_cons (pv 2) (pa_cons (pe_callB call_len_seq rfl T.b_len (by decide +kernel) (pa_cons (pe_fld (pv 0) rfl) pa_nil)) pa_nil))) rfl)
    (pss_cons (ps_fld (pv 0) (pe_lc (own := [("sign", 3)]) (g := (gName 3)) (tt := tYes) (te := (tLst tNil)) rfl sc_Net_init.nd (pi_list (pe_fld (pv 0) rfl)) (blkOk_by (own := [("sign", 3)]) (N := N_Net_init) (sc := defScope s_Net_init) (by decide +kernel)) (fun _ _ _ _ _ => (pg_name (i := 3) sc_Net_init.nd rfl (Or.inl rfl))) (fun _ _ _ _ _ => pts_nil) (fun _ _ _ _ _ => (pe_lst pa_nil))) rfl)
    (pss_cons (ps_fld (pv 0) (pe_lc (own := [("sign", 3)]) (g := (gName 3)) (tt := tYes) (te := (tLst tNil)) rfl sc_Net_init.nd (pi_list (pe_fld (pv 0) rfl)) (blkOk_by (own := [("sign", 3)]) (N := N_Net_init) (sc := defScope s_Net_init) (by decide +kernel)) (fun _ _ _ _ _ => (pg_name (i := 3) sc_Net_init.nd rfl (Or.inl rfl))) (fun _ _ _ _ _ => pts_nil) (fun _ _ _ _ _ => (pe_lst pa_nil))) rfl)
    (pss_one (ps_for PassesOwn.never rfl (pi_list (pe_fld (pv 0) rfl)) (pg_tup rfl (pgs_cons (pg_name (i := 4) sc_Net_init.nd rfl (Or.inl rfl)) (pgs_cons (pg_name (i := 5) sc_Net_init.nd rfl (Or.inl rfl)) (pgs_cons (pg_name (i := 6) sc_Net_init.nd rfl (Or.inl rfl)) (pgs_cons (pg_name (i := 7) sc_Net_init.nd rfl (Or.inl rfl)) pgs_nil))))) (pss_cons (ps_expr (pe_bm PySem.F.plainAttrs_list PySem.F.slot_list_append PySem.F.type_list_append mt_append (pe_ix ix_list (pe_fld (pv 0) rfl) (pv 4) (fun _ _ => rfl)) (pa_cons (pe_tup (pa_cons (pv 4) (pa_cons (pv 5) (pa_cons (pv 6) (pa_cons (pv 7) pa_nil))))) pa_nil)))
    (pss_one (ps_expr (pe_bm PySem.F.plainAttrs_list PySem.F.slot_list_append PySem.F.type_list_append mt_append (pe_ix ix_list (pe_fld (pv 0) rfl) (pv 5) (fun _ _ => rfl)) (pa_cons (pe_tup (pa_cons (pv 4) (pa_cons (pv 5) (pa_cons (pv 6) (pa_cons (pv 7) pa_nil))))) pa_nil))))))))))), ?_⟩
  have z1 := sizeLine_eq
  have C := T.cl_Net
  refine r_seq ⟨_, rfl, sa, svs, sg, F, rfl, hF, hsa, hsg, hok, h0, by omega, fun D1 ys1 F1 H1 e1 hD1 fD1 hd1 w1 => ⟨_, rfl, x, _, dx, [], rfl, e1.at hx, T.cl_Net, T.na_Net_own_signs, by decide, ?_⟩⟩
  have n1 := w1.len
  -- own_signs stand
  have a1 : Ex [] F H (upd F1 D1 (.lst ys1)) H1 := e1.frz hD1 hd1 fD1
  have fx1 : (upd F1 D1 (.lst ys1)) x = none := a1.nf fx (ne_none hx)
  have b1 : Ex [x] F H (upd F1 D1 (.lst ys1)) (upd H1 x (.ins (He.ga K "Net") dx [("own_signs", .ref D1)])) := (a1.mono (by simp)).trans (Ex.put a1.fh fx1 (by simp))
  have c1 : (upd H1 x (.ins (He.ga K "Net") dx [("own_signs", V.ref D1)])) x = some (.ins (He.ga K "Net") dx [("own_signs", V.ref D1)]) := upd_same
  have d1 : (upd F1 D1 (.lst ys1)) D1 = some (.lst ys1) := upd_same
  have w1' : Wks (upd F1 D1 (.lst ys1)) sg ys1 := w1.up (Same.upd fD1)
  dsimp only
  show tSeq _ _ _ _ (upd H1 x (.ins (He.ga K "Net") dx [("own_signs", V.ref D1)]))
  generalize upd F1 D1 (.lst ys1) = F2 at a1 fx1 b1 c1 d1 w1'
  generalize upd H1 x (.ins (He.ga K "Net") dx [("own_signs", V.ref D1)]) = H2 at b1 c1
  refine r_seq ⟨_, rfl, _, rfl, x, _, dx, _, .ref D1, rfl, c1, C, T.na_Net_own_signs, rfl, _, _, rfl, .inl (SqL.of (b1.fh _ _ d1)), ra, rvs, rs, ys1.length, F2, rfl, b1.fh, b1.fz hra, Wks.up b1.ff hrs, (by rw [n1]; exact hro), h2, fun D2 ys2 rs' F3 H3 pm e3 hD2 fD2 hd2 w2 => ⟨_, rfl, x, _, dx, _, rfl, e3.at c1, T.cl_Net, T.na_Net_own_roads, by simp, ?_⟩⟩
  have n2 := Rds.len w2
  have n2' := pm.length_eq
  have a3 : Ex [] F2 H2 (upd F3 D2 (.lst ys2)) H3 := e3.frz hD2 hd2 fD2
  have fx3 : (upd F3 D2 (.lst ys2)) x = none := a3.nf fx1 (ne_none c1)
  have b3 : Ex [x] F H (upd F3 D2 (.lst ys2)) (upd H3 x (.ins (He.ga K "Net") dx [("own_signs", .ref D1), ("own_roads", .ref D2)])) := b1.trans ((a3.mono (by simp)).trans (Ex.put a3.fh fx3 (by simp)))
  have c3 : (upd H3 x (.ins (He.ga K "Net") dx [("own_signs", V.ref D1), ("own_roads", .ref D2)])) x = some (.ins (He.ga K "Net") dx [("own_signs", V.ref D1), ("own_roads", .ref D2)]) := upd_same
  have d3 : (upd F3 D2 (.lst ys2)) D1 = some (.lst ys1) := a3.fz d1
  have d3' : (upd F3 D2 (.lst ys2)) D2 = some (.lst ys2) := upd_same
  have w3 : Rds (upd F3 D2 (.lst ys2)) rs' ys2 := Wks.up (Same.upd fD2) w2
  have w1'' : Wks (upd F3 D2 (.lst ys2)) sg ys1 := w1'.up a3.ff
  dsimp only
  show tSeq _ _ _ _ (upd H3 x (.ins (He.ga K "Net") dx [("own_signs", V.ref D1), ("own_roads", .ref D2)]))
  generalize upd F3 D2 (.lst ys2) = F4 at a3 fx3 b3 c3 d3 d3' w3 w1''
  generalize upd H3 x (.ins (He.ga K "Net") dx [("own_signs", V.ref D1), ("own_roads", .ref D2)]) = H4 at b3 c3
  -- own_in
  refine r_seq (lcg_nils (fun R h => ⟨_, rfl, x, _, dx, _, .ref D1, rfl, c3, C, T.na_Net_own_signs, rfl, h⟩) d3 b3.fh (by omega) (fun _ => rfl) fun D3 q3 H5 e5 hD3 hd3 m3 dn3 nn3 lo3 => ⟨_, rfl, x, _, dx, _, rfl, e5.at c3, T.cl_Net, T.na_Net_own_in, by simp, ?_⟩)
  have fx5 : F4 x = none := fx3
  have p5 : Ex [x] F4 H5 F4 (upd H5 x (.ins (He.ga K "Net") dx [("own_signs", .ref D1), ("own_roads", .ref D2), ("own_in", .ref D3)])) := Ex.put e5.fh fx5 (by simp)
  have b5 : Ex [x] F H F4 (upd H5 x (.ins (He.ga K "Net") dx [("own_signs", .ref D1), ("own_roads", .ref D2), ("own_in", .ref D3)])) := b3.trans ((e5.mono (by simp)).trans p5)
  have c5 : (upd H5 x (.ins (He.ga K "Net") dx [("own_signs", V.ref D1), ("own_roads", .ref D2), ("own_in", .ref D3)])) x = some (.ins (He.ga K "Net") dx [("own_signs", V.ref D1), ("own_roads", .ref D2), ("own_in", .ref D3)]) := upd_same
  have new : ∀ {q : Addr} {H' F' : Hp}, Ex [x] F H F' H' → H' q = none → H q = none := fun {q H' F'} e z => by
    cases y : H q with
    | none => rfl
    | some o => exact absurd z (e.dm q (ne_none y))
  have qx3 : ∀ q ∈ q3, q ∉ [x] := fun q hq z => by
    have := nn3 q hq
    rw [List.mem_singleton.mp z, c3] at this
    cases this
  have D3x : D3 ∉ [x] := fun z => by
    rw [List.mem_singleton.mp z, c3] at hD3
    cases hD3
  have lo5 := lo3.ex p5 qx3 (R2 := fun _ us => us = []) fun _ _ h => h
  have hd5 := p5.at hd3 D3x
  have q3H : ∀ q ∈ q3, H q = none := fun q hq => new b3 (nn3 q hq)
  have D3H : H D3 = none := new b3 hD3
  dsimp only
  show tSeq _ _ _ _ (upd H5 x (.ins (He.ga K "Net") dx [("own_signs", V.ref D1), ("own_roads", .ref D2), ("own_in", .ref D3)]))
  generalize upd H5 x (.ins (He.ga K "Net") dx [("own_signs", V.ref D1), ("own_roads", .ref D2), ("own_in", .ref D3)]) = H6 at p5 b5 c5 lo5 hd5
  -- own_out
  refine r_seq (lcg_nils (fun R h => ⟨_, rfl, x, _, dx, _, .ref D1, rfl, c5, C, T.na_Net_own_signs, rfl, h⟩) d3 b5.fh (by omega) (fun _ => rfl) fun D4 q4 H7 e7 hD4 hd4 m4 dn4 nn4 lo4 => ⟨_, rfl, x, _, dx, _, rfl, e7.at c5, T.cl_Net, T.na_Net_own_out, by simp, ?_⟩)
  have p7 : Ex [x] F4 H7 F4 (upd H7 x (.ins (He.ga K "Net") dx (netFs D1 D2 D3 D4))) := Ex.put e7.fh fx5 (by simp)
  have b7 : Ex [x] F H F4 (upd H7 x (.ins (He.ga K "Net") dx (netFs D1 D2 D3 D4))) := b5.trans ((e7.mono (by simp)).trans p7)
  have c7 : (upd H7 x (.ins (He.ga K "Net") dx (netFs D1 D2 D3 D4))) x = some (.ins (He.ga K "Net") dx (netFs D1 D2 D3 D4)) := upd_same
  have qx4 : ∀ q ∈ q4, q ∉ [x] := fun q hq z => by
    have := nn4 q hq
    rw [List.mem_singleton.mp z, c5] at this
    cases this
  have D4x : D4 ∉ [x] := fun z => by
    rw [List.mem_singleton.mp z, c5] at hD4
    cases hD4
  have dis : ∀ q ∈ q3, q ∉ q4 := fun q hq z => by
    obtain ⟨j, hj⟩ := List.getElem?_of_mem hq
    obtain ⟨_, us, y, _⟩ := lo5.at' j q hj
    rw [nn4 q z] at y
    cases y
  have lo7 : LotG (q3 ++ q4) F4 (upd H7 x (.ins (He.ga K "Net") dx (netFs D1 D2 D3 D4))) (lotR sg.length rs' F4 0) := by
    have l3 := (lo5.ex e7 (by simp) (R2 := fun _ us => us = []) fun _ _ h => h).ex p7 qx3 (R2 := fun _ us => us = []) fun _ _ h => h
    have l4 := lo4.ex p7 qx4 (R2 := fun _ us => us = []) fun _ _ h => h
    refine (l3.app l4 dis).imp fun j us h => ?_
    have : us = [] := by
      split at h <;> exact h
    subst this
    refine ⟨?_, Nat.le_refl _⟩
    simp [Rds]
    exact Wks.nil
  have hd7 := (e7.at hd5 (by simp))
  have hd7' := p7.at hd7 D3x
  have hd8 := p7.at hd4 D4x
  have q4H : ∀ q ∈ q4, H q = none := fun q hq => new b5 (nn4 q hq)
  have D4H : H D4 = none := new b5 hD4
  have xq : x ∉ q3 ++ q4 := fun z => by
    rcases List.mem_append.mp z with z | z
    · exact qx3 x z (by simp)
    · exact qx4 x z (by simp)
  have D3q : D3 ∉ q3 ++ q4 := fun z => by
    rcases List.mem_append.mp z with z | z
    · exact dn3 z
    · rw [nn4 D3 z] at hd5
      cases hd5
  have D4q : D4 ∉ q3 ++ q4 := fun z => by
    rcases List.mem_append.mp z with z | z
    · obtain ⟨j, hj⟩ := List.getElem?_of_mem z
      obtain ⟨_, us, y, _⟩ := lo5.at' j D4 hj
      rw [hD4] at y
      cases y
    · exact dn4 z
  dsimp only
  show tFor _ _ _ _ _ (upd H7 x (.ins (He.ga K "Net") dx (netFs D1 D2 D3 D4)))
  generalize upd H7 x (.ins (He.ga K "Net") dx (netFs D1 D2 D3 D4)) = H8 at p7 b7 c7 lo7 hd7' hd8
  refine forg_list (q3 ++ q4) (fun R h => ⟨_, rfl, x, _, dx, _, .ref D2, rfl, c7, C, T.na_Net_own_roads, rfl, h⟩) d3' b7.fh (fun i σ1 F1 H1 => (∃ u v w z, σ1 = [some (.ref x), some (.ref sa), some (.ref ra), none, u, v, w, z]) ∧ LotG (q3 ++ q4) F1 H1 (lotR sg.length rs' F1 i)) ⟨⟨_, _, _, _, rfl⟩, lo7⟩ ?_ ?_
  · rintro i y σ1 F5 H9 Nk hi hy e ⟨⟨u, v, w, z, rfl⟩, lo⟩ nk
    obtain ⟨r, hr', wr⟩ := Rds.get w3 hy
    have ro := hro r (pm.mem_iff.mp (List.mem_of_getElem? hr'))
    obtain ⟨p, vo, vi, rfl, hp, wo, wi⟩ := Rd.wk (Wk.up e.ff wr)
    refine ⟨p, _, rfl, SqT.of (e.fh _ _ hp), rfl, _, _, rfl, _, _, rfl, _, _, rfl, _, _, rfl, rfl, ?_⟩
    have hi2 : i < 100000 := by omega
    have cx := e.at c7 xq
    have ja : (q3 ++ q4)[sg.length + r.a]? = some (q4[r.a]'(by have := ro.ha; omega)) := by
      rw [List.getElem?_append_right (by omega)]
      have : sg.length + r.a - q3.length = r.a := by omega
      rw [this]
      simp
    have jb : (q3 ++ q4)[r.b]? = some (q3[r.b]'(by have := ro.hb; omega)) := by
      rw [List.getElem?_append_left (by have := ro.hb; omega)]
      simp
    have ia : atI (q4.map V.ref) (r.a : Int) = some (.ref (q4[r.a]'(by have := ro.ha; omega))) := by
      have := ro.ha
      rw [at_toNat (by omega) (by simp; omega)]
      simp
    have ib : atI (q3.map V.ref) (r.b : Int) = some (.ref (q3[r.b]'(by have := ro.hb; omega))) := by
      have := ro.hb
      rw [at_toNat (by omega) (by simp; omega)]
      simp
    obtain ⟨fa, ua, hua, ra1, ra2⟩ := lo.at' _ _ ja
    generalize (q4[r.a]'(by have := ro.ha; omega)) = qa at ja ia fa hua
    generalize (q3[r.b]'(by have := ro.hb; omega)) = qb at jb ib
    refine ⟨_, rfl, x, _, dx, _, .ref D4, rfl, cx, C, T.na_Net_own_out, rfl, _, rfl, D4, _, _, .ref qa, rfl, rfl, SqL.of (e.at hd8 D4q), ia, .inl ⟨rfl, _, SqL.of hua⟩, _, rfl, _, rfl, _, rfl, _, rfl, (by show 4 ≤ sizeLine; omega), fun p2 hp2 => ?_⟩
    have hua2 : (upd H9 p2 (.tup [.int r.a, .int r.b, vo, vi])) qa = some (.lst ua) := by rw [upd_ne (ne_of_none hua hp2)]; exact hua
    refine ⟨qa, ua, _, rfl, rfl, hua2, by omega, ?_⟩
    have s1 : Same F5 (upd F5 p2 (.tup [.int r.a, .int r.b, vo, vi])) := Same.upd (Same.free e.fh hp2)
    have wn : Wk (upd F5 p2 (.tup [.int r.a, .int r.b, vo, vi])) r.w (.ref p2) := Rd.wk_new (Same.free e.fh hp2) wo wi
    obtain ⟨lo2, e2⟩ := lot_push (us2 := ua ++ [.ref p2]) (t := [.int r.a, .int r.b, vo, vi]) (R2 := fun j us => Rds (upd F5 p2 (.tup [.int r.a, .int r.b, vo, vi])) (if j < sg.length then (rs'.take i).filter (fun r => decide (r.b = j)) else (rs'.take (i + 1)).filter (fun r => decide (r.a = j - sg.length))) us ∧ us.length ≤ i + 1) lo e.fh ja hua hp2
      (by
        refine ⟨?_, by simp; omega⟩
        rw [if_neg (by omega), take_filter hr', if_pos (by simp)]
        rw [if_neg (by omega)] at ra1
        exact Rds.app (Wks.up s1 ra1) wn)
      (fun k us hk hR => by
        obtain ⟨t1, t2⟩ := hR
        refine ⟨?_, by omega⟩
        split at t1
        · rename_i hlt
          rw [if_pos hlt]
          exact Wks.up s1 t1
        · rename_i hlt
          rw [if_neg hlt, take_filter hr', if_neg (by simp; omega)]
          exact Wks.up s1 t1)
    dsimp only
    generalize (upd F5 p2 (.tup [.int r.a, .int r.b, vo, vi])) = F6 at s1 wn lo2 e2
    generalize (upd (upd H9 p2 (.tup [.int r.a, .int r.b, vo, vi])) qa (.lst (ua ++ [.ref p2]))) = H10 at lo2 e2 ⊢
    have e12 := e.trans e2
    obtain ⟨fb, ub, hub, rb1, rb2⟩ := lo2.at' _ _ jb
    refine r_drop ⟨_, rfl, x, _, dx, _, .ref D3, rfl, e12.at c7 xq, C, T.na_Net_own_in, rfl, _, rfl, D3, _, _, .ref qb, rfl, rfl, SqL.of (e12.at hd7' D3q), ib, .inl ⟨rfl, _, SqL.of hub⟩, _, rfl, _, rfl, _, rfl, _, rfl, (by show 4 ≤ sizeLine; omega), fun p3 hp3 => ?_⟩
    have hub2 : (upd H10 p3 (.tup [.int r.a, .int r.b, vo, vi])) qb = some (.lst ub) := by rw [upd_ne (ne_of_none hub hp3)]; exact hub
    refine ⟨qb, ub, _, rfl, rfl, hub2, by omega, ?_⟩
    have s2 : Same F6 (upd F6 p3 (.tup [.int r.a, .int r.b, vo, vi])) := Same.upd (Same.free e12.fh hp3)
    have wn2 : Wk (upd F6 p3 (.tup [.int r.a, .int r.b, vo, vi])) r.w (.ref p3) := Rd.wk_new (Same.free e12.fh hp3) (wo.up s1) (wi.up s1)
    obtain ⟨lo3', e3'⟩ := lot_push (us2 := ub ++ [.ref p3]) (t := [.int r.a, .int r.b, vo, vi]) (R2 := lotR sg.length rs' (upd F6 p3 (.tup [.int r.a, .int r.b, vo, vi])) (i + 1)) lo2 e12.fh jb hub hp3
      (by
        have := ro.hb
        rw [if_pos this] at rb1
        have hlen : ub.length ≤ i := by
          have q1 := Rds.len rb1
          have q2 := List.length_filter_le (fun x : Rd => decide (x.b = r.b)) (rs'.take i)
          have q3 : (rs'.take i).length ≤ i := by simp; omega
          omega
        refine ⟨?_, by simp; omega⟩
        rw [if_pos this, take_filter hr', if_pos (by simp)]
        exact Rds.app (Wks.up s2 rb1) wn2)
      (fun k us hk hR => by
        obtain ⟨t1, t2⟩ := hR
        refine ⟨?_, by omega⟩
        split at t1
        · rename_i hlt
          rw [if_pos hlt, take_filter hr', if_neg (by simp; omega)]
          exact Wks.up s2 t1
        · rename_i hlt
          rw [if_neg hlt]
          exact Wks.up s2 t1)
    exact nk _ _ _ (e2.trans e3') ⟨⟨_, _, _, _, rfl⟩, lo3'⟩
  · rintro σ1 F5 H9 e ⟨⟨u, v, w, z, rfl⟩, lo⟩
    have E : Ex [x] F H F5 H9 := b7.newly' e (fun p hp => by
      rcases List.mem_append.mp hp with z | z
      · exact .inl (q3H p z)
      · exact .inl (q4H p z))
    have EA := E.all hF
    have le := E.all_le
    have fxx : frzAll H F5 H9 x = none := by
      unfold frzAll
      rw [hx]
      exact E.nf fx (ne_none hx)
    have F5D1 := e.fz d3
    have F5D2 := e.fz d3'
    have len2 : rs'.length = ys2.length := by omega
    have lots : ∀ (l : Addr) (qs : List Addr) (off : Nat) (f : Nat → List Rd), H l = none → H9 l = some (.lst (qs.map V.ref)) → qs.length = sg.length → (∀ q ∈ qs, H q = none) → (∀ k q, qs[k]? = some q → ∃ us, H9 q = some (.lst us) ∧ Rds F5 (f k) us) → Lots (frzAll H F5 H9) l sg.length f := by
      intro l qs off f hl h9 ln hn at9
      refine ⟨qs.map V.ref, by rw [frzAll_new hl]; exact h9, by simp [ln], fun k hk => ?_⟩
      have hk2 : k < qs.length := by omega
      obtain ⟨us, g1, g2⟩ := at9 k qs[k] (by simp [hk2])
      exact ⟨qs[k], us, by simp [hk2], by rw [frzAll_new (hn _ (List.getElem_mem hk2))]; exact g1, Wks.up le g2⟩
    refine kk rs' D1 D2 D3 D4 ys1 ys2 _ H9 pm EA fxx (e.at c7 xq) (le _ _ F5D1) ((w1''.up e.ff).up le) (le _ _ F5D2) (Wks.up le (Wks.up e.ff w3)) ?_ ?_
    · refine lots D3 q3 0 _ D3H (e.at hd7' D3q) (by omega) q3H fun k q hq => ?_
      have hk : k < q3.length := (List.getElem?_eq_some_iff.mp hq).1
      obtain ⟨_, us, g1, g2, _⟩ := lo.at' k q (by rw [List.getElem?_append_left hk]; exact hq)
      rw [if_pos (by omega), List.take_of_length_le (by omega)] at g2
      exact ⟨us, g1, g2⟩
    · refine lots D4 q4 0 _ D4H (e.at hd8 D4q) (by omega) q4H fun k q hq => ?_
      obtain ⟨_, us, g1, g2, _⟩ := lo.at' (q3.length + k) q (by rw [List.getElem?_append_right (by omega)]; simpa using hq)
      have ek : q3.length + k - sg.length = k := by omega
      rw [if_neg (by omega), List.take_of_length_le (by omega), ek] at g2
      exact ⟨us, g1, g2⟩
end
end T3

namespace T3
open PySem PySem.Spec PyProof.Rows L2 Ly
section
variable {P : Program} {w : World} {K : PySem.W.Frag} {mg : Str → Option Value} {base : Heap}
def spNetLen (K : PySem.W.Frag) : Sp := fun vs H Q _ => ∃ (a : Addr) (sg : List W) (rs : List Rd) (F : Hp), vs = [.ref a] ∧ Same F H ∧ NetF (He.ga K "Net") F sg rs (.ref a) ∧ Q (.int sg.length) H
theorem ok_net_len (T : Top K mg) : OkM P w K mg base (He.ma K (He.ga K "Net") "__len__") 1 ["self"] (spNetLen K) := by
  refine okm_of T.F_Net_len sc_Net_len (fun _ _ _ _ _ _ us hl => match us, hl with | [_], _ => rfl) (fun vs H Q E h => ?_) (fun cdv A outer s H vs Q E hr h => ?_)
  · first | (obtain ⟨rfl, _⟩ := h; rfl) | (obtain ⟨_, rfl, _⟩ := h; rfl) | (obtain ⟨_, _, rfl, _⟩ := h; rfl) | (obtain ⟨_, _, _, rfl, _⟩ := h; rfl) | (obtain ⟨_, _, _, _, rfl, _⟩ := h; rfl) | (obtain ⟨_, _, _, _, _, rfl, _⟩ := h; rfl) | (obtain ⟨_, _, _, _, _, _, rfl, _⟩ := h; rfl) | (obtain ⟨_, _, _, _, _, _, _, rfl, _⟩ := h; rfl) | (obtain ⟨_, _, _, _, _, _, _, _, rfl, _⟩ := h; rfl) | (obtain ⟨_, _, _, _, _, _, _, _, _, rfl, _⟩ := h; rfl) | (obtain ⟨_, _, _, _, _, _, _, _, _, _, rfl, _⟩ := h; rfl) | (obtain ⟨_, _, _, _, _, _, _, _, _, _, _, rfl, _⟩ := h; rfl)
  obtain ⟨a, sg, rs, F, rfl, hF, n, kk⟩ := h
  refine ⟨_, (pss_one (ps_ret (pe_callB call_len_seq rfl T.b_len (by decide +kernel) (pa_cons (pe_fld (pv 0) rfl) pa_nil)))), ?_⟩
  obtain ⟨a', dx, l1, l2, l3, l4, svs, rvs, e, h1, h2, h3, h4⟩ := n.ex
  cases e
  refine ⟨_, rfl, a, _, dx, _, .ref l1, rfl, hF _ _ h1, T.cl_Net, T.na_Net_own_signs, rfl, l1, svs, rfl, .inl (SqL.of (hF _ _ h2)), ?_⟩
  have := h3.len
  rw [this]
  exact kk
theorem mk_net {sa ra : Addr} {svs rvs : List V} {sg : List W} {rs : List Rd} {F H : Hp} {Q : VK} (hF : Same F H) (hsa : F sa = some (.lst svs)) (hsg : Wks F sg svs) (hok : ∀ k ∈ sg, Wok k) (h0 : 0 < sg.length) (h1 : sg.length < 100000) (hra : F ra = some (.lst rvs)) (hrs : Rds F rs rvs)
    (hro : ∀ r ∈ rs, r.OkN sg.length) (h2 : rs.length < 100000) (kk : ∀ x rs' F' H', rs'.Perm rs → Ex [] F H F' H' → NetF (He.ga K "Net") F' sg rs' (.ref x) → Q (.ref x) H') :
    ∀ x dx, H x = none → H dx = none → dx ≠ x → spInit K (.ref x :: ([.ref sa, .ref ra] ++ [])) (upd (upd H dx (.own x)) x (.ins (He.ga K "Net") dx [])) (fun v H2 => v = .non ∧ Q (.ref x) H2) E0 := by
  intro x dx hx hdx ne
  have e1 : Ex [] F H F (upd H dx (.own x)) := Ex.new hF hdx
  have e0 : Ex [] F H F (upd (upd H dx (.own x)) x (.ins (He.ga K "Net") dx [])) := e1.trans (Ex.new e1.fh (by rw [upd_ne (fun z => ne z.symm)]; exact hx))
  refine ⟨x, sa, ra, dx, svs, rvs, sg, rs, F, rfl, e0.fh, Same.free hF hx, upd_same, hsa, hsg, hok, h0, h1, hra, hrs, hro, h2, fun rs' l1 l2 l3 l4 svs' rvs' F' H' pm e fx hx' q1 q2 q3 q4 q5 q6 => ⟨rfl, ?_⟩⟩
  have e2 : Ex [] F H F' H' := e0.newly e (fun p hp => by rw [List.mem_singleton.mp hp]; exact hx)
  have le : Same F' (upd F' x (.ins (He.ga K "Net") dx (netFs l1 l2 l3 l4))) := Same.upd fx
  refine kk x rs' _ H' pm (e2.frz hx hx' fx) ⟨⟨x, dx, l1, l2, l3, l4, svs', rvs', rfl, upd_same, le _ _ q1, q2.up le, le _ _ q3, Wks.up le q4, q5.up le, q6.up le⟩, h0, h1, hok, fun r hr => hro r (pm.mem_iff.mp hr), ?_⟩
  rw [pm.length_eq]
  exact h2
def spIsList2 : Sp := fun vs H Q _ => ∃ (a : Addr) (xs : List V) (F : Hp), vs = [.ref a] ∧ Same F H ∧ F a = some (.lst xs) ∧ ∀ H', Ex [] F H F H' → Q (.bl true) H'
theorem ok_is_list2 (T : Top K mg) : Ok P w K mg base "is_list" 1 ["thing"] spIsList2 := by
  refine ok_of T.g_is_list T.F_is_list sc_is_list (fun _ _ _ _ _ _ us hl => match us, hl with | [_], _ => rfl) (fun vs H Q E h => ?_) (fun cdv A outer s H vs Q E hr h => ?_)
  · first | (obtain ⟨rfl, _⟩ := h; rfl) | (obtain ⟨_, rfl, _⟩ := h; rfl) | (obtain ⟨_, _, rfl, _⟩ := h; rfl) | (obtain ⟨_, _, _, rfl, _⟩ := h; rfl) | (obtain ⟨_, _, _, _, rfl, _⟩ := h; rfl) | (obtain ⟨_, _, _, _, _, rfl, _⟩ := h; rfl) | (obtain ⟨_, _, _, _, _, _, rfl, _⟩ := h; rfl) | (obtain ⟨_, _, _, _, _, _, _, rfl, _⟩ := h; rfl) | (obtain ⟨_, _, _, _, _, _, _, _, rfl, _⟩ := h; rfl) | (obtain ⟨_, _, _, _, _, _, _, _, _, rfl, _⟩ := h; rfl) | (obtain ⟨_, _, _, _, _, _, _, _, _, _, rfl, _⟩ := h; rfl) | (obtain ⟨_, _, _, _, _, _, _, _, _, _, _, rfl, _⟩ := h; rfl)
  obtain ⟨a, xs, F, rfl, hF, ha, kk⟩ := h
  refine ⟨_, (pss_one (ps_ret (pe_callB call_isiT rfl T.b_isinstance (by decide +kernel) (pa_cons (pv 0) (pa_cons (pe_tup (pa_cons (pe_bltn rfl T.b_list (by decide +kernel) (show RelV (.ty "list") _ from rfl)) (pa_cons (pe_bltn rfl T.b_tuple (by decide +kernel) (show RelV (.ty "tuple") _ from rfl)) pa_nil))) pa_nil))))), ?_⟩
  refine ⟨_, rfl, by show 2 ≤ sizeLine; decide, fun p hp => ?_⟩
  have e : Ex [] F H F (upd H p (.tup [.ty "list", .ty "tuple"])) := Ex.new hF hp
  exact ⟨.ref a, p, _, .type "list", [.type "list", .type "tuple"], true, rfl, upd_same, .cons (.ty _) (.cons (.ty _) .nil), .base (.lst (e.fh _ _ ha)), kit_seq (K := K) (.list []), kk _ e⟩
def spCheckedNets (K : PySem.W.Frag) : Sp := fun vs H Q _ => ∃ (a : Addr) (xs : List V) (F : Hp), vs = [.ref a] ∧ Same F H ∧ F a = some (.lst xs) ∧ 0 < xs.length ∧ xs.length < 100000 ∧ (∀ v ∈ xs, ∃ sg rs, NetF (He.ga K "Net") F sg rs v) ∧
  ∀ p H', Ex [] F H F H' → H p = none → H' p = some (.lst xs) → Q (.ref p) H'
theorem ok_checked_nets (T : Top K mg) : Ok P w K mg base "checked_nets" 2 ["nets"] (spCheckedNets K) := by
  have G_is_list : Ok P w K mg base "is_list" 1 ["thing"] spIsList2 := ok_is_list2 T
  refine ok_of T.g_checked_nets T.F_checked_nets sc_checked_nets (fun _ _ _ _ _ _ us hl => match us, hl with | [_], _ => rfl) (fun vs H Q E h => ?_) (fun cdv A outer s H vs Q E hr h => ?_)
  · first | (obtain ⟨rfl, _⟩ := h; rfl) | (obtain ⟨_, rfl, _⟩ := h; rfl) | (obtain ⟨_, _, rfl, _⟩ := h; rfl) | (obtain ⟨_, _, _, rfl, _⟩ := h; rfl) | (obtain ⟨_, _, _, _, rfl, _⟩ := h; rfl) | (obtain ⟨_, _, _, _, _, rfl, _⟩ := h; rfl) | (obtain ⟨_, _, _, _, _, _, rfl, _⟩ := h; rfl) | (obtain ⟨_, _, _, _, _, _, _, rfl, _⟩ := h; rfl) | (obtain ⟨_, _, _, _, _, _, _, _, rfl, _⟩ := h; rfl) | (obtain ⟨_, _, _, _, _, _, _, _, _, rfl, _⟩ := h; rfl) | (obtain ⟨_, _, _, _, _, _, _, _, _, _, rfl, _⟩ := h; rfl) | (obtain ⟨_, _, _, _, _, _, _, _, _, _, _, rfl, _⟩ := h; rfl)
  obtain ⟨a, xs, F, rfl, hF, ha, h0, h1, hn, kk⟩ := h
  refine ⟨_, (pss_cons (ps_if (PW.pt (pw_or (pt_not (pt_val (pe_ok G_is_list hr (pa_cons (pv 0) pa_nil)))) (pw_or1 (pt_cmpR op_eq (pe_callB call_len_seq rfl T.b_len (by decide +kernel) (pa_cons (pv 0) pa_nil)) pe_int (nomark _))))) (pss_one ps_never) pss_nil)
    (pss_cons (ps_for PassesOwn.never rfl (pi_enum rfl T.b_enumerate (pa_cons (pv 0) pa_nil)) (pg_tup rfl (pgs_cons (pg_name (i := 1) sc_checked_nets.nd rfl (Or.inl rfl)) (pgs_cons (pg_name (i := 2) sc_checked_nets.nd rfl (Or.inl rfl)) pgs_nil))) (pss_one (ps_if (pt_not (pt_val (pe_callB call_isi rfl T.b_isinstance (by decide +kernel) (pa_cons (pv 2) (pa_cons (pe_globR T.g_Net) pa_nil))))) (pss_one ps_never) pss_nil)))
    (pss_one (ps_ret (pe_callTy call_list_of rfl T.b_list (by decide +kernel) (pa_cons (pv 0) pa_nil)))))), ?_⟩
  have z1 := sizeLine_eq
  refine ⟨_, rfl, a, xs, F, rfl, hF, ha, fun H1 e1 => ⟨_, rfl, ?_⟩⟩
  refine iteF ⟨_, rfl, _, _, rfl, .inl (SqL.of (e1.fh _ _ ha)), rfl, _, rfl, ?_⟩
  refine iteF' (by
    have : ¬ xs = [] := fun z => by
      rw [z] at h0
      simp at h0
    simpa using this) (r_next ?_)
  dsimp only
  refine r_seq (forg_enum [] (fun R h => ⟨_, rfl, h⟩) ha e1.fh (fun i σ1 F1 H2 => F1 = F ∧ ∃ u v, σ1 = [some (.ref a), u, v]) ⟨rfl, _, _, rfl⟩ ?_ ?_)
  · rintro i x t σ1 F1 H2 Nk hi hx e ⟨rfl, u, v, rfl⟩ ht nk
    obtain ⟨sg, rs, n⟩ := hn x (List.mem_of_getElem? hx)
    obtain ⟨a', dx, l1, l2, l3, l4, svs, rvs, rfl, h1, _⟩ := n.ex
    refine ⟨t, _, rfl, SqT.of upd_same, rfl, _, _, rfl, _, _, rfl, rfl, ?_⟩
    have et : Ex [] F1 H2 F1 (upd H2 t (.tup [.int (i : Nat), .ref a'])) := Ex.new e.fh ht
    refine ⟨_, rfl, _, _, .ref (He.ga K "Net"), .ref (He.ga K "Net"), true, rfl, .own _, .base (.ins (et.fh _ _ h1) T.cl_Net T.kCl T.kGet T.kTk T.kMro), T.kNN, _, rfl, ?_⟩
    exact iteF (nk _ F1 _ (Ex.refl et.fh) ⟨rfl, _, _, rfl⟩)
  · rintro σ1 F1 H2 e ⟨rfl, u, v, rfl⟩
    dsimp only
    refine ⟨_, rfl, a, xs, rfl, .inl (SqL.of (e.fh _ _ ha)), fun l hl => ?_⟩
    have E : Ex [] F1 H F1 (upd H2 l (.lst xs)) := (e1.trans e).trans (Ex.new e.fh hl)
    refine kk l _ E ?_ upd_same
    cases z : H l with
    | none => rfl
    | some o => exact absurd hl ((e1.trans e).dm l (ne_none z))
def spBackward (K : PySem.W.Frag) : Sp := fun vs H Q _ => ∃ (x : V) (sg : List W) (rs : List Rd) (F : Hp), vs = [x] ∧ Same F H ∧ NetF (He.ga K "Net") F sg rs x ∧
  ∀ y rs' F' H', rs'.Perm (rs.map Rd.rev) → Ex [] F H F' H' → NetF (He.ga K "Net") F' sg rs' y → Q y H'
theorem ok_backward (T : Top K mg) : Ok P w K mg base "backward" 16 ["net"] (spBackward K) := by
  have M_init : OkM P w K mg base (He.ma K (He.ga K "Net") "__init__") 14 ["self", "signs", "roads"] (spInit K) := ok_init T
  refine ok_of T.g_backward T.F_backward sc_backward (fun _ _ _ _ _ _ us hl => match us, hl with | [_], _ => rfl) (fun vs H Q E h => ?_) (fun cdv A outer s H vs Q E hr h => ?_)
  · first | (obtain ⟨rfl, _⟩ := h; rfl) | (obtain ⟨_, rfl, _⟩ := h; rfl) | (obtain ⟨_, _, rfl, _⟩ := h; rfl) | (obtain ⟨_, _, _, rfl, _⟩ := h; rfl) | (obtain ⟨_, _, _, _, rfl, _⟩ := h; rfl) | (obtain ⟨_, _, _, _, _, rfl, _⟩ := h; rfl) | (obtain ⟨_, _, _, _, _, _, rfl, _⟩ := h; rfl) | (obtain ⟨_, _, _, _, _, _, _, rfl, _⟩ := h; rfl) | (obtain ⟨_, _, _, _, _, _, _, _, rfl, _⟩ := h; rfl) | (obtain ⟨_, _, _, _, _, _, _, _, _, rfl, _⟩ := h; rfl) | (obtain ⟨_, _, _, _, _, _, _, _, _, _, rfl, _⟩ := h; rfl) | (obtain ⟨_, _, _, _, _, _, _, _, _, _, _, rfl, _⟩ := h; rfl)
  obtain ⟨x, sg, rs, F, rfl, hF, n, kk⟩ := h
  refine ⟨_, (pss_one (ps_ret (pe_mkO T.mk_Net M_init hr T.g_Net (pa_cons (pe_fld (pv 0) rfl) (pa_cons (pe_lc (own := [("one", 1), ("other", 2), ("out", 3), ("into", 4)]) (g := (gTup K 4 (gCons (gName 1) (gCons (gName 2) (gCons (gName 3) (gCons (gName 4) gNil)))))) (tt := tYes) (te := (tTup (tCons (tVar 2) (tCons (tVar 1) (tCons (tVar 4) (tCons (tVar 3) tNil)))))) rfl sc_backward.nd (pi_list (pe_fld (pv 0) rfl)) (blkOk_by (own := [("one", 1), ("other", 2), ("out", 3), ("into", 4)]) (N := N_backward) (sc := defScope s_backward) (by decide +kernel)) (fun _ _ _ _ _ => (pg_tup rfl (pgs_cons (pg_name (i := 1) sc_backward.nd rfl (Or.inl rfl)) (pgs_cons (pg_name (i := 2) sc_backward.nd rfl (Or.inl rfl)) (pgs_cons (pg_name (i := 3) sc_backward.nd rfl (Or.inl rfl)) (pgs_cons (pg_name (i := 4) sc_backward.nd rfl (Or.inl rfl)) pgs_nil)))))) (fun _ _ _ _ _ => pts_nil) (fun _ _ _ _ _ => (pe_tup (pa_cons (pv 2) (pa_cons (pv 1) (pa_cons (pv 4) (pa_cons (pv 3) pa_nil))))))) pa_nil))))), ?_⟩
  obtain ⟨a, dx, l1, l2, l3, l4, svs, rvs, rfl, h1, h2, h3, h4, h5, _⟩ := n.ex
  have z1 := sizeLine_eq
  have m1 := Rds.len h5
  have m2 := n.rsm
  refine ⟨_, rfl, a, _, dx, _, .ref l1, rfl, hF _ _ h1, T.cl_Net, T.na_Net_own_signs, rfl, ?_⟩
  refine lcg_list [] (fun R h => ⟨_, rfl, a, _, dx, _, .ref l2, rfl, hF _ _ h1, T.cl_Net, T.na_Net_own_roads, rfl, h⟩) h4 hF (by simp) (by omega) (fun k acc F => Rds F ((rs.map Rd.rev).take k) acc) (fun _ _ _ => True) (fun _ _ _ _ h q => Wks.up h q) (fun _ _ _ _ _ _ _ _ _ => trivial) (by simp [Rds]; exact Wks.nil) trivial ?_ ?_
  · intro i y acc F' H' Kk Nk hi hy e p _ _ k1 _
    obtain ⟨r, hr', wr⟩ := Rds.get h5 hy
    obtain ⟨q, vo, vi, rfl, hq, wo, wi⟩ := Rd.wk (Wk.up e.ff wr)
    refine ⟨q, _, rfl, SqT.of (e.fh _ _ hq), rfl, _, _, rfl, _, _, rfl, _, _, rfl, _, _, rfl, rfl, rfl, _, rfl, _, rfl, _, rfl, _, rfl, by show 4 ≤ sizeLine; omega, fun p2 hp2 => ?_⟩
    refine k1 _ (upd F' p2 (.tup [.int r.b, .int r.a, vi, vo])) _ (Ex.newF e.fh hp2) ?_ trivial
    have := Rd.wk_new (a := r.b) (b := r.a) (Same.free e.fh hp2) wi wo
    rw [List.take_add_one, List.getElem?_map, hr']
    exact Rds.app (Wks.up (Same.upd (Same.free e.fh hp2)) p) this
  · intro D acc F' H' e hD fD hd' p _ _
    rw [List.take_of_length_le (by rw [List.length_map]; omega)] at p
    have ef := e.frz hD hd' fD
    have le : Same F' (upd F' D (.lst acc)) := Same.upd fD
    refine mk_net (rs := rs.map Rd.rev) ef.fh (ef.fz h2) (h3.up ef.ff) n.sok n.pos n.sml upd_same (Wks.up le p) (fun r hr => ?_) (by simpa using n.rsm) fun x rs' F2 H2 pm e2 nn => kk _ rs' F2 H2 pm (ef.trans e2) nn
    obtain ⟨r0, hr0, rfl⟩ := List.mem_map.mp hr
    exact (n.rok r0 hr0).rev
def spBeside (K : PySem.W.Frag) : Sp := fun vs H Q _ => ∃ (a : Addr) (x : V) (sg : List W) (rs : List Rd) (F : Hp), vs = [.ref a] ∧ Same F H ∧ F a = some (.lst [x, x]) ∧ NetF (He.ga K "Net") F sg rs x ∧ sg.length < 1000 ∧ rs.length < 1000 ∧
  ∀ y rs' F' H', rs'.Perm (rs ++ rs.map (Rd.sh sg.length)) → Ex [] F H F' H' → NetF (He.ga K "Net") F' (sg ++ sg) rs' y → Q y H'
def bsg (sg : List W) : Nat → List W
  | 0 => []
  | i + 1 => bsg sg i ++ sg
def brs (n : Nat) (rs : List Rd) : Nat → List Rd
  | 0 => []
  | i + 1 => brs n rs i ++ rs.map (Rd.sh (i * n))
theorem bsg_len (sg : List W) : ∀ i, (bsg sg i).length = i * sg.length
  | 0 => by simp [bsg]
  | i + 1 => by simp only [bsg, List.length_append, bsg_len sg i]; rw [Nat.succ_mul]
theorem brs_len (n : Nat) (rs : List Rd) : ∀ i, (brs n rs i).length = i * rs.length
  | 0 => by simp [brs]
  | i + 1 => by simp only [brs, List.length_append, brs_len n rs i, List.length_map]; rw [Nat.succ_mul]
theorem ok_beside (T : Top K mg) : Ok P w K mg base "beside" 16 ["nets"] (spBeside K) := by
  have M_init : OkM P w K mg base (He.ma K (He.ga K "Net") "__init__") 14 ["self", "signs", "roads"] (spInit K) := ok_init T
  have G_checked_nets : Ok P w K mg base "checked_nets" 2 ["nets"] (spCheckedNets K) := ok_checked_nets T
  refine ok_of T.g_beside T.F_beside sc_beside (fun _ _ _ _ _ _ us hl => match us, hl with | [_], _ => rfl) (fun vs H Q E h => ?_) (fun cdv A outer s H vs Q E hr h => ?_)
  · first | (obtain ⟨rfl, _⟩ := h; rfl) | (obtain ⟨_, rfl, _⟩ := h; rfl) | (obtain ⟨_, _, rfl, _⟩ := h; rfl) | (obtain ⟨_, _, _, rfl, _⟩ := h; rfl) | (obtain ⟨_, _, _, _, rfl, _⟩ := h; rfl) | (obtain ⟨_, _, _, _, _, rfl, _⟩ := h; rfl) | (obtain ⟨_, _, _, _, _, _, rfl, _⟩ := h; rfl) | (obtain ⟨_, _, _, _, _, _, _, rfl, _⟩ := h; rfl) | (obtain ⟨_, _, _, _, _, _, _, _, rfl, _⟩ := h; rfl) | (obtain ⟨_, _, _, _, _, _, _, _, _, rfl, _⟩ := h; rfl) | (obtain ⟨_, _, _, _, _, _, _, _, _, _, rfl, _⟩ := h; rfl) | (obtain ⟨_, _, _, _, _, _, _, _, _, _, _, rfl, _⟩ := h; rfl)
  obtain ⟨a, x, sg, rs, F, rfl, hF, ha, n, sm1, sm2, kk⟩ := h
  refine ⟨_, (pss_cons (ps_par (i := 1) (j := 2) rfl sc_beside.nd rfl rfl (by decide) rfl rfl (pa_cons (pe_lst pa_nil) (pa_cons (pe_lst pa_nil) pa_nil)) rfl)
    (pss_cons (ps_for PassesOwn.never rfl (pi_list (pe_ok G_checked_nets hr (pa_cons (pv 0) pa_nil))) (pg_name (i := 3) sc_beside.nd rfl (Or.inl rfl)) (pss_cons (ps_set (i := 4) sc_beside.nd rfl (Or.inr rfl) (pe_callB call_len_seq rfl T.b_len (by decide +kernel) (pa_cons (pv 1) pa_nil)))
    (pss_cons (ps_expr (pe_bm PySem.F.plainAttrs_list PySem.F.slot_list_extend PySem.F.type_list_extend mt_extend (pv 2) (pa_cons (pe_lc (own := [("one", 5), ("other", 6), ("out", 7), ("into", 8)]) (g := (gTup K 4 (gCons (gName 5) (gCons (gName 6) (gCons (gName 7) (gCons (gName 8) gNil)))))) (tt := tYes) (te := (tTup (tCons (tOp RAdd (tVar 5) (tVar 4)) (tCons (tOp RAdd (tVar 6) (tVar 4)) (tCons (tVar 7) (tCons (tVar 8) tNil)))))) rfl sc_beside.nd (pi_list (pe_fld (pv 3) rfl)) (blkOk_by (own := [("one", 5), ("other", 6), ("out", 7), ("into", 8)]) (N := N_beside) (sc := defScope s_beside) (by decide +kernel)) (fun _ _ _ _ _ => (pg_tup rfl (pgs_cons (pg_name (i := 5) sc_beside.nd rfl (Or.inl rfl)) (pgs_cons (pg_name (i := 6) sc_beside.nd rfl (Or.inl rfl)) (pgs_cons (pg_name (i := 7) sc_beside.nd rfl (Or.inl rfl)) (pgs_cons (pg_name (i := 8) sc_beside.nd rfl (Or.inl rfl)) pgs_nil)))))) (fun _ _ _ _ _ => pts_nil) (fun _ _ _ _ _ => (pe_tup (pa_cons (pe_op op_add (pv 5) (pv 4)) (pa_cons (pe_op op_add (pv 6) (pv 4)) (pa_cons (pv 7) (pa_cons (pv 8) pa_nil))))))) pa_nil)))
    (pss_one (ps_expr (pe_bm PySem.F.plainAttrs_list PySem.F.slot_list_extend PySem.F.type_list_extend mt_extend (pv 1) (pa_cons (pe_fld (pv 3) rfl) pa_nil)))))))
    (pss_one (ps_ret (pe_mkO T.mk_Net M_init hr T.g_Net (pa_cons (pv 1) (pa_cons (pv 2) pa_nil))))))), ?_⟩
  have z1 := sizeLine_eq
  have sh0 : rs.map (Rd.sh (0 * sg.length)) = rs := by
    have : Rd.sh (0 * sg.length) = id := by
      funext r
      simp [Rd.sh]
    rw [this, List.map_id]
  have m0 := n.pos
  obtain ⟨b0, dx, l1, l2, l3, l4, svs, rvs, ex, h1, h2, h3, h4, h5, _⟩ := n.ex
  have q1 := h3.len
  have q2 := Rds.len h5
  refine r_seq (r_par ⟨Nat.zero_le _, fun S hS => ⟨Nat.zero_le _, fun R hR => ⟨_, _, rfl, ?_⟩⟩⟩)
  have e1 : Ex [] F H F (upd H S (.lst [])) := Ex.new hF hS
  have e2 : Ex [] F H F (upd (upd H S (.lst [])) R (.lst [])) := e1.trans (Ex.new e1.fh hR)
  have hR0 := (upd_none hR).1
  have neSR : R ≠ S := (upd_none hR).2
  have dS : (upd (upd H S (.lst [])) R (.lst [])) S = some (.lst []) := by rw [upd_ne neSR.symm, upd_same]
  have dR : (upd (upd H S (.lst [])) R (.lst [])) R = some (.lst []) := upd_same
  dsimp only
  show tSeq _ _ _ _ (upd (upd H S (.lst [])) R (.lst []))
  generalize upd (upd H S (.lst [])) R (.lst []) = H1 at e2 dS dR
  refine r_seq (r_for ⟨_, rfl, a, _, F, rfl, e2.fh, ha, by simp, by simp, (fun v hv => ⟨sg, rs, by
    have : v = x := by simpa using hv
    rw [this]
    exact n⟩), fun p H2 e3 hp hp' => ⟨p, rfl, ⟨_, SqL.of hp'⟩, ?_⟩⟩)
  have fp : F p = none := Same.free e2.fh hp
  have e4 : Ex [] F H1 (upd F p (.lst [x, x])) H2 := e3.frz hp hp' fp
  have hpF : (upd F p (.lst [x, x])) p = some (.lst [x, x]) := upd_same
  have fS := e4.nf (Same.free hF hS) (ne_none dS)
  have fR := e4.nf (Same.free hF hR0) (ne_none dR)
  have E0' : Ex [] F H (upd F p (.lst [x, x])) H2 := e2.trans e4
  have dS2 := e4.at dS
  have dR2 := e4.at dR
  generalize (upd F p (.lst [x, x])) = F2 at e4 hpF fS fR E0'
  refine forg_gen walk_listF [S, R] e4.fh (fun F' H' g1 g2 => g2 _ _ (g1 _ _ hpF)) (fun i σ1 F1 H1 => (∃ u v, σ1 = [some (.ref a), some (.ref S), some (.ref R), u, v, none, none, none, none]) ∧ F1 S = none ∧ F1 R = none ∧ (∃ us, H1 S = some (.lst us) ∧ Wks F1 (bsg sg i) us) ∧ (∃ ws, H1 R = some (.lst ws) ∧ Rds F1 (brs sg.length rs i) ws))
    ⟨⟨_, _, rfl⟩, fS, fR, ⟨[], dS2, Wks.nil⟩, ⟨[], dR2, Wks.nil⟩⟩ ?_ ?_
  · rintro i y σ1 F3 H3 Nk hi hy e ⟨⟨u, v, rfl⟩, f1, f2, ⟨us, g1, g2⟩, ws, g3, g4⟩ nk
    have ey : y = x := by
      have := List.mem_of_getElem? hy
      simpa using this
    subst ey
    subst ex
    have lus := g2.len
    have lws := Rds.len g4
    rw [bsg_len] at lus
    rw [brs_len] at lws
    have hi2 : i < 2 := hi
    have lus2 : us.length ≤ 2 * 1000 := by
      rw [lus]
      exact Nat.mul_le_mul (by omega) (by omega)
    have lws2 : ws.length ≤ 2 * 1000 := by
      rw [lws]
      exact Nat.mul_le_mul (by omega) (by omega)
    have le : Same F F3 := Same.trans E0'.ff e.ff
    refine r_seq ⟨_, rfl, S, us, rfl, .inl (SqL.of g1), ?_⟩
    refine r_next ?_
    dsimp only
    refine r_seq (r_drop ⟨_, rfl, .inl ⟨rfl, _, SqL.of g3⟩, ?_⟩)
    refine lcg_list [] (fun R h => ⟨_, rfl, b0, _, dx, _, .ref l2, rfl, e.fh _ _ (le _ _ h1), T.cl_Net, T.na_Net_own_roads, rfl, h⟩) (le _ _ h4) e.fh (by simp) (by omega) (fun k acc F => Rds F ((rs.map (Rd.sh (i * sg.length))).take k) acc) (fun _ _ _ => True) (fun _ _ _ _ h q => Wks.up h q) (fun _ _ _ _ _ _ _ _ _ => trivial) (by simp [Rds]; exact Wks.nil) trivial ?_ ?_
    · intro j y acc F' H' Kk Nk hj hy e5 p _ _ k1 _
      obtain ⟨r, hr', wr⟩ := Rds.get h5 hy
      obtain ⟨q, vo, vi, rfl, hq, wo, wi⟩ := Rd.wk (Wk.up (Same.trans le e5.ff) wr)
      refine ⟨q, _, rfl, SqT.of (e5.fh _ _ hq), rfl, _, _, rfl, _, _, rfl, _, _, rfl, _, _, rfl, rfl, rfl, _, rfl, _, rfl, _, _, rfl, rfl, _, rfl, _, rfl, _, _, rfl, rfl, _, rfl, _, rfl, by show 4 ≤ sizeLine; omega, fun p2 hp2 => ?_⟩
      have wn := Rd.wk_new (a := r.a + i * sg.length) (b := r.b + i * sg.length) (Same.free e5.fh hp2) wo wi
      have c1 : ((r.a : Nat) : Int) + (us.length : Nat) = ((r.a + i * sg.length : Nat) : Int) := by rw [lus]; simp
      have c2 : ((r.b : Nat) : Int) + (us.length : Nat) = ((r.b + i * sg.length : Nat) : Int) := by rw [lus]; simp
      dsimp only
      rw [c1, c2]
      refine k1 _ (upd F' p2 (.tup [.int (r.a + i * sg.length : Nat), .int (r.b + i * sg.length : Nat), vo, vi])) _ (Ex.newF e5.fh hp2) ?_ trivial
      rw [List.take_add_one, List.getElem?_map, hr']
      exact Rds.app (Wks.up (Same.upd (Same.free e5.fh hp2)) p) wn
    · intro D acc F' H' e5 hD fD hd' p _ _
      rw [List.take_of_length_le (by rw [List.length_map]; omega)] at p
      have lacc := Rds.len p
      rw [List.length_map] at lacc
      have f2' := e5.nf f2 (ne_none g3)
      have f1' := e5.nf f1 (ne_none g1)
      have g3' := e5.at g3
      have g1' := e5.at g1
      refine ⟨R, D, ws, acc, rfl, rfl, g3', hd', by omega, ?_⟩
      have e6 : Ex [S, R] F3 H3 F' (upd H' R (.lst (ws ++ acc))) := (e5.mono (by simp)).trans (Ex.put e5.fh f2' (by simp))
      have k1 : (upd H' R (.lst (ws ++ acc))) S = some (.lst us) := by rw [upd_ne neSR.symm]; exact g1'
      have k2 : (upd H' R (.lst (ws ++ acc))) R = some (.lst (ws ++ acc)) := upd_same
      have w6 : Rds F' (brs sg.length rs (i + 1)) (ws ++ acc) := by
        have := Wks.app (Wks.up e5.ff g4) p
        rw [← List.map_append] at this
        exact this
      dsimp only
      generalize upd H' R (.lst (ws ++ acc)) = H6 at e6 k1 k2 ⊢
      have le6 : Same F F' := Same.trans le e6.ff
      refine r_drop ⟨_, rfl, .inl ⟨rfl, _, SqL.of k1⟩, _, rfl, b0, _, dx, _, .ref l1, rfl, e6.fh _ _ (le6 _ _ h1), T.cl_Net, T.na_Net_own_signs, rfl, S, l1, us, svs, rfl, rfl, k1, e6.fh _ _ (le6 _ _ h2), by omega, ?_⟩
      refine nk _ F' _ (e6.trans (Ex.put e6.fh f1' (by simp))) ⟨⟨_, _, rfl⟩, f1', f2', ⟨_, upd_same, Wks.app (g2.up e6.ff) (h3.up le6)⟩, ⟨_, by rw [upd_ne neSR]; exact k2, w6⟩⟩
  · rintro σ1 F3 H3 e ⟨⟨u, v, rfl⟩, f1, f2, ⟨us, g1, g2⟩, ws, g3, g4⟩
    have E : Ex [] F H F3 H3 := E0'.newly e (fun p hp => by
      rcases List.mem_cons.mp hp with z | z
      · rw [z]; exact hS
      · rw [List.mem_singleton.mp z]; exact hR0)
    have e5 := E.frz hS g1 f1
    have f2' : (upd F3 S (.lst us)) R = none := by rw [upd_ne neSR]; exact f2
    have e6 := e5.frz hR0 g3 f2'
    have le5 : Same F3 (upd F3 S (.lst us)) := Same.upd f1
    have le6 : Same (upd F3 S (.lst us)) (upd (upd F3 S (.lst us)) R (.lst ws)) := Same.upd f2'
    have fS6 : (upd (upd F3 S (.lst us)) R (.lst ws)) S = some (.lst us) := le6 _ _ upd_same
    have e2sg : bsg sg 2 = sg ++ sg := by simp [bsg]
    have e2rs : brs sg.length rs 2 = rs ++ rs.map (Rd.sh sg.length) := by
      show (([] ++ rs.map (Rd.sh (0 * sg.length))) ++ rs.map (Rd.sh (1 * sg.length))) = _
      rw [sh0, Nat.one_mul, List.nil_append]
    have g2' : Wks F3 (sg ++ sg) us := e2sg ▸ g2
    have g4' : Rds F3 (rs ++ rs.map (Rd.sh sg.length)) ws := e2rs ▸ g4
    dsimp only
    refine r_ret ⟨_, rfl, _, rfl, ?_⟩
    refine mk_net e6.fh fS6 ((g2'.up le5).up le6) (fun k hk => ?_) (by simp; omega) (by simp; omega) upd_same (Wks.up le6 (Wks.up le5 g4')) (fun r hr => ?_) (by simp; omega) fun y rs' F' H' pm e7 nn => kk _ rs' F' H' pm (e6.trans e7) nn
    · rcases List.mem_append.mp hk with z | z <;> exact n.sok k z
    · rw [List.length_append]
      rcases List.mem_append.mp hr with z | z
      · exact (n.rok r z).mono (by omega)
      · obtain ⟨r0, hr0, rfl⟩ := List.mem_map.mp z
        exact (n.rok r0 hr0).sh
end
end T3

namespace T3
open PySem PySem.Spec PyProof.Rows L2 Ly
section
variable {P : Program} {w : World} {K : PySem.W.Frag} {mg : Str → Option Value} {base : Heap}
def tw (rs : List Rd) : Bool := decide ((eOnce (rs.map Rd.ew)).length = rs.length) && rs.all fun r => decide (r.rev ∈ rs)
def spIsTwoWay (K : PySem.W.Frag) : Sp := fun vs H Q _ => ∃ (x : V) (sg : List W) (rs : List Rd) (F : Hp), vs = [x] ∧ Same F H ∧ NetF (He.ga K "Net") F sg rs x ∧ ∀ H', Ex [] F H F H' → Q (.bl (tw rs)) H'
theorem ok_is_two_way (T : Top K mg) : Ok P w K mg base "is_two_way" 1 ["net"] (spIsTwoWay K) := by
  refine ok_of T.g_is_two_way T.F_is_two_way sc_is_two_way (fun _ _ _ _ _ _ us hl => match us, hl with | [_], _ => rfl) (fun vs H Q E h => ?_) (fun cdv A outer s H vs Q E hr h => ?_)
  · first | (obtain ⟨rfl, _⟩ := h; rfl) | (obtain ⟨_, rfl, _⟩ := h; rfl) | (obtain ⟨_, _, rfl, _⟩ := h; rfl) | (obtain ⟨_, _, _, rfl, _⟩ := h; rfl) | (obtain ⟨_, _, _, _, rfl, _⟩ := h; rfl) | (obtain ⟨_, _, _, _, _, rfl, _⟩ := h; rfl) | (obtain ⟨_, _, _, _, _, _, rfl, _⟩ := h; rfl) | (obtain ⟨_, _, _, _, _, _, _, rfl, _⟩ := h; rfl) | (obtain ⟨_, _, _, _, _, _, _, _, rfl, _⟩ := h; rfl) | (obtain ⟨_, _, _, _, _, _, _, _, _, rfl, _⟩ := h; rfl) | (obtain ⟨_, _, _, _, _, _, _, _, _, _, rfl, _⟩ := h; rfl) | (obtain ⟨_, _, _, _, _, _, _, _, _, _, _, rfl, _⟩ := h; rfl)
  obtain ⟨x, sg, rs, F, rfl, hF, n, kk⟩ := h
  refine ⟨_, (pss_cons (ps_setLc (i := 1) (own := [("one", 2), ("other", 3), ("out", 4), ("into", 5)]) (g := (gTup K 4 (gCons (gName 2) (gCons (gName 3) (gCons (gName 4) (gCons (gName 5) gNil)))))) (tt := tYes) (te := (tTup (tCons (tVar 2) (tCons (tVar 4) tNil)))) rfl sc_is_two_way.nd rfl rfl (sw_true rfl rfl rfl (by decide +kernel)) (pi_list (pe_fld (pv 0) rfl)) (blkOk_by (own := [("one", 2), ("other", 3), ("out", 4), ("into", 5)]) (N := N_is_two_way) (sc := defScope s_is_two_way) (by decide +kernel)) (fun _ _ _ _ _ => (pg_tup rfl (pgs_cons (pg_name (i := 2) sc_is_two_way.nd rfl (Or.inl rfl)) (pgs_cons (pg_name (i := 3) sc_is_two_way.nd rfl (Or.inl rfl)) (pgs_cons (pg_name (i := 4) sc_is_two_way.nd rfl (Or.inl rfl)) (pgs_cons (pg_name (i := 5) sc_is_two_way.nd rfl (Or.inl rfl)) pgs_nil)))))) (fun _ _ _ _ _ => pts_nil) (fun _ _ _ _ _ => (pe_tup (pa_cons (pv 2) (pa_cons (pv 4) pa_nil)))))
    (pss_cons (ps_if (pt_cmpR op_ne (pe_callB call_lenN rfl T.b_len (by decide +kernel) (pa_cons (pe_dcN (ows := [("end", 6)]) (g := (gName 6)) (tq := tYes) (tk := (tVar 6)) (tv := (tC (.bl true))) (hu64 hr) rfl sc_is_two_way.nd (pi_list (pv 1)) (blkOk_by (own := [("end", 6)]) (N := N_is_two_way) (sc := defScope s_is_two_way) (by decide +kernel)) (fun _ _ _ _ _ => (pg_name (i := 6) sc_is_two_way.nd rfl (Or.inl rfl))) (fun _ _ _ _ _ => pts_nil) (fun _ _ _ _ _ => (pv 6)) (fun _ _ _ _ _ => pe_bl)) pa_nil)) (pe_callB call_len_seq rfl T.b_len (by decide +kernel) (pa_cons (pv 1) pa_nil)) (nomark _)) (pss_one (ps_ret pe_bl)) pss_nil)
    (pss_cons (ps_set (i := 7) sc_is_two_way.nd rfl (Or.inr rfl) (pe_dcN (ows := [("road", 8)]) (g := (gName 8)) (tq := tYes) (tk := (tVar 8)) (tv := (tC (.bl true))) (hu64 hr) rfl sc_is_two_way.nd (pi_list (pe_fld (pv 0) rfl)) (blkOk_by (own := [("road", 8)]) (N := N_is_two_way) (sc := defScope s_is_two_way) (by decide +kernel)) (fun _ _ _ _ _ => (pg_name (i := 8) sc_is_two_way.nd rfl (Or.inl rfl))) (fun _ _ _ _ _ => pts_nil) (fun _ _ _ _ _ => (pv 8)) (fun _ _ _ _ _ => pe_bl)))
    (pss_one (ps_ret (pe_callB (cr_all rfl) rfl T.b_all (by decide +kernel) (pa_cons (pe_lc (own := [("one", 2), ("other", 3), ("out", 4), ("into", 5)]) (g := (gTup K 4 (gCons (gName 2) (gCons (gName 3) (gCons (gName 4) (gCons (gName 5) gNil)))))) (tt := tYes) (te := (tOp (rInN P w) (tTup (tCons (tVar 3) (tCons (tVar 2) (tCons (tVar 5) (tCons (tVar 4) tNil))))) (tVar 7))) rfl sc_is_two_way.nd (pi_list (pe_fld (pv 0) rfl)) (blkOk_by (own := [("one", 2), ("other", 3), ("out", 4), ("into", 5)]) (N := N_is_two_way) (sc := defScope s_is_two_way) (by decide +kernel)) (fun _ _ _ _ _ => (pg_tup rfl (pgs_cons (pg_name (i := 2) sc_is_two_way.nd rfl (Or.inl rfl)) (pgs_cons (pg_name (i := 3) sc_is_two_way.nd rfl (Or.inl rfl)) (pgs_cons (pg_name (i := 4) sc_is_two_way.nd rfl (Or.inl rfl)) (pgs_cons (pg_name (i := 5) sc_is_two_way.nd rfl (Or.inl rfl)) pgs_nil)))))) (fun _ _ _ _ _ => pts_nil) (fun _ _ _ _ _ => (pe_cmpR (op_inN (hu64 hr)) (pe_tup (pa_cons (pv 3) (pa_cons (pv 2) (pa_cons (pv 5) (pa_cons (pv 4) pa_nil))))) (pv 7) rfl))) pa_nil))))))), ?_⟩
  obtain ⟨a, dx, l1, l2, l3, l4, svs, rvs, rfl, h1, h2, h3, h4, h5, _⟩ := n.ex
  have z1 := sizeLine_eq
  have m1 := Rds.len h5
  have m2 := n.rsm
  refine r_seq (r_asg (lcg_list [] (fun R h => ⟨_, rfl, a, _, dx, _, .ref l2, rfl, hF _ _ h1, T.cl_Net, T.na_Net_own_roads, rfl, h⟩) h4 hF (by simp) (by omega) (fun k acc F => Wks F ((rs.map Rd.ew).take k) acc) (fun _ _ _ => True) (fun _ _ _ _ h q => Wks.up h q) (fun _ _ _ _ _ _ _ _ _ => trivial) (by simp; exact Wks.nil) trivial ?_ ?_))
  · intro i y acc F' H' Kk Nk hi hy e p _ _ k1 _
    obtain ⟨r, hr', wr⟩ := Rds.get h5 hy
    obtain ⟨q, vo, vi, rfl, hq, wo, wi⟩ := Rd.wk (Wk.up e.ff wr)
    refine ⟨q, _, rfl, SqT.of (e.fh _ _ hq), rfl, _, _, rfl, _, _, rfl, _, _, rfl, _, _, rfl, rfl, rfl, _, rfl, _, rfl, by show 2 ≤ sizeLine; omega, fun p2 hp2 => ?_⟩
    refine k1 _ (upd F' p2 (.tup [.int r.a, vo])) _ (Ex.newF e.fh hp2) ?_ trivial
    have : Wk (upd F' p2 (.tup [.int r.a, vo])) r.ew (.ref p2) := wk_new (Same.free e.fh hp2) (.cons (wk_num.mpr rfl) (.one wo))
    exact wks_take_snoc (p.up (Same.upd (Same.free e.fh hp2))) (by rw [List.getElem?_map, hr']; rfl) this
  · intro D acc F' H' e hD fD hd' p _ _
    rw [List.take_of_length_le (by rw [List.length_map]; omega)] at p
    have ef := e.frz hD hd' fD
    have le : Same F' (upd F' D (.lst acc)) := Same.upd fD
    have lacc := p.len
    rw [List.length_map] at lacc
    have dD : (upd F' D (.lst acc)) D = some (.lst acc) := upd_same
    have p' := p.up le
    generalize upd F' D (.lst acc) = F2 at ef le dD p'
    have dep : ∀ k ∈ rs.map Rd.ew, k.depth ≤ 8 := fun k hk => by
      obtain ⟨r, hr, rfl⟩ := List.mem_map.mp hk
      have := (n.rok r hr).ho.dp
      simp [Rd.ew, NestedKey.depth, NestedKey.depthAll]
      omega
    refine r_next ?_
    dsimp only
    refine r_seq (r_ifS (r_tst (r_op (r_cb (r_cons (dcg_list (fun R h => ⟨_, rfl, h⟩) dD ef.fh (by omega) (rs.map Rd.ew) (by simp; omega) dep ?_ ?_))))))
    · intro i y k F3 H3 Kk hy hk e3 k1
      refine ⟨rfl, _, rfl, ?_⟩
      obtain ⟨v, hv, wv⟩ := (p'.at hk)
      rw [hy] at hv
      cases hv
      obtain ⟨r, hr⟩ : ∃ r : Rd, k = r.ew := by
        obtain ⟨r, _, e0⟩ := List.mem_map.mp (List.mem_of_getElem? hk)
        exact ⟨r, e0.symm⟩
      subst hr
      obtain ⟨b, _, rfl, _⟩ := wk_tup.mp wv
      exact k1 b F3 H3 (Ex.refl e3.fh) (wv.up e3.ff)
    · intro D2 es F3 H3 e3 dn _ les
      refine ⟨D2, es, rfl, DN.up e3.fh dn, _, rfl, _, _, rfl, .inl (SqL.of (e3.fh _ _ (e3.ff _ _ dD))), rfl, _, rfl, ?_⟩
      have E3 : Ex [] F H F3 H3 := ef.trans e3
      have cond : decide (V.int ((es.length : Nat) : Int) = V.int ((acc.length : Nat) : Int)) = decide ((eOnce (rs.map Rd.ew)).length = rs.length) := by
        rw [les, lacc]
        congr 1
        simp
        omega
      rw [cond]
      by_cases hc : (eOnce (rs.map Rd.ew)).length = rs.length
      · refine iteF' (by simp [hc]) (r_next ?_)
        dsimp only
        refine r_seq (r_asg (dcg_list (fun R h => ⟨_, rfl, a, _, dx, _, .ref l2, rfl, E3.fh _ _ (E3.ff _ _ h1), T.cl_Net, T.na_Net_own_roads, rfl, h⟩) (E3.ff _ _ h4) E3.fh (by omega) (rs.map Rd.w) (by simp; omega) (fun k hk => by
          obtain ⟨_, q, _⟩ := mem_rds n.rok hk
          omega) ?_ ?_))
        · intro i y k F4 H4 Kk hy hk e4 k1
          refine ⟨rfl, _, rfl, ?_⟩
          obtain ⟨v, hv, wv⟩ := (h5.at hk)
          rw [hy] at hv
          cases hv
          obtain ⟨r, _, rfl⟩ := List.mem_map.mp (List.mem_of_getElem? hk)
          obtain ⟨b, _, rfl, _⟩ := wk_tup.mp wv
          exact k1 b F4 H4 (Ex.refl e4.fh) ((wv.up E3.ff).up e4.ff)
        · intro D3 es2 F4 H4 e4 dn2 ks2 _
          have E4 := E3.trans e4
          refine r_next ?_
          dsimp only
          refine r_ret (r_cb (r_cons (lcg_list [] (fun R h => ⟨_, rfl, a, _, dx, _, .ref l2, rfl, E4.fh _ _ (E4.ff _ _ h1), T.cl_Net, T.na_Net_own_roads, rfl, h⟩) (E4.ff _ _ h4) E4.fh (by simp) (by omega) (fun k acc F => acc = (rs.take k).map fun r => .bl (decide (r.rev ∈ rs))) (fun _ _ _ => True) (fun _ _ _ _ _ q => q) (fun _ _ _ _ _ _ _ _ _ => trivial) rfl trivial ?_ ?_)))
          · intro i y acc F' H' Kk Nk hi hy e p _ _ k1 _
            obtain ⟨r, hr', wr⟩ := Rds.get h5 hy
            obtain ⟨q, vo, vi, rfl, hq, wo, wi⟩ := Rd.wk (Wk.up (Same.trans E4.ff e.ff) wr)
            refine ⟨q, _, rfl, SqT.of (e.fh _ _ hq), rfl, _, _, rfl, _, _, rfl, _, _, rfl, _, _, rfl, rfl, rfl, _, rfl, _, rfl, _, rfl, _, rfl, by show 4 ≤ sizeLine; omega, fun p2 hp2 => ?_⟩
            have e5 : Ex [] F' H' (upd F' p2 (.tup [.int r.b, .int r.a, vi, vo])) (upd H' p2 (.tup [.int r.b, .int r.a, vi, vo])) := Ex.newF e.fh hp2
            have wn : Wk (upd F' p2 (.tup [.int r.b, .int r.a, vi, vo])) r.rev.w (.ref p2) := Rd.wk_new (a := r.b) (b := r.a) (Same.free e.fh hp2) wi wo
            have ro := n.rok r (List.mem_of_getElem? hr')
            refine ⟨_, rfl, D3, p2, r.rev.w, es2, rfl, rfl, DN.up e5.fh (DN.up e5.ff (DN.up e.ff dn2)), wn.up e5.fh, by have := ro.rev.depth; omega, ?_⟩
            refine k1 _ _ _ e5 ?_ trivial
            rw [p, List.take_add_one, hr', atKey_some, ks2]
            have : decide (r.rev.w ∈ eOnce (rs.map Rd.w)) = decide (r.rev ∈ rs) := by
              congr 1
              rw [eOnce_mem, List.mem_map]
              apply propext
              constructor
              · rintro ⟨s, hs, es⟩
                rw [← Rd.inj es]
                exact hs
              · intro hs
                exact ⟨_, hs, rfl⟩
            rw [this]
            simp
          · intro D4 acc F' H' e hD fD hd' p _ _
            rw [List.take_of_length_le (by omega)] at p
            refine ⟨D4, rs.map fun r => decide (r.rev ∈ rs), rfl, SqL.of (by rw [hd', p]; simp), ?_⟩
            have e0 : tw rs = (rs.map fun r => decide (r.rev ∈ rs)).all id := by
              unfold tw
              rw [decide_eq_true hc, Bool.true_and, List.all_map]
              rfl
            rw [← e0]
            exact kk H' (E4.trans e).drop
      · refine iteT' (by simp [hc]) (r_ret (r_c ?_))
        have e0 : tw rs = false := by simp [tw, hc]
        have := kk H3 E3.drop
        rw [e0] at this
        exact this
end
end T3

namespace T3
open PySem PySem.Spec PyProof.Rows L2 Ly
section
variable {P : Program} {w : World} {K : PySem.W.Frag} {mg : Str → Option Value} {base : Heap}
def nV (l : List Nat) : List V := (l.map fun v : Nat => (v : Int)).map V.int
theorem nV_app (l m : List Nat) : nV (l ++ m) = nV l ++ nV m := by simp [nV]
theorem nV_len (l : List Nat) : (nV l).length = l.length := by simp [nV]
theorem nV_get {l : List Nat} {i : Nat} {x : V} (h : (nV l)[i]? = some x) : ∃ v : Nat, l[i]? = some v ∧ x = .int v := by
  unfold nV at h
  rw [List.map_map, List.getElem?_map] at h
  obtain ⟨v, h1, h2⟩ := Option.map_eq_some_iff.mp h
  exact ⟨v, h1, h2.symm⟩
/-- lists of places, by place -/
structure Bey (F : Hp) (bl : Addr) (n : Nat) (g : Nat → List Nat) : Prop where
  ex : ∃ lots : List V, F bl = some (.lst lots) ∧ lots.length = n ∧ ∀ k, k < n → ∃ q, lots[k]? = some (.ref q) ∧ F q = some (.lst (nV (g k)))
  lt : ∀ u, u < n → ∀ v ∈ g u, v < n
def spReachedFrom : Sp := fun vs H Q _ => ∃ (st bl : Addr) (n : Nat) (g : Nat → List Nat) (F : Hp), vs = [.ref st, .ref bl] ∧ Same F H ∧ H st = some (.lst [.int (0 : Nat)]) ∧ Bey F bl n g ∧ 0 < n ∧ n < 1000000 ∧
  ∀ D L H', Ex [] F H F H' → H' D = some (.dK (ents L)) → L.Nodup → (∀ v, v ∈ L ↔ Rch g 0 v) → (∀ v ∈ L, v < n) → Q (.ref D) H'
structure DfsOk (g : Nat → List Nat) (n : Nat) (L S : List Nat) : Prop where
  nd : L.Nodup
  z : 0 ∈ L
  rc : ∀ v ∈ L, Rch g 0 v ∧ v < n
  sub : ∀ v ∈ S, v ∈ L
theorem ok_reached_from (T : Top K mg) : Ok P w K mg base "reached_from" 1 ["starts", "beyond"] spReachedFrom := by
  refine ok_of T.g_reached_from T.F_reached_from sc_reached_from (fun _ _ _ _ _ _ us hl => match us, hl with | [_, _], _ => rfl) (fun vs H Q E h => ?_) (fun cdv A outer s H vs Q E hr h => ?_)
  · first | (obtain ⟨rfl, _⟩ := h; rfl) | (obtain ⟨_, rfl, _⟩ := h; rfl) | (obtain ⟨_, _, rfl, _⟩ := h; rfl) | (obtain ⟨_, _, _, rfl, _⟩ := h; rfl) | (obtain ⟨_, _, _, _, rfl, _⟩ := h; rfl) | (obtain ⟨_, _, _, _, _, rfl, _⟩ := h; rfl) | (obtain ⟨_, _, _, _, _, _, rfl, _⟩ := h; rfl) | (obtain ⟨_, _, _, _, _, _, _, rfl, _⟩ := h; rfl) | (obtain ⟨_, _, _, _, _, _, _, _, rfl, _⟩ := h; rfl) | (obtain ⟨_, _, _, _, _, _, _, _, _, rfl, _⟩ := h; rfl) | (obtain ⟨_, _, _, _, _, _, _, _, _, _, rfl, _⟩ := h; rfl) | (obtain ⟨_, _, _, _, _, _, _, _, _, _, _, rfl, _⟩ := h; rfl)
  obtain ⟨st, bl, n, g, F, rfl, hF, hst, ⟨⟨lots, hbl, nl, lt1⟩, glt⟩, n0, n1, kk⟩ := h
  refine ⟨_, (pss_cons (ps_setDc (i := 2) (own := [("start", 3)]) (g := (gName 3)) (tt := tYes) (tk := (tVar 3)) (tv := (tC (.bl true))) rfl sc_reached_from.nd rfl rfl (sw_trueD rfl rfl rfl (by decide +kernel)) (pi_list (pv 0)) (blkOk_by (own := [("start", 3)]) (N := N_reached_from) (sc := defScope s_reached_from) (by decide +kernel)) (fun _ _ _ _ _ => (pg_name (i := 3) sc_reached_from.nd rfl (Or.inl rfl))) (fun _ _ _ _ _ => pts_nil) (fun _ _ _ _ _ => (pv 3)) (fun _ _ _ _ _ => pe_bl))
    (pss_cons (ps_set (i := 4) sc_reached_from.nd rfl (Or.inl rfl) (pe_callTy (call_list_dK rfl) rfl T.b_list (by decide +kernel) (pa_cons (pv 2) pa_nil)))
    (pss_cons (ps_while PassesOwn.never (pt_cmpR (op_neD (hu64 hr)) (pv 4) (pe_lst pa_nil) (nomark _)) (pss_one (ps_for PassesOwn.never rfl (pi_list (pe_ix ix_list (pv 1) (pe_bm0 PySem.F.plainAttrs_list PySem.F.slot_list_pop PySem.F.type_list_pop mt_pop (pv 4)) (fun _ _ => rfl))) (pg_name (i := 5) sc_reached_from.nd rfl (Or.inl rfl)) (pss_one (ps_if (pt_cmp (pc_dnotin (hu_of hr) (pv 5) (pv 2))) (pss_cons (ps_dput (hu_of hr) (pv 2) (pv 5) pe_bl rfl)
    (pss_one (ps_expr (pe_bm PySem.F.plainAttrs_list PySem.F.slot_list_append PySem.F.type_list_append mt_append (pv 4) (pa_cons (pv 5) pa_nil))))) pss_nil)))))
    (pss_one (ps_ret (pv 2)))))), ?_⟩
  have z1 := sizeLine_eq
  refine r_seq (r_asg (dc_one (i := 0) (fun R h => ⟨_, rfl, h⟩) hst (by show 3 < 6; decide) (fun _ => rfl) fun D hD => ?_))
  have e1 : Ex [] F H F (upd H D (.dK (ents [0]))) := Ex.new hF hD
  have fD : F D = none := Same.free hF hD
  have d1 : (upd H D (.dK (ents [0]))) D = some (.dK (ents [0])) := upd_same
  refine r_next ?_
  dsimp only
  generalize upd H D (.dK (ents [0])) = H1 at e1 d1 ⊢
  refine r_seq (r_asg (r_cb (r_cons ⟨_, rfl, D, _, rfl, d1, fun W hW => ?_⟩)))
  have fW : F W = none := Same.free e1.fh hW
  have W0 : H W = none := by
    cases z : H W with
    | none => rfl
    | some o => exact absurd hW (e1.dm W (ne_none z))
  have DW : D ≠ W := ne_of_none d1 hW
  have e2 : Ex [] F H F (upd H1 W (.lst (nV [0]))) := e1.trans (Ex.new e1.fh hW)
  have d2 : (upd H1 W (.lst (nV [0]))) D = some (.dK (ents [0])) := by rw [upd_ne DW]; exact d1
  have w2 : (upd H1 W (.lst (nV [0]))) W = some (.lst (nV [0])) := upd_same
  refine r_next ?_
  dsimp only
  show tSeq _ _ _ _ (upd H1 W (.lst (nV [0])))
  generalize upd H1 W (.lst (nV [0])) = H2 at e2 d2 w2
  refine r_seq ⟨fun m σ1 H3 => ∃ L S t, σ1 = [some (.ref st), some (.ref bl), some (.ref D), none, some (.ref W), t] ∧ Ex [] F H F H3 ∧ H3 D = some (.dK (ents L)) ∧ H3 W = some (.lst (nV S)) ∧ DfsOk g n L S ∧ (∀ u ∈ L, u ∉ S → ∀ v ∈ g u, v ∈ L) ∧ m = 2 * (n - L.length) + S.length ∧ m ≤ 2 * n,
    ⟨_, [0], [0], none, rfl, e2, d2, w2, ⟨by simp, by simp, fun v hv => by
      rw [List.mem_singleton.mp hv]
      exact ⟨.refl, n0⟩, fun v h => h⟩, fun u h1 h2 => absurd h1 h2, rfl, by simp; omega⟩, ?_⟩
  rintro m σ1 H3 ⟨L, S, t, rfl, e3, d3, w3, dfs, cl, hm, hm2⟩
  have lL := nodup_lt dfs.nd fun v hv => (dfs.rc v hv).2
  refine ⟨_, rfl, Nat.zero_le _, fun p hp => ?_⟩
  have e4 : Ex [] F H F (upd H3 p (.lst [])) := e3.trans (Ex.new e3.fh hp)
  have d4 : (upd H3 p (.lst [])) D = some (.dK (ents L)) := by rw [upd_ne (ne_of_none d3 hp)]; exact d3
  have w4 : (upd H3 p (.lst [])) W = some (.lst (nV S)) := by rw [upd_ne (ne_of_none w3 hp)]; exact w3
  refine ⟨.list ((S.map fun v : Nat => (v : Int)).map .int), .list [], .lst (SqL.of w4) (dp_ints _), .lst (SqL.of upd_same) .nil, shaped_ints _, by decide, _, rfl, ?_⟩
  generalize (upd H3 p (.lst [])) = H4 at e4 d4 w4
  rcases List.eq_nil_or_concat S with rfl | ⟨S0, u, rfl⟩
  · -- all is walked
    refine iteF' (by simp [PyData.eqv, PyData.eqvAll]) ?_
    dsimp only
    refine ⟨_, rfl, kk D L H4 e4 d4 dfs.nd (fun v => ⟨fun hv => (dfs.rc v hv).1, fun hv => Rch.sub dfs.z (fun u hu => cl u hu (by simp)) hv⟩) fun v hv => (dfs.rc v hv).2⟩
  · have neq : (!PyData.eqv (.list (((S0.concat u).map fun v : Nat => (v : Int)).map .int)) (.list [])) = true := by
      rw [List.concat_eq_append]
      cases S0 <;> simp [PyData.eqv, PyData.eqvAll]
    rw [List.concat_eq_append] at *
    refine iteT' neq ⟨fun σ' H' => ∃ m', m' < m ∧ _, fun _ _ h => h, ?_⟩
    have hu : u ∈ L := dfs.sub u (by simp)
    have un : u < n := (dfs.rc u hu).2
    obtain ⟨q, hq1, hq2⟩ := lt1 u un
    have lastS : (nV (S0 ++ [u]))[(nV (S0 ++ [u])).length - 1]? = some (.int (u : Nat)) := by
      rw [nV_app, List.getElem?_append_right (by rw [List.length_append, nV_len]; simp [nV])]
      simp [nV]
    have dropS : (nV (S0 ++ [u])).dropLast = nV S0 := by
      rw [nV_app]
      simp [nV]
    have e5 : Ex [] F H F (upd H4 W (.lst (nV S0))) := e4.wr W0 fW
    have d5 : (upd H4 W (.lst (nV S0))) D = some (.dK (ents L)) := by rw [upd_ne DW]; exact d4
    have w5 : (upd H4 W (.lst (nV S0))) W = some (.lst (nV S0)) := upd_same
    have at5 : atI lots (u : Int) = some (.ref q) := by
      rw [at_toNat (by omega) (by simp; omega)]
      have : lots[(u : Int).toNat]? = some (.ref q) := by simpa using hq1
      rw [List.getElem?_eq_getElem (by simp; omega)] at this
      exact this
    refine r_for ⟨_, rfl, _, rfl, .inl ⟨rfl, _, SqL.of w4⟩, W, _, _, rfl, rfl, w4, lastS, ?_⟩
    rw [dropS]
    refine ⟨bl, lots, _, _, rfl, rfl, SqL.of (e5.fh _ _ hbl), at5, q, rfl, ⟨_, SqL.of (e5.fh _ _ hq2)⟩, ?_⟩
    generalize (upd H4 W (.lst (nV S0))) = H5 at e5 d5 w5
    simp only [List.length_append, List.length_singleton] at hm
    refine forg_gen walk_listF [D, W] e5.fh (fun F' H' g1 g2 => g2 _ _ (g1 _ _ hq2)) (fun i σ1 F1 H1 => F1 = F ∧ ∃ L S1 t, σ1 = [some (.ref st), some (.ref bl), some (.ref D), none, some (.ref W), t] ∧ H1 D = some (.dK (ents L)) ∧ H1 W = some (.lst (nV S1)) ∧ DfsOk g n L S1 ∧
      (∀ u' ∈ L, u' ∉ S1 → u' ≠ u → ∀ v ∈ g u', v ∈ L) ∧ u ∈ L ∧ (∀ v ∈ (g u).take i, v ∈ L) ∧ 2 * (n - L.length) + S1.length + 1 ≤ m)
      ⟨rfl, L, S0, t, rfl, d5, w5, ⟨dfs.nd, dfs.z, dfs.rc, fun v hv => dfs.sub v (by simp [hv])⟩, fun u' h1 h2 h3 => cl u' h1 (by simp [h2, h3]), hu, by simp, by omega⟩ ?_ ?_
    · rintro i x σ2 F1 H6 Nk hi hx e6 ⟨rfl, L2, S1, t2, rfl, d6, w6, df, cl2, hu2, tk, hm3⟩ nk
      obtain ⟨v, hv, rfl⟩ := nV_get hx
      have vg : v ∈ g u := List.mem_of_getElem? hv
      have vn : v < n := glt u un v vg
      have lL2 := nodup_lt df.nd fun v hv => (df.rc v hv).2
      refine ⟨_, rfl, _, rfl, D, _, rfl, DGet.k (k := .inl (v : Int)) d6, _, rfl, ?_⟩
      rw [ents_val]
      by_cases hin : v ∈ L2
      · refine iteF' (by simp [hin]) ?_
        refine nk _ F1 H6 (Ex.refl e6.fh) ⟨rfl, L2, S1, _, rfl, d6, w6, df, cl2, hu2, fun x hx => ?_, hm3⟩
        rw [List.take_add_one, hv] at hx
        rcases List.mem_append.mp hx with y | y
        · exact tk x y
        · have : x = v := by simpa using y
          rw [this]
          exact hin
      · refine iteT' (by simp [hin]) ?_
        have nd2 : (L2 ++ [v]).Nodup := by
          rw [List.nodup_append]
          refine ⟨df.nd, by simp, fun a ha b hb z => hin ?_⟩
          rw [← List.mem_singleton.mp hb, ← z]
          exact ha
        have rc2 : ∀ x ∈ L2 ++ [v], Rch g 0 x ∧ x < n := fun x hx => by
          rcases List.mem_append.mp hx with y | y
          · exact df.rc x y
          · rw [List.mem_singleton.mp y]
            exact ⟨.step (df.rc u hu2).1 vg, vn⟩
        have lL3 := nodup_lt nd2 fun x hx => (rc2 x hx).2
        simp only [List.length_append, List.length_singleton] at lL3
        refine r_seq ⟨_, rfl, _, rfl, D, _, rfl, DPut.k (k := .inl (v : Int)) d6 (by simp [ents]; omega), ?_⟩
        rw [ents_put hin]
        have e7 : Ex [D, W] F1 H6 F1 (upd H6 D (.dK (ents (L2 ++ [v])))) := Ex.put e6.fh fD (by simp)
        have d7 : (upd H6 D (.dK (ents (L2 ++ [v])))) D = some (.dK (ents (L2 ++ [v]))) := upd_same
        have w7 : (upd H6 D (.dK (ents (L2 ++ [v])))) W = some (.lst (nV S1)) := by rw [upd_ne DW.symm]; exact w6
        dsimp only
        generalize upd H6 D (.dK (ents (L2 ++ [v]))) = H7 at e7 d7 w7
        refine r_drop ⟨_, rfl, .inl ⟨rfl, _, SqL.of w7⟩, _, rfl, W, nV S1, _, rfl, rfl, w7, by rw [nV_len]; omega, ?_⟩
        refine nk _ F1 _ (e7.trans (Ex.put e7.fh fW (by simp))) ⟨rfl, L2 ++ [v], S1 ++ [v], _, rfl, by rw [upd_ne DW]; exact d7, by rw [upd_same, nV_app]; rfl, ⟨nd2, by simp [df.z], rc2, fun x hx => ?_⟩, fun u' h1 h2 h3 x hx => ?_, by simp [hu2], fun x hx => ?_, by simp; omega⟩
        · rcases List.mem_append.mp hx with y | y
          · exact List.mem_append_left _ (df.sub x y)
          · exact List.mem_append_right _ y
        · have h2' : u' ∉ S1 ∧ u' ≠ v := by simpa using h2
          have : u' ∈ L2 := by
            rcases List.mem_append.mp h1 with y | y
            · exact y
            · exact absurd (List.mem_singleton.mp y) h2'.2
          exact List.mem_append_left _ (cl2 u' this h2'.1 h3 x hx)
        · rw [List.take_add_one, hv] at hx
          rcases List.mem_append.mp hx with y | y
          · exact List.mem_append_left _ (tk x y)
          · have : x = v := by simpa using y
            rw [this]
            simp
    · rintro σ2 F1 H6 e6 ⟨rfl, L2, S1, t2, rfl, d6, w6, df, cl2, hu2, tk, hm3⟩
      have E6 : Ex [] F1 H F1 H6 := e5.newly e6 (fun p hp => by
        rcases List.mem_cons.mp hp with z | z
        · rw [z]; exact hD
        · rw [List.mem_singleton.mp z]; exact W0)
      refine ⟨2 * (n - L2.length) + S1.length, by omega, L2, S1, t2, rfl, E6, d6, w6, df, fun u' h1 h2 => ?_, rfl, by omega⟩
      by_cases z : u' = u
      · rw [z]
        intro v hv
        refine tk v ?_
        rw [List.take_of_length_le (by rw [nV_len]; exact Nat.le_refl _)]
        exact hv
      · exact cl2 u' h1 h2 z
end
end T3

namespace T3
open PySem PySem.Spec PyProof.Rows L2 Ly
section
variable {P : Program} {w : World} {K : PySem.W.Frag} {mg : Str → Option Value} {base : Heap}
theorem gAll_len : ∀ (rs : List Rd) (u : Nat), (gAll rs u).length ≤ 2 * rs.length
  | [], _ => Nat.zero_le _
  | r :: rs, u => by
    have := gAll_len rs u
    simp only [gAll, List.length_append, List.length_cons]
    split <;> split <;> simp <;> omega
def spIsJoined (K : PySem.W.Frag) : Sp := fun vs H Q _ => ∃ (x : V) (sg : List W) (rs : List Rd) (F : Hp), vs = [x] ∧ Same F H ∧ NetF (He.ga K "Net") F sg rs x ∧ ∀ b H', Ex [] F H F H' → (b = true ↔ ∀ v, v < sg.length → Rch (gAll rs) 0 v) → Q (.bl b) H'
theorem ok_is_joined (T : Top K mg) : Ok P w K mg base "is_joined" 3 ["net"] (spIsJoined K) := by
  have G_reached_from : Ok P w K mg base "reached_from" 1 ["starts", "beyond"] spReachedFrom := ok_reached_from T
  have M_len : OkM P w K mg base (He.ma K (He.ga K "Net") "__len__") 1 ["self"] (spNetLen K) := ok_net_len T
  refine ok_of T.g_is_joined T.F_is_joined sc_is_joined (fun _ _ _ _ _ _ us hl => match us, hl with | [_], _ => rfl) (fun vs H Q E h => ?_) (fun cdv A outer s H vs Q E hr h => ?_)
  · first | (obtain ⟨rfl, _⟩ := h; rfl) | (obtain ⟨_, rfl, _⟩ := h; rfl) | (obtain ⟨_, _, rfl, _⟩ := h; rfl) | (obtain ⟨_, _, _, rfl, _⟩ := h; rfl) | (obtain ⟨_, _, _, _, rfl, _⟩ := h; rfl) | (obtain ⟨_, _, _, _, _, rfl, _⟩ := h; rfl) | (obtain ⟨_, _, _, _, _, _, rfl, _⟩ := h; rfl) | (obtain ⟨_, _, _, _, _, _, _, rfl, _⟩ := h; rfl) | (obtain ⟨_, _, _, _, _, _, _, _, rfl, _⟩ := h; rfl) | (obtain ⟨_, _, _, _, _, _, _, _, _, rfl, _⟩ := h; rfl) | (obtain ⟨_, _, _, _, _, _, _, _, _, _, rfl, _⟩ := h; rfl) | (obtain ⟨_, _, _, _, _, _, _, _, _, _, _, rfl, _⟩ := h; rfl)
  obtain ⟨x, sg, rs, F, rfl, hF, n, kk⟩ := h
  refine ⟨_, (pss_cons (ps_setLc (i := 1) (own := [("sign", 2)]) (g := (gName 2)) (tt := tYes) (te := (tLst tNil)) rfl sc_is_joined.nd rfl rfl (sw_true rfl rfl rfl (by decide +kernel)) (pi_list (pe_fld (pv 0) rfl)) (blkOk_by (own := [("sign", 2)]) (N := N_is_joined) (sc := defScope s_is_joined) (by decide +kernel)) (fun _ _ _ _ _ => (pg_name (i := 2) sc_is_joined.nd rfl (Or.inl rfl))) (fun _ _ _ _ _ => pts_nil) (fun _ _ _ _ _ => (pe_lst pa_nil)))
    (pss_cons (ps_for PassesOwn.never rfl (pi_list (pe_fld (pv 0) rfl)) (pg_tup rfl (pgs_cons (pg_name (i := 3) sc_is_joined.nd rfl (Or.inl rfl)) (pgs_cons (pg_name (i := 4) sc_is_joined.nd rfl (Or.inl rfl)) (pgs_cons (pg_name (i := 5) sc_is_joined.nd rfl (Or.inl rfl)) (pgs_cons (pg_name (i := 6) sc_is_joined.nd rfl (Or.inl rfl)) pgs_nil))))) (pss_cons (ps_expr (pe_bm PySem.F.plainAttrs_list PySem.F.slot_list_append PySem.F.type_list_append mt_append (pe_ix ix_list (pv 1) (pv 3) (fun _ _ => rfl)) (pa_cons (pv 4) pa_nil)))
    (pss_one (ps_expr (pe_bm PySem.F.plainAttrs_list PySem.F.slot_list_append PySem.F.type_list_append mt_append (pe_ix ix_list (pv 1) (pv 4) (fun _ _ => rfl)) (pa_cons (pv 3) pa_nil))))))
    (pss_one (ps_ret (pe_cmpR op_eq (pe_callB call_lenD rfl T.b_len (by decide +kernel) (pa_cons (pe_ok G_reached_from hr (pa_cons (pe_lst (pa_cons pe_int pa_nil)) (pa_cons (pv 1) pa_nil))) pa_nil)) (pe_callB (call_lenO T.me_Net_len M_len hr) rfl T.b_len (by decide +kernel) (pa_cons (pv 0) pa_nil)) (nomark _)))))), ?_⟩
  obtain ⟨a, dx, l1, l2, l3, l4, svs, rvs, rfl, h1, h2, h3, h4, h5, _⟩ := n.ex
  have z1 := sizeLine_eq
  have m1 := Rds.len h5
  have m2 := n.rsm
  have m3 := n.sml
  have m4 := h3.len
  refine r_seq (r_asg (lcg_nils (fun R h => ⟨_, rfl, a, _, dx, _, .ref l1, rfl, hF _ _ h1, T.cl_Net, T.na_Net_own_signs, rfl, h⟩) h2 hF (by omega) (fun _ => rfl) fun D qs H1 e1 hD hd lq dn nn lo => ?_))
  refine r_next ?_
  dsimp only
  refine r_seq (forg_list qs (fun R h => ⟨_, rfl, a, _, dx, _, .ref l2, rfl, e1.fh _ _ h1, T.cl_Net, T.na_Net_own_roads, rfl, h⟩) h4 e1.fh (fun i σ1 F1 H2 => (∃ u v w z, σ1 = [some (.ref a), some (.ref D), none, u, v, w, z]) ∧ LotG qs F1 H2 (fun j us => us = nV (gAll (rs.take i) j))) ⟨⟨_, _, _, _, rfl⟩, lo.imp fun j us h => by rw [h]; rfl⟩ ?_ ?_)
  · rintro i y σ1 F1 H2 Nk hi hy e ⟨⟨u, v, w, z, rfl⟩, lo⟩ nk
    obtain ⟨r, hr', wr⟩ := Rds.get h5 hy
    have ro := n.rok r (List.mem_of_getElem? hr')
    obtain ⟨p, vo, vi, rfl, hp, wo, wi⟩ := Rd.wk (Wk.up e.ff wr)
    refine ⟨p, _, rfl, SqT.of (e.fh _ _ hp), rfl, _, _, rfl, _, _, rfl, _, _, rfl, _, _, rfl, rfl, ?_⟩
    have ja : qs[r.a]? = some (qs[r.a]'(by have := ro.ha; omega)) := by simp
    have jb : qs[r.b]? = some (qs[r.b]'(by have := ro.hb; omega)) := by simp
    have ia : atI (qs.map V.ref) (r.a : Int) = some (.ref (qs[r.a]'(by have := ro.ha; omega))) := by
      have := ro.ha
      rw [at_toNat (by omega) (by simp; omega)]
      simp
    have ib : atI (qs.map V.ref) (r.b : Int) = some (.ref (qs[r.b]'(by have := ro.hb; omega))) := by
      have := ro.hb
      rw [at_toNat (by omega) (by simp; omega)]
      simp
    obtain ⟨fa, ua, hua, ra1⟩ := lo.at' _ _ ja
    generalize (qs[r.a]'(by have := ro.ha; omega)) = qa at ja ia fa hua
    generalize (qs[r.b]'(by have := ro.hb; omega)) = qb at jb ib
    have sz : ∀ j, (gAll (rs.take i) j).length ≤ 200000 := fun j => by
      have h1 := gAll_len (rs.take i) j
      have h2 : (rs.take i).length ≤ rs.length := by simp; omega
      omega
    have hdD := e.at hd dn
    refine r_seq (r_drop ⟨_, rfl, _, rfl, D, _, _, .ref qa, rfl, rfl, SqL.of hdD, ia, .inl ⟨rfl, _, SqL.of hua⟩, _, rfl, qa, ua, _, rfl, rfl, hua, by rw [ra1, nV_len]; have := sz r.a; omega, ?_⟩)
    have e2 : Ex qs F1 H2 F1 (upd H2 qa (.lst (ua ++ [.int r.b]))) := Ex.put e.fh fa (List.mem_of_getElem? ja)
    have lo2 : LotG qs F1 (upd H2 qa (.lst (ua ++ [.int r.b]))) (fun j us => us = nV (gAll (rs.take i) j ++ if r.a = j then [r.b] else [])) := lo.put ja (by rw [ra1, if_pos rfl, nV_app]; rfl) fun k us hk h => by
      have : ¬ r.a = k := fun z => hk z.symm
      rw [h, if_neg this, List.append_nil]
    dsimp only
    generalize upd H2 qa (.lst (ua ++ [.int r.b])) = H3 at e2 lo2
    obtain ⟨fb, ub, hub, rb1⟩ := lo2.at' _ _ jb
    have hdD3 := e2.at hdD dn
    refine r_drop ⟨_, rfl, _, rfl, D, _, _, .ref qb, rfl, rfl, SqL.of hdD3, ib, .inl ⟨rfl, _, SqL.of hub⟩, _, rfl, qb, ub, _, rfl, rfl, hub, by rw [rb1, nV_len]; have := sz r.b; simp; split <;> simp <;> omega, ?_⟩
    refine nk _ F1 _ (e2.trans (Ex.put (e.trans e2).fh fb (List.mem_of_getElem? jb))) ⟨⟨_, _, _, _, rfl⟩, lo2.put jb ?_ fun k us hk h => ?_⟩
    · rw [rb1, List.take_add_one, hr', gAll_app]
      simp [gAll, nV]
    · have : ¬ r.b = k := fun z => hk z.symm
      rw [h, List.take_add_one, hr', gAll_app]
      simp [gAll, this]
  · rintro σ1 F1 H2 e ⟨⟨u, v, w, z, rfl⟩, lo⟩
    have E : Ex [] F H F1 H2 := e1.newly e fun p hp => nn p hp
    have EA := E.all hF
    have hdD := e.at hd dn
    have bey : Bey (frzAll H F1 H2) D sg.length (gAll rs) := by
      refine ⟨⟨qs.map V.ref, by rw [frzAll_new hD]; exact hdD, by simp; omega, fun k hk => ?_⟩, fun u hu v hv => ?_⟩
      · have hk2 : k < qs.length := by omega
        obtain ⟨_, us, g1, g2⟩ := lo.at' k qs[k] (by simp [hk2])
        rw [List.take_of_length_le (by omega)] at g2
        exact ⟨qs[k], by simp [hk2], by rw [frzAll_new (nn _ (List.getElem_mem hk2)), g1, g2]⟩
      · obtain ⟨r, hr, h⟩ := mem_gAll.mp hv
        have ro := n.rok r hr
        rcases h with ⟨_, rfl⟩ | ⟨_, rfl⟩
        · exact ro.hb
        · exact ro.ha
    generalize frzAll H F1 H2 = FA at EA bey
    dsimp only
    refine ⟨by show 1 ≤ sizeLine; omega, fun st hst => ⟨_, rfl, st, D, sg.length, gAll rs, FA, rfl, (Ex.new (M := []) EA.fh hst).fh, upd_same, bey, n.pos, by omega, fun DD L H' e' hDD nd mem lt => ?_⟩⟩
    have E2 : Ex [] F H FA H' := EA.trans ((Ex.new EA.fh hst).trans e')
    have n' := NetF.up E2.ff n
    refine ⟨DD, ents L, rfl, hDD, _, rfl, a, dx, _, rfl, E2.fh _ _ (E2.ff _ _ h1), a, sg, rs, FA, rfl, E2.fh, n', sg.length, rfl, by omega, rfl, ?_⟩
    refine kk _ H' E2.drop ?_
    have l1 : (ents L).length = L.length := by simp [ents]
    rw [l1]
    have := full_iff nd lt
    simp only [decide_eq_true_eq, V.int.injEq]
    rw [show ((L.length : Int) = (sg.length : Int)) ↔ L.length = sg.length by omega, this]
    constructor
    · intro h v hv
      exact (mem v).mp (h v hv)
    · intro h v hv
      exact (mem v).mpr (h v hv)
theorem lots_core {F H : Hp} {Q : VK} {l : Addr} {n : Nat} {f : Nat → List Rd} (hl : Lots F l n f) (sel : Rd → Nat) (c : Int) (hc : ∀ (r : Rd) (vo vi : V), atI [.int r.a, .int r.b, vo, vi] c = some (.int (sel r))) {tl : TE} {x0 x1 x4 : Option V} (hF : Same F H) (hn : n < 1000000) (hf : ∀ k, (f k).length < 1000000)
    (htl : ∀ R : VK, R (.ref l) H → tl [x0, x1, none, none, x4] H R)
    (kk : ∀ D F' H', Ex [] F H F' H' → H D = none → (∃ lots : List V, F' D = some (.lst lots) ∧ lots.length = n ∧ ∀ k, k < n → ∃ q, lots[k]? = some (.ref q) ∧ F' q = some (.lst (nV ((f k).map sel)))) → Q (.ref D) H') :
    tLc (iList K tl) (gName 3) tYes (tLc (iList K (tVar 3)) (gName 2) tYes (tOp (rIxT K) (tVar 2) (tC (.int c))) [2]) [3] [x0, x1, none, none, x4] H Q := by
  obtain ⟨vs, h1, h2, h3⟩ := hl
  have z1 := sizeLine_eq
  refine lcg_list [] htl h1 hF (by simp) (by omega) (fun k acc F => acc.length = k ∧ ∀ j, j < k → ∃ q, acc[j]? = some (.ref q) ∧ F q = some (.lst (nV ((f j).map sel)))) (fun _ _ _ => True) (fun _ _ _ _ h q => ⟨q.1, fun j hj => by
    obtain ⟨q', a, b⟩ := q.2 j hj
    exact ⟨q', a, h _ _ b⟩⟩) (fun _ _ _ _ _ _ _ _ _ => trivial) ⟨rfl, fun j hj => by omega⟩ trivial ?_ ?_
  · intro k y acc F' H' Kk Nk hk hy e p _ _ k1 _
    have hk2 : k < n := by omega
    obtain ⟨q, us, g1, g2, g3⟩ := h3 k hk2
    rw [hy] at g1
    cases g1
    refine ⟨rfl, ?_⟩
    have lus := Rds.len g3
    have := hf k
    show tLc (iList K (tVar 3)) (gName 2) tYes (tOp (rIxT K) (tVar 2) (tC (.int c))) [2] [x0, x1, none, some (.ref q), x4] H' Kk
    refine lcg_list (F := F') [] (fun R h => ⟨_, rfl, h⟩) (e.ff _ _ g2) e.fh (by simp) (by omega) (fun i acc _ => acc = nV (((f k).take i).map sel)) (fun _ _ _ => True) (fun _ _ _ _ _ q => q) (fun _ _ _ _ _ _ _ _ _ => trivial) (by simp [nV]) trivial ?_ ?_
    · intro i y acc2 F2 H2 Kk2 Nk2 hi hy2 e2 p2 _ _ k2 _
      obtain ⟨r, hr, wr⟩ := Rds.get g3 hy2
      obtain ⟨pp, vo, vi, rfl, hp, _, _⟩ := Rd.wk (Wk.up (Same.trans e.ff e2.ff) wr)
      refine ⟨rfl, _, rfl, pp, _, c, .int (sel r), rfl, rfl, SqT.of (e2.fh _ _ hp), hc r vo vi, ?_⟩
      refine k2 _ F2 H2 (Ex.refl e2.fh) ?_ trivial
      rw [p2, List.take_add_one, hr]
      simp [nV]
    · intro D2 acc2 F2 H2 e2 hD2 fD2 hd2 p2 _ _
      rw [List.take_of_length_le (by omega)] at p2
      have e3 := e2.frz hD2 hd2 fD2
      refine k1 _ _ H2 e3 ⟨by simp [p.1], fun j hj => ?_⟩ trivial
      by_cases hj2 : j < k
      · obtain ⟨q', a, b⟩ := p.2 j hj2
        exact ⟨q', by rw [List.getElem?_append_left (by rw [p.1]; exact hj2)]; exact a, e3.ff _ _ b⟩
      · have : j = k := by omega
        subst this
        refine ⟨D2, by rw [List.getElem?_append_right (by rw [p.1]; exact Nat.le_refl _), p.1]; simp, ?_⟩
        rw [upd_same, p2]
  · intro D acc F' H' e hD fD hd' p _ _
    have ef := e.frz hD hd' fD
    refine kk D _ H' ef hD ⟨acc, upd_same, by rw [p.1]; exact h2, fun k hk => ?_⟩
    obtain ⟨q', a, b⟩ := p.2 k (by omega)
    exact ⟨q', a, Same.upd fD _ _ b⟩
def spIsStrong (K : PySem.W.Frag) : Sp := fun vs H Q _ => ∃ (x : V) (sg : List W) (rs : List Rd) (F : Hp), vs = [x] ∧ Same F H ∧ NetF (He.ga K "Net") F sg rs x ∧
  ∀ b H', Ex [] F H F H' → (b = true ↔ (∀ v, v < sg.length → Rch (gOut rs) 0 v) ∧ ∀ v, v < sg.length → Rch (gIn rs) 0 v) → Q (.bl b) H'
theorem ok_is_strong (T : Top K mg) : Ok P w K mg base "is_strong" 3 ["net"] (spIsStrong K) := by
  have G_reached_from : Ok P w K mg base "reached_from" 1 ["starts", "beyond"] spReachedFrom := ok_reached_from T
  have M_len : OkM P w K mg base (He.ma K (He.ga K "Net") "__len__") 1 ["self"] (spNetLen K) := ok_net_len T
  refine ok_of T.g_is_strong T.F_is_strong sc_is_strong (fun _ _ _ _ _ _ us hl => match us, hl with | [_], _ => rfl) (fun vs H Q E h => ?_) (fun cdv A outer s H vs Q E hr h => ?_)
  · first | (obtain ⟨rfl, _⟩ := h; rfl) | (obtain ⟨_, rfl, _⟩ := h; rfl) | (obtain ⟨_, _, rfl, _⟩ := h; rfl) | (obtain ⟨_, _, _, rfl, _⟩ := h; rfl) | (obtain ⟨_, _, _, _, rfl, _⟩ := h; rfl) | (obtain ⟨_, _, _, _, _, rfl, _⟩ := h; rfl) | (obtain ⟨_, _, _, _, _, _, rfl, _⟩ := h; rfl) | (obtain ⟨_, _, _, _, _, _, _, rfl, _⟩ := h; rfl) | (obtain ⟨_, _, _, _, _, _, _, _, rfl, _⟩ := h; rfl) | (obtain ⟨_, _, _, _, _, _, _, _, _, rfl, _⟩ := h; rfl) | (obtain ⟨_, _, _, _, _, _, _, _, _, _, rfl, _⟩ := h; rfl) | (obtain ⟨_, _, _, _, _, _, _, _, _, _, _, rfl, _⟩ := h; rfl)
  obtain ⟨x, sg, rs, F, rfl, hF, n, kk⟩ := h
  refine ⟨_, (pss_cons (ps_setLc (i := 1) (own := [("lot", 3)]) (g := (gName 3)) (tt := tYes) (te := (tLc (iList K (tVar 3)) (gName 2) tYes (tOp (rIxT K) (tVar 2) (tC (.int 1))) (([("road", 2)] : List (Str × Nat)).map (·.2)))) rfl sc_is_strong.nd rfl rfl (sw_true rfl rfl rfl (by decide +kernel)) (pi_list (pe_fld (pv 0) rfl)) (blkOk_by (own := [("lot", 3)]) (N := N_is_strong) (sc := defScope s_is_strong) (by decide +kernel)) (fun _ _ _ _ _ => (pg_name (i := 3) sc_is_strong.nd rfl (Or.inl rfl))) (fun _ _ _ _ _ => pts_nil) (fun _ _ _ _ _ => (pe_lc (own := [("road", 2)]) (g := (gName 2)) (tt := tYes) (te := (tOp (rIxT K) (tVar 2) (tC (.int 1)))) rfl sc_is_strong.nd (pi_list (pv 3)) (blkOk_by (own := [("road", 2)]) (by kernel_rfl)) (fun _ _ _ _ _ => (pg_name (i := 2) sc_is_strong.nd rfl (Or.inl rfl))) (fun _ _ _ _ _ => pts_nil) (fun _ _ _ _ _ => (pe_ix ix_tup (pv 2) pe_int (fun _ _ => rfl))))))
    (pss_cons (ps_setLc (i := 4) (own := [("lot", 3)]) (g := (gName 3)) (tt := tYes) (te := (tLc (iList K (tVar 3)) (gName 2) tYes (tOp (rIxT K) (tVar 2) (tC (.int 0))) (([("road", 2)] : List (Str × Nat)).map (·.2)))) rfl sc_is_strong.nd rfl rfl (sw_true rfl rfl rfl (by decide +kernel)) (pi_list (pe_fld (pv 0) rfl)) (blkOk_by (own := [("lot", 3)]) (N := N_is_strong) (sc := defScope s_is_strong) (by decide +kernel)) (fun _ _ _ _ _ => (pg_name (i := 3) sc_is_strong.nd rfl (Or.inl rfl))) (fun _ _ _ _ _ => pts_nil) (fun _ _ _ _ _ => (pe_lc (own := [("road", 2)]) (g := (gName 2)) (tt := tYes) (te := (tOp (rIxT K) (tVar 2) (tC (.int 0)))) rfl sc_is_strong.nd (pi_list (pv 3)) (blkOk_by (own := [("road", 2)]) (by kernel_rfl)) (fun _ _ _ _ _ => (pg_name (i := 2) sc_is_strong.nd rfl (Or.inl rfl))) (fun _ _ _ _ _ => pts_nil) (fun _ _ _ _ _ => (pe_ix ix_tup (pv 2) pe_int (fun _ _ => rfl))))))
    (pss_one (ps_ret (pe_and (pe_cmpR op_eq (pe_callB call_lenD rfl T.b_len (by decide +kernel) (pa_cons (pe_ok G_reached_from hr (pa_cons (pe_lst (pa_cons pe_int pa_nil)) (pa_cons (pv 1) pa_nil))) pa_nil)) (pe_callB (call_lenO T.me_Net_len M_len hr) rfl T.b_len (by decide +kernel) (pa_cons (pv 0) pa_nil)) (nomark _)) (pe_one (pe_cmpR op_eq (pe_callB call_lenD rfl T.b_len (by decide +kernel) (pa_cons (pe_ok G_reached_from hr (pa_cons (pe_lst (pa_cons pe_int pa_nil)) (pa_cons (pv 4) pa_nil))) pa_nil)) (pe_callB (call_lenO T.me_Net_len M_len hr) rfl T.b_len (by decide +kernel) (pa_cons (pv 0) pa_nil)) (nomark _)))))))), ?_⟩
  obtain ⟨a, dx, l1, l2, l3, l4, svs, rvs, rfl, h1, h2, h3, h4, h5, h6, h7⟩ := n.ex
  have z1 := sizeLine_eq
  have m2 := n.rsm
  have m3 := n.sml
  have sf : ∀ g : Rd → Bool, (rs.filter g).length < 1000000 := fun g => by
    have := List.length_filter_le g rs
    omega
  refine r_seq (r_asg (lots_core h7 (·.b) 1 (fun _ _ _ => rfl) hF (by omega) (fun k => sf _) (fun R h => ⟨_, rfl, a, _, dx, _, .ref l4, rfl, hF _ _ h1, T.cl_Net, T.na_Net_own_out, rfl, h⟩) fun D1 F1 H1 e1 hD1 b1 => ?_))
  refine r_next ?_
  dsimp only
  refine r_seq (r_asg (lots_core (h6.up e1.ff) (·.a) 0 (fun _ _ _ => rfl) e1.fh (by omega) (fun k => sf _) (fun R h => ⟨_, rfl, a, _, dx, _, .ref l3, rfl, e1.fh _ _ (e1.ff _ _ h1), T.cl_Net, T.na_Net_own_in, rfl, h⟩) fun D2 F2 H2 e2 hD2 b2 => ?_))
  refine r_next ?_
  dsimp only
  have E := e1.trans e2
  have bey1 : Bey F2 D1 sg.length (gOut rs) := by
    obtain ⟨lots, c1, c2, c3⟩ := b1
    refine ⟨⟨lots, e2.ff _ _ c1, c2, fun k hk => ?_⟩, fun u hu v hv => ?_⟩
    · obtain ⟨q, d1, d2⟩ := c3 k hk
      exact ⟨q, d1, e2.ff _ _ d2⟩
    · obtain ⟨r, hr, _, rfl⟩ := mem_gOut.mp hv
      exact (n.rok r hr).hb
  have bey2 : Bey F2 D2 sg.length (gIn rs) := by
    refine ⟨b2, fun u hu v hv => ?_⟩
    obtain ⟨r, hr, _, rfl⟩ := mem_gIn.mp hv
    exact (n.rok r hr).ha
  have num : ∀ L : List Nat, L.Nodup → (∀ v ∈ L, v < sg.length) → ∀ g : Nat → List Nat, (∀ v, v ∈ L ↔ Rch g 0 v) → (decide (V.int ((ents L).length : Nat) = V.int (sg.length : Nat)) = true ↔ ∀ v, v < sg.length → Rch g 0 v) := by
    intro L nd lt g mem
    have l1 : (ents L).length = L.length := by simp [ents]
    rw [l1]
    have := full_iff nd lt
    simp only [decide_eq_true_eq, V.int.injEq]
    rw [show ((L.length : Int) = (sg.length : Int)) ↔ L.length = sg.length by omega, this]
    constructor
    · intro h v hv
      exact (mem v).mp (h v hv)
    · intro h v hv
      exact (mem v).mpr (h v hv)
  refine r_ret (r_and ⟨by show 1 ≤ sizeLine; omega, fun st hst => ⟨_, rfl, st, D1, sg.length, gOut rs, F2, rfl, (Ex.new (M := []) E.fh hst).fh, upd_same, bey1, n.pos, by omega, fun DD L H' e' hDD nd mem lt => ?_⟩⟩)
  have E2 : Ex [] F H F2 H' := E.trans ((Ex.new E.fh hst).trans e')
  have n' := NetF.up E2.ff n
  refine ⟨DD, ents L, rfl, hDD, _, rfl, a, dx, _, rfl, E2.fh _ _ (E2.ff _ _ h1), a, sg, rs, F2, rfl, E2.fh, n', sg.length, rfl, by omega, rfl, _, rfl, ?_⟩
  have q1 := num L nd lt _ mem
  generalize decide (V.int ((ents L).length : Nat) = V.int (sg.length : Nat)) = b1 at q1
  cases b1 with
  | false =>
    refine iteF (kk _ H' E2.drop ⟨fun h => (by cases h), fun h => q1.mpr h.1⟩)
  | true =>
    refine iteT ⟨by show 1 ≤ sizeLine; omega, fun st2 hst2 => ⟨_, rfl, st2, D2, sg.length, gIn rs, F2, rfl, (Ex.new (M := []) E2.fh hst2).fh, upd_same, bey2, n.pos, by omega, fun DD2 L2 H3 e3 hDD2 nd2 mem2 lt2 => ?_⟩⟩
    have E3 : Ex [] F H F2 H3 := E2.trans ((Ex.new E2.fh hst2).trans e3)
    refine ⟨DD2, ents L2, rfl, hDD2, _, rfl, a, dx, _, rfl, E3.fh _ _ (E3.ff _ _ h1), a, sg, rs, F2, rfl, E3.fh, n', sg.length, rfl, by omega, rfl, ?_⟩
    have q2 := num L2 nd2 lt2 _ mem2
    exact kk _ H3 E3.drop ⟨fun h => ⟨q1.mp rfl, q2.mp h⟩, fun h => q2.mpr h.2⟩
end
end T3

namespace T3
open PySem PySem.Spec PyProof.Rows L2 Ly
section
variable {P : Program} {w : World} {K : PySem.W.Frag} {mg : Str → Option Value} {base : Heap}
/-! ### what is found is what is due -/
def spSame1 : Sp := fun vs H Q _ => ∃ (b : Bool) (F : Hp), vs = [.bl b, .bl b] ∧ Same F H ∧ ∀ H', Ex [] F H F H' → Q (.bl true) H'
theorem ok_same1 (T : Top K mg) : Ok P w K mg base "_law_same" 1 ["_law_found", "_law_due"] spSame1 := by
  have G_same : Ok P w K mg base "_law_same" 0 ["_law_found", "_law_due"] (fun _ _ _ _ => False) := ok_never T.g__law_same T.F_law_same (fun _ _ _ _ _ _ us hl => match us, hl with | [_, _], _ => rfl) fun vs H Q E h => h
  refine ok_of T.g__law_same T.F_law_same sc_law_same (fun _ _ _ _ _ _ us hl => match us, hl with | [_, _], _ => rfl) (fun vs H Q E h => ?_) (fun cdv A outer s H vs Q E hr h => ?_)
  · first | (obtain ⟨rfl, _⟩ := h; rfl) | (obtain ⟨_, rfl, _⟩ := h; rfl) | (obtain ⟨_, _, rfl, _⟩ := h; rfl) | (obtain ⟨_, _, _, rfl, _⟩ := h; rfl) | (obtain ⟨_, _, _, _, rfl, _⟩ := h; rfl) | (obtain ⟨_, _, _, _, _, rfl, _⟩ := h; rfl) | (obtain ⟨_, _, _, _, _, _, rfl, _⟩ := h; rfl) | (obtain ⟨_, _, _, _, _, _, _, rfl, _⟩ := h; rfl) | (obtain ⟨_, _, _, _, _, _, _, _, rfl, _⟩ := h; rfl) | (obtain ⟨_, _, _, _, _, _, _, _, _, rfl, _⟩ := h; rfl) | (obtain ⟨_, _, _, _, _, _, _, _, _, _, rfl, _⟩ := h; rfl) | (obtain ⟨_, _, _, _, _, _, _, _, _, _, _, rfl, _⟩ := h; rfl)
  obtain ⟨b, F, rfl, hF, kk⟩ := h
  refine ⟨_, (pss_cons (ps_if (pt_val (pe_callB call_isiT rfl T.b_isinstance (by decide +kernel) (pa_cons (pv 1) (pa_cons (pe_tup (pa_cons (pe_bltn rfl T.b_list (by decide +kernel) (show RelV (.ty "list") _ from rfl)) (pa_cons (pe_bltn rfl T.b_tuple (by decide +kernel) (show RelV (.ty "tuple") _ from rfl)) pa_nil))) pa_nil)))) (pss_cons (ps_if (PW.pt (pw_or (pt_cmpR op_ne (pe_callB call_isi rfl T.b_isinstance (by decide +kernel) (pa_cons (pv 0) (pa_cons (pe_bltn rfl T.b_list (by decide +kernel) (show RelV (.ty "list") _ from rfl)) pa_nil))) (pe_callB call_isi rfl T.b_isinstance (by decide +kernel) (pa_cons (pv 1) (pa_cons (pe_bltn rfl T.b_list (by decide +kernel) (show RelV (.ty "list") _ from rfl)) pa_nil))) (nomark _)) (pw_or1 (pt_cmpR op_ne (pe_callB call_isi rfl T.b_isinstance (by decide +kernel) (pa_cons (pv 0) (pa_cons (pe_bltn rfl T.b_tuple (by decide +kernel) (show RelV (.ty "tuple") _ from rfl)) pa_nil))) (pe_callB call_isi rfl T.b_isinstance (by decide +kernel) (pa_cons (pv 1) (pa_cons (pe_bltn rfl T.b_tuple (by decide +kernel) (show RelV (.ty "tuple") _ from rfl)) pa_nil))) (nomark _))))) (pss_one (ps_ret pe_bl)) pss_nil)
    (pss_one (ps_ret (pe_and (pe_cmpR op_eq (pe_callB call_len_seq rfl T.b_len (by decide +kernel) (pa_cons (pv 0) pa_nil)) (pe_callB call_len_seq rfl T.b_len (by decide +kernel) (pa_cons (pv 1) pa_nil)) (nomark _)) (pe_one (pe_callB (cr_all rfl) rfl T.b_all (by decide +kernel) (pa_cons (pe_lc (own := [("_law_x", 2), ("_law_y", 3)]) (g := (gTup K 2 (gCons (gName 2) (gCons (gName 3) gNil)))) (tt := tYes) (te := (tCall (fun _ _ _ _ => False) [] E0 (tCons (tVar 2) (tCons (tVar 3) tNil)))) rfl sc_law_same.nd (pi_zip rfl T.b_zip (pa_cons (pv 0) (pa_cons (pv 1) pa_nil))) (blkOk_by (own := [("_law_x", 2), ("_law_y", 3)]) (N := N_law_same) (sc := defScope s_law_same) (by decide +kernel)) (fun _ _ _ _ _ => (pg_tup rfl (pgs_cons (pg_name (i := 2) sc_law_same.nd rfl (Or.inl rfl)) (pgs_cons (pg_name (i := 3) sc_law_same.nd rfl (Or.inl rfl)) pgs_nil)))) (fun _ _ _ _ _ => pts_nil) (fun _ _ _ _ _ => (pe_ok G_same hr (pa_cons (pv 2) (pa_cons (pv 3) pa_nil))))) pa_nil))))))) pss_nil)
    (pss_cons (ps_if (pt_val (pe_callB call_isi rfl T.b_isinstance (by decide +kernel) (pa_cons (pv 1) (pa_cons (pe_bltn rfl T.b_dict (by decide +kernel) (show RelV (.ty "dict") _ from rfl)) pa_nil)))) (pss_one ps_never) pss_nil)
    (pss_cons (ps_if (pt_val (pe_callB call_isi rfl T.b_isinstance (by decide +kernel) (pa_cons (pv 1) (pa_cons (pe_bltn rfl T.b_int (by decide +kernel) (show RelV (.ty "int") _ from rfl)) pa_nil)))) (pss_one (ps_ret (pe_and (pe_callB call_isi rfl T.b_isinstance (by decide +kernel) (pa_cons (pv 0) (pa_cons (pe_bltn rfl T.b_int (by decide +kernel) (show RelV (.ty "int") _ from rfl)) pa_nil))) (pe_and (pe_cmpR op_eq (pe_callB call_isi rfl T.b_isinstance (by decide +kernel) (pa_cons (pv 0) (pa_cons (pe_bltn rfl T.b_bool (by decide +kernel) (show RelV (.ty "bool") _ from rfl)) pa_nil))) (pe_callB call_isi rfl T.b_isinstance (by decide +kernel) (pa_cons (pv 1) (pa_cons (pe_bltn rfl T.b_bool (by decide +kernel) (show RelV (.ty "bool") _ from rfl)) pa_nil))) (nomark _)) (pe_one (pe_cmpR op_eq (pv 0) (pv 1) (nomark _))))))) pss_nil)
    (pss_one (ps_ret (pe_and (pe_not (pe_callB call_isiT rfl T.b_isinstance (by decide +kernel) (pa_cons (pv 0) (pa_cons (pe_tup (pa_cons (pe_bltn rfl T.b_int (by decide +kernel) (show RelV (.ty "int") _ from rfl)) (pa_cons (pe_bltn rfl T.b_list (by decide +kernel) (show RelV (.ty "list") _ from rfl)) (pa_cons (pe_bltn rfl T.b_tuple (by decide +kernel) (show RelV (.ty "tuple") _ from rfl)) (pa_cons (pe_bltn rfl T.b_dict (by decide +kernel) (show RelV (.ty "dict") _ from rfl)) pa_nil))))) pa_nil)))) (pe_one (pe_cmpR op_eq (pv 0) (pv 1) (nomark _))))))))), ?_⟩
  refine r_seq (r_ifS (r_b ⟨_, rfl, by show 2 ≤ sizeLine; decide, fun p hp => ?_⟩))
  have e : Ex [] F H F (upd H p (.tup [.ty "list", .ty "tuple"])) := Ex.new hF hp
  refine ⟨_, p, _, .type "bool", [.type "list", .type "tuple"], false, rfl, upd_same, .cons (.ty _) (.cons (.ty _) .nil), .base (.bl b), kit_seq (K := K) (.bool b), _, rfl, iteF (r_next ?_)⟩
  dsimp only
  refine r_seq (r_ifS (r_b ⟨_, rfl, _, _, .type "bool", _, false, rfl, .ty _, .base (.bl b), kit_dct (K := K) (.bool b), _, rfl, iteF (r_next ?_)⟩))
  dsimp only
  refine r_seq (r_ifS (r_b ⟨_, rfl, _, _, .type "bool", _, true, rfl, .ty _, .base (.bl b), kit_int (K := K) (.bool b), _, rfl, iteT ?_⟩))
  refine r_ret (r_and ⟨_, rfl, _, _, .type "bool", _, true, rfl, .ty _, .base (.bl b), kit_int (K := K) (.bool b), _, rfl, iteT ?_⟩)
  refine r_and ⟨_, rfl, _, _, .type "bool", _, true, rfl, .ty _, .base (.bl b), kit_bool (K := K) (.bool b), _, rfl, _, _, .type "bool", _, true, rfl, .ty _, .base (.bl b), kit_bool (K := K) (.bool b), rfl, _, rfl, iteT' (by decide) ?_⟩
  refine ⟨_, rfl, _, rfl, by cases b <;> rfl, ?_⟩
  rw [show decide (V.bl b = V.bl b) = true by simp]
  exact kk _ e
def spSame2 : Sp := fun vs H Q _ => ∃ (a c : Addr) (bs : List Bool) (F : Hp), vs = [.ref a, .ref c] ∧ Same F H ∧ F a = some (.lst (bs.map V.bl)) ∧ F c = some (.lst (bs.map V.bl)) ∧ bs.length < 1000 ∧ ∀ H', Ex [] F H F H' → Q (.bl true) H'
theorem ok_same2 (T : Top K mg) : Ok P w K mg base "_law_same" 2 ["_law_found", "_law_due"] spSame2 := by
  have G_same : Ok P w K mg base "_law_same" 1 ["_law_found", "_law_due"] spSame1 := ok_same1 T
  refine ok_of T.g__law_same T.F_law_same sc_law_same (fun _ _ _ _ _ _ us hl => match us, hl with | [_, _], _ => rfl) (fun vs H Q E h => ?_) (fun cdv A outer s H vs Q E hr h => ?_)
  · first | (obtain ⟨rfl, _⟩ := h; rfl) | (obtain ⟨_, rfl, _⟩ := h; rfl) | (obtain ⟨_, _, rfl, _⟩ := h; rfl) | (obtain ⟨_, _, _, rfl, _⟩ := h; rfl) | (obtain ⟨_, _, _, _, rfl, _⟩ := h; rfl) | (obtain ⟨_, _, _, _, _, rfl, _⟩ := h; rfl) | (obtain ⟨_, _, _, _, _, _, rfl, _⟩ := h; rfl) | (obtain ⟨_, _, _, _, _, _, _, rfl, _⟩ := h; rfl) | (obtain ⟨_, _, _, _, _, _, _, _, rfl, _⟩ := h; rfl) | (obtain ⟨_, _, _, _, _, _, _, _, _, rfl, _⟩ := h; rfl) | (obtain ⟨_, _, _, _, _, _, _, _, _, _, rfl, _⟩ := h; rfl) | (obtain ⟨_, _, _, _, _, _, _, _, _, _, _, rfl, _⟩ := h; rfl)
  obtain ⟨a, c, bs, F, rfl, hF, ha, hc, hl, kk⟩ := h
  refine ⟨_, (pss_cons (ps_if (pt_val (pe_callB call_isiT rfl T.b_isinstance (by decide +kernel) (pa_cons (pv 1) (pa_cons (pe_tup (pa_cons (pe_bltn rfl T.b_list (by decide +kernel) (show RelV (.ty "list") _ from rfl)) (pa_cons (pe_bltn rfl T.b_tuple (by decide +kernel) (show RelV (.ty "tuple") _ from rfl)) pa_nil))) pa_nil)))) (pss_cons (ps_if (PW.pt (pw_or (pt_cmpR op_ne (pe_callB call_isi rfl T.b_isinstance (by decide +kernel) (pa_cons (pv 0) (pa_cons (pe_bltn rfl T.b_list (by decide +kernel) (show RelV (.ty "list") _ from rfl)) pa_nil))) (pe_callB call_isi rfl T.b_isinstance (by decide +kernel) (pa_cons (pv 1) (pa_cons (pe_bltn rfl T.b_list (by decide +kernel) (show RelV (.ty "list") _ from rfl)) pa_nil))) (nomark _)) (pw_or1 (pt_cmpR op_ne (pe_callB call_isi rfl T.b_isinstance (by decide +kernel) (pa_cons (pv 0) (pa_cons (pe_bltn rfl T.b_tuple (by decide +kernel) (show RelV (.ty "tuple") _ from rfl)) pa_nil))) (pe_callB call_isi rfl T.b_isinstance (by decide +kernel) (pa_cons (pv 1) (pa_cons (pe_bltn rfl T.b_tuple (by decide +kernel) (show RelV (.ty "tuple") _ from rfl)) pa_nil))) (nomark _))))) (pss_one (ps_ret pe_bl)) pss_nil)
    (pss_one (ps_ret (pe_and (pe_cmpR op_eq (pe_callB call_len_seq rfl T.b_len (by decide +kernel) (pa_cons (pv 0) pa_nil)) (pe_callB call_len_seq rfl T.b_len (by decide +kernel) (pa_cons (pv 1) pa_nil)) (nomark _)) (pe_one (pe_callB (cr_all rfl) rfl T.b_all (by decide +kernel) (pa_cons (pe_lc (own := [("_law_x", 2), ("_law_y", 3)]) (g := (gTup K 2 (gCons (gName 2) (gCons (gName 3) gNil)))) (tt := tYes) (te := (tCall spSame1 [] E0 (tCons (tVar 2) (tCons (tVar 3) tNil)))) rfl sc_law_same.nd (pi_zip rfl T.b_zip (pa_cons (pv 0) (pa_cons (pv 1) pa_nil))) (blkOk_by (own := [("_law_x", 2), ("_law_y", 3)]) (N := N_law_same) (sc := defScope s_law_same) (by decide +kernel)) (fun _ _ _ _ _ => (pg_tup rfl (pgs_cons (pg_name (i := 2) sc_law_same.nd rfl (Or.inl rfl)) (pgs_cons (pg_name (i := 3) sc_law_same.nd rfl (Or.inl rfl)) pgs_nil)))) (fun _ _ _ _ _ => pts_nil) (fun _ _ _ _ _ => (pe_ok G_same hr (pa_cons (pv 2) (pa_cons (pv 3) pa_nil))))) pa_nil))))))) pss_nil)
    (pss_cons (ps_if (pt_val (pe_callB call_isi rfl T.b_isinstance (by decide +kernel) (pa_cons (pv 1) (pa_cons (pe_bltn rfl T.b_dict (by decide +kernel) (show RelV (.ty "dict") _ from rfl)) pa_nil)))) (pss_one ps_never) pss_nil)
    (pss_cons (ps_if (pt_val (pe_callB call_isi rfl T.b_isinstance (by decide +kernel) (pa_cons (pv 1) (pa_cons (pe_bltn rfl T.b_int (by decide +kernel) (show RelV (.ty "int") _ from rfl)) pa_nil)))) (pss_one (ps_ret (pe_and (pe_callB call_isi rfl T.b_isinstance (by decide +kernel) (pa_cons (pv 0) (pa_cons (pe_bltn rfl T.b_int (by decide +kernel) (show RelV (.ty "int") _ from rfl)) pa_nil))) (pe_and (pe_cmpR op_eq (pe_callB call_isi rfl T.b_isinstance (by decide +kernel) (pa_cons (pv 0) (pa_cons (pe_bltn rfl T.b_bool (by decide +kernel) (show RelV (.ty "bool") _ from rfl)) pa_nil))) (pe_callB call_isi rfl T.b_isinstance (by decide +kernel) (pa_cons (pv 1) (pa_cons (pe_bltn rfl T.b_bool (by decide +kernel) (show RelV (.ty "bool") _ from rfl)) pa_nil))) (nomark _)) (pe_one (pe_cmpR op_eq (pv 0) (pv 1) (nomark _))))))) pss_nil)
    (pss_one (ps_ret (pe_and (pe_not (pe_callB call_isiT rfl T.b_isinstance (by decide +kernel) (pa_cons (pv 0) (pa_cons (pe_tup (pa_cons (pe_bltn rfl T.b_int (by decide +kernel) (show RelV (.ty "int") _ from rfl)) (pa_cons (pe_bltn rfl T.b_list (by decide +kernel) (show RelV (.ty "list") _ from rfl)) (pa_cons (pe_bltn rfl T.b_tuple (by decide +kernel) (show RelV (.ty "tuple") _ from rfl)) (pa_cons (pe_bltn rfl T.b_dict (by decide +kernel) (show RelV (.ty "dict") _ from rfl)) pa_nil))))) pa_nil)))) (pe_one (pe_cmpR op_eq (pv 0) (pv 1) (nomark _))))))))), ?_⟩
  have z1 := sizeLine_eq
  refine r_seq (r_ifS (r_b ⟨_, rfl, by show 2 ≤ sizeLine; decide, fun p hp => ?_⟩))
  have e : Ex [] F H F (upd H p (.tup [.ty "list", .ty "tuple"])) := Ex.new hF hp
  have ta : TyX K (upd H p (.tup [.ty "list", .ty "tuple"])) (.ref a) (.type "list") := .base (.lst (e.fh _ _ ha))
  have tc : TyX K (upd H p (.tup [.ty "list", .ty "tuple"])) (.ref c) (.type "list") := .base (.lst (e.fh _ _ hc))
  refine ⟨_, p, _, .type "list", [.type "list", .type "tuple"], true, rfl, upd_same, .cons (.ty _) (.cons (.ty _) .nil), tc, kit_seq (K := K) (.list []), _, rfl, iteT ?_⟩
  generalize (upd H p (.tup [.ty "list", .ty "tuple"])) = H1 at e ta tc
  refine r_seq (r_ifS ?_)
  refine ⟨_, rfl, _, _, .type "list", _, true, rfl, .ty _, ta, kit_lst (K := K) (.list []), _, rfl, _, _, .type "list", _, true, rfl, .ty _, tc, kit_lst (K := K) (.list []), rfl, _, rfl, iteF' (by decide) ?_⟩
  refine ⟨_, rfl, _, _, .type "list", _, false, rfl, .ty _, ta, kit_tup (K := K) (.list []), _, rfl, _, _, .type "list", _, false, rfl, .ty _, tc, kit_tup (K := K) (.list []), rfl, _, rfl, iteF' (by decide) (r_next ?_)⟩
  dsimp only
  refine r_ret (r_and ⟨_, rfl, a, _, rfl, .inl (SqL.of (e.fh _ _ ha)), _, rfl, c, _, rfl, .inl (SqL.of (e.fh _ _ hc)), rfl, _, rfl, iteT' (by simp) ?_⟩)
  refine r_cb (r_cons (lcg_zip (n := bs.length) (fun R h => ⟨_, rfl, _, rfl, h⟩) (e.ff _ _ ha) (e.ff _ _ hc) (by simp) e.fh (by omega) (fun k acc _ => acc = List.replicate k (.bl true)) (fun _ _ _ _ _ h => h) rfl ?_ ?_))
  · intro k x y t acc F1 H2 Kk Nk hk hx hy e2 p2 _ k1 _
    have hxy : x = y := by
      rw [hx] at hy
      exact Option.some.inj hy
    subst hxy
    obtain ⟨b, rfl⟩ : ∃ b, x = .bl b := by
      rw [List.getElem?_map] at hx
      obtain ⟨b, _, h⟩ := Option.map_eq_some_iff.mp hx
      exact ⟨b, h.symm⟩
    refine ⟨t, _, rfl, SqT.of upd_same, rfl, _, _, rfl, _, _, rfl, rfl, rfl, _, rfl, _, rfl, b, F1, rfl, e2.fh, fun H3 e3 => k1 _ F1 H3 e3 ?_⟩
    rw [p2, List.replicate_succ']
  · intro D acc F1 H2 e2 hD fD hd p2 _
    refine ⟨D, List.replicate bs.length true, rfl, SqL.of (by rw [hd, p2]; simp), ?_⟩
    have : (List.replicate bs.length true).all id = true := by simp
    rw [this]
    exact kk H2 (e.trans e2).drop
/-! ### each thing once -/
def spEachOnce : Sp := fun vs H Q _ => ∃ (a : Addr) (xs : List V) (ks : List W) (F : Hp), vs = [.ref a] ∧ Same F H ∧ F a = some (.lst xs) ∧ Wks F ks xs ∧ (∀ k ∈ ks, k.data.canLay0 = true ∧ k.depth ≤ 4) ∧ ks.length < 1000000 ∧
  ∀ p ys H', Ex [] F H F H' → H p = none → H' p = some (.lst ys) → Wks F (eOnce ks) ys → Q (.ref p) H'
theorem ok_each_once (T : Top K mg) : Ok P w K mg base "_law_each_once" 1 ["_law_things"] spEachOnce := by
  refine ok_of T.g__law_each_once T.F_law_each_once sc_law_each_once (fun _ _ _ _ _ _ us hl => match us, hl with | [_], _ => rfl) (fun vs H Q E h => ?_) (fun cdv A outer s H vs Q E hr h => ?_)
  · first | (obtain ⟨rfl, _⟩ := h; rfl) | (obtain ⟨_, rfl, _⟩ := h; rfl) | (obtain ⟨_, _, rfl, _⟩ := h; rfl) | (obtain ⟨_, _, _, rfl, _⟩ := h; rfl) | (obtain ⟨_, _, _, _, rfl, _⟩ := h; rfl) | (obtain ⟨_, _, _, _, _, rfl, _⟩ := h; rfl) | (obtain ⟨_, _, _, _, _, _, rfl, _⟩ := h; rfl) | (obtain ⟨_, _, _, _, _, _, _, rfl, _⟩ := h; rfl) | (obtain ⟨_, _, _, _, _, _, _, _, rfl, _⟩ := h; rfl) | (obtain ⟨_, _, _, _, _, _, _, _, _, rfl, _⟩ := h; rfl) | (obtain ⟨_, _, _, _, _, _, _, _, _, _, rfl, _⟩ := h; rfl) | (obtain ⟨_, _, _, _, _, _, _, _, _, _, _, rfl, _⟩ := h; rfl)
  obtain ⟨a, xs, ks, F, rfl, hF, ha, hw, hk, hl, kk⟩ := h
  refine ⟨_, (pss_cons (ps_set (i := 1) sc_law_each_once.nd rfl (Or.inl rfl) (pe_lst pa_nil))
    (pss_cons (ps_for PassesOwn.never rfl (pi_list (pv 0)) (pg_name (i := 2) sc_law_each_once.nd rfl (Or.inl rfl)) (pss_one (ps_if (pt_cmpR (op_notInD (hu65 hr)) (pv 2) (pv 1) rfl) (pss_one (ps_expr (pe_bm PySem.F.plainAttrs_list PySem.F.slot_list_append PySem.F.type_list_append mt_append (pv 1) (pa_cons (pv 2) pa_nil)))) pss_nil)))
    (pss_one (ps_ret (pv 1))))), ?_⟩
  have z1 := sizeLine_eq
  have l1 := hw.len
  refine r_seq (r_asg ⟨Nat.zero_le _, fun p hp => ?_⟩)
  have fp : F p = none := Same.free hF hp
  have e : Ex [] F H F (upd H p (.lst [])) := Ex.new hF hp
  have d0 : (upd H p (.lst [])) p = some (.lst []) := upd_same
  refine r_next ?_
  dsimp only
  generalize upd H p (.lst []) = H1 at e d0
  refine r_seq (forg_list [p] (fun R h => ⟨_, rfl, h⟩) ha e.fh (fun i σ1 F1 H2 => F1 = F ∧ ∃ u ys, σ1 = [some (.ref a), some (.ref p), u] ∧ H2 p = some (.lst ys) ∧ Wks F (eOnce (ks.take i)) ys) ⟨rfl, _, [], rfl, d0, Wks.nil⟩ ?_ ?_)
  · rintro i x σ1 F1 H2 Nk hi hx e2 ⟨rfl, u, ys, rfl, d2, w2⟩ nk
    obtain ⟨k, hk1, wk⟩ := hw.get hx
    obtain ⟨c1, c2⟩ := hk k (List.mem_of_getElem? hk1)
    have sub : ∀ z ∈ eOnce (ks.take i), z ∈ ks := fun z hz => List.mem_of_mem_take ((eOnce_mem _ _).mp hz)
    have sh : SeqAt.shaped k.data = true := by
      unfold SeqAt.shaped
      rw [c1, depth_data]
      simp
      omega
    refine ⟨_, rfl, _, rfl, k.data, NestedKey.datas (eOnce (ks.take i)), wk_dp e2.fh wk, .lst (SqL.of d2) (wks_dp e2.fh w2), sh, shaped_list (fun z hz => (hk z (sub z hz)).1) (fun z hz => (hk z (sub z hz)).2), _, rfl, ?_⟩
    rw [any_datas]
    by_cases hin : k ∈ eOnce (ks.take i)
    · refine iteF' (by simp [hin]) ?_
      refine nk _ F1 H2 (Ex.refl e2.fh) ⟨rfl, _, ys, rfl, d2, ?_⟩
      rw [eOnce_take hk1, if_pos hin]
      exact w2
    · refine iteT' (by simp [hin]) ?_
      have ly := w2.len
      have ly2 := eOnce_le (ks.take i)
      have ly3 : (ks.take i).length ≤ ks.length := by simp; omega
      refine r_drop ⟨_, rfl, .inl ⟨rfl, _, SqL.of d2⟩, _, rfl, p, ys, _, rfl, rfl, d2, by omega, ?_⟩
      refine nk _ F1 _ (Ex.put e2.fh fp (by simp)) ⟨rfl, _, _, rfl, upd_same, ?_⟩
      rw [eOnce_take hk1, if_neg hin]
      exact w2.app (Wks.one wk)
  · rintro σ1 F1 H2 e2 ⟨rfl, u, ys, rfl, d2, w2⟩
    rw [List.take_of_length_le (by omega)] at w2
    dsimp only
    exact ⟨_, rfl, kk p ys H2 (e.newly e2 (fun q hq => by rw [List.mem_singleton.mp hq]; exact hp)) hp d2 w2⟩
end
end T3

namespace T3
open PySem PySem.Spec PyProof.Rows L2 Ly
section
variable {P : Program} {w : World} {K : PySem.W.Frag} {mg : Str → Option Value} {base : Heap}
def spLawIsTwoWay : Sp := fun vs H Q _ => ∃ (a : Addr) (xs : List V) (rs : List Rd) (n : Nat) (F : Hp), vs = [.ref a] ∧ Same F H ∧ F a = some (.lst xs) ∧ Rds F rs xs ∧ (∀ r ∈ rs, r.OkN n) ∧ rs.length < 100000 ∧ ∀ H', Ex [] F H F H' → Q (.bl (tw rs)) H'
theorem ok_law_is_two_way (T : Top K mg) : Ok P w K mg base "_law_is_two_way" 2 ["_law_roads"] spLawIsTwoWay := by
  have G_each_once : Ok P w K mg base "_law_each_once" 1 ["_law_things"] spEachOnce := ok_each_once T
  refine ok_of T.g__law_is_two_way T.F_law_is_two_way sc_law_is_two_way (fun _ _ _ _ _ _ us hl => match us, hl with | [_], _ => rfl) (fun vs H Q E h => ?_) (fun cdv A outer s H vs Q E hr h => ?_)
  · first | (obtain ⟨rfl, _⟩ := h; rfl) | (obtain ⟨_, rfl, _⟩ := h; rfl) | (obtain ⟨_, _, rfl, _⟩ := h; rfl) | (obtain ⟨_, _, _, rfl, _⟩ := h; rfl) | (obtain ⟨_, _, _, _, rfl, _⟩ := h; rfl) | (obtain ⟨_, _, _, _, _, rfl, _⟩ := h; rfl) | (obtain ⟨_, _, _, _, _, _, rfl, _⟩ := h; rfl) | (obtain ⟨_, _, _, _, _, _, _, rfl, _⟩ := h; rfl) | (obtain ⟨_, _, _, _, _, _, _, _, rfl, _⟩ := h; rfl) | (obtain ⟨_, _, _, _, _, _, _, _, _, rfl, _⟩ := h; rfl) | (obtain ⟨_, _, _, _, _, _, _, _, _, _, rfl, _⟩ := h; rfl) | (obtain ⟨_, _, _, _, _, _, _, _, _, _, _, rfl, _⟩ := h; rfl)
  obtain ⟨a, rvs, rs, n, F, rfl, hF, h4, h5, hro, m2, kk⟩ := h
  refine ⟨_, (pss_cons (ps_setLc (i := 1) (own := [("_law_one", 2), ("_law_other", 3), ("_law_out", 4), ("_law_into", 5)]) (g := (gTup K 4 (gCons (gName 2) (gCons (gName 3) (gCons (gName 4) (gCons (gName 5) gNil)))))) (tt := tYes) (te := (tTup (tCons (tVar 2) (tCons (tVar 4) tNil)))) rfl sc_law_is_two_way.nd rfl rfl (sw_true rfl rfl rfl (by decide +kernel)) (pi_list (pv 0)) (blkOk_by (own := [("_law_one", 2), ("_law_other", 3), ("_law_out", 4), ("_law_into", 5)]) (N := N_law_is_two_way) (sc := defScope s_law_is_two_way) (by decide +kernel)) (fun _ _ _ _ _ => (pg_tup rfl (pgs_cons (pg_name (i := 2) sc_law_is_two_way.nd rfl (Or.inl rfl)) (pgs_cons (pg_name (i := 3) sc_law_is_two_way.nd rfl (Or.inl rfl)) (pgs_cons (pg_name (i := 4) sc_law_is_two_way.nd rfl (Or.inl rfl)) (pgs_cons (pg_name (i := 5) sc_law_is_two_way.nd rfl (Or.inl rfl)) pgs_nil)))))) (fun _ _ _ _ _ => pts_nil) (fun _ _ _ _ _ => (pe_tup (pa_cons (pv 2) (pa_cons (pv 4) pa_nil)))))
    (pss_cons (ps_if (pt_cmpR op_lt (pe_callB call_len_seq rfl T.b_len (by decide +kernel) (pa_cons (pe_ok G_each_once hr (pa_cons (pv 1) pa_nil)) pa_nil)) (pe_callB call_len_seq rfl T.b_len (by decide +kernel) (pa_cons (pv 1) pa_nil)) (nomark _)) (pss_one (ps_ret pe_bl)) pss_nil)
    (pss_one (ps_ret (pe_callB (cr_all rfl) rfl T.b_all (by decide +kernel) (pa_cons (pe_lc (own := [("_law_one", 2), ("_law_other", 3), ("_law_out", 4), ("_law_into", 5)]) (g := (gTup K 4 (gCons (gName 2) (gCons (gName 3) (gCons (gName 4) (gCons (gName 5) gNil)))))) (tt := tYes) (te := (tOp (rInD K) (tTup (tCons (tVar 3) (tCons (tVar 2) (tCons (tVar 5) (tCons (tVar 4) tNil))))) (tVar 0))) rfl sc_law_is_two_way.nd (pi_list (pv 0)) (blkOk_by (own := [("_law_one", 2), ("_law_other", 3), ("_law_out", 4), ("_law_into", 5)]) (N := N_law_is_two_way) (sc := defScope s_law_is_two_way) (by decide +kernel)) (fun _ _ _ _ _ => (pg_tup rfl (pgs_cons (pg_name (i := 2) sc_law_is_two_way.nd rfl (Or.inl rfl)) (pgs_cons (pg_name (i := 3) sc_law_is_two_way.nd rfl (Or.inl rfl)) (pgs_cons (pg_name (i := 4) sc_law_is_two_way.nd rfl (Or.inl rfl)) (pgs_cons (pg_name (i := 5) sc_law_is_two_way.nd rfl (Or.inl rfl)) pgs_nil)))))) (fun _ _ _ _ _ => pts_nil) (fun _ _ _ _ _ => (pe_cmpR (op_inD (hu65 hr)) (pe_tup (pa_cons (pv 3) (pa_cons (pv 2) (pa_cons (pv 5) (pa_cons (pv 4) pa_nil))))) (pv 0) rfl))) pa_nil)))))), ?_⟩
  have z1 := sizeLine_eq
  have m1 := Rds.len h5
  refine r_seq (r_asg (lcg_list [] (fun R h => ⟨_, rfl, h⟩) h4 hF (by simp) (by omega) (fun k acc F => Wks F ((rs.map Rd.ew).take k) acc) (fun _ _ _ => True) (fun _ _ _ _ h q => Wks.up h q) (fun _ _ _ _ _ _ _ _ _ => trivial) (by simp; exact Wks.nil) trivial ?_ ?_))
  · intro i y acc F' H' Kk Nk hi hy e p _ _ k1 _
    obtain ⟨r, hr', wr⟩ := Rds.get h5 hy
    obtain ⟨q, vo, vi, rfl, hq, wo, wi⟩ := Rd.wk (Wk.up e.ff wr)
    refine ⟨q, _, rfl, SqT.of (e.fh _ _ hq), rfl, _, _, rfl, _, _, rfl, _, _, rfl, _, _, rfl, rfl, rfl, _, rfl, _, rfl, by show 2 ≤ sizeLine; omega, fun p2 hp2 => ?_⟩
    refine k1 _ (upd F' p2 (.tup [.int r.a, vo])) _ (Ex.newF e.fh hp2) ?_ trivial
    have : Wk (upd F' p2 (.tup [.int r.a, vo])) r.ew (.ref p2) := wk_new (Same.free e.fh hp2) (.cons (wk_num.mpr rfl) (.one wo))
    exact wks_take_snoc (p.up (Same.upd (Same.free e.fh hp2))) (by rw [List.getElem?_map, hr']; rfl) this
  · intro D acc F' H' e hD fD hd' p _ _
    rw [List.take_of_length_le (by rw [List.length_map]; omega)] at p
    have ef := e.frz hD hd' fD
    have le : Same F' (upd F' D (.lst acc)) := Same.upd fD
    have lacc := p.len
    rw [List.length_map] at lacc
    have dD : (upd F' D (.lst acc)) D = some (.lst acc) := upd_same
    have p' := p.up le
    generalize upd F' D (.lst acc) = F2 at ef le dD p'
    have dep : ∀ k ∈ rs.map Rd.ew, k.data.canLay0 = true ∧ k.depth ≤ 4 := fun k hk => by
      obtain ⟨r, hr, rfl⟩ := List.mem_map.mp hk
      have := (hro r hr).ho.dp
      refine ⟨by simp [Rd.ew, NestedKey.data, NestedKey.datas, PyData.canLay0, PyData.canLayAll0, (hro r hr).ho.lay], ?_⟩
      simp [Rd.ew, NestedKey.depth, NestedKey.depthAll]
      omega
    refine r_next ?_
    dsimp only
    refine r_seq (r_ifS (r_tst (r_op (r_cb (r_cons (r_call (r_cons ⟨_, rfl, D, acc, rs.map Rd.ew, F2, rfl, ef.fh, dD, p', dep, by simp; omega, fun q ys H3 e3 _ hq wq => ?_⟩)))))))
    have lys := wq.len
    have E3 := ef.trans e3
    refine ⟨q, ys, rfl, .inl (SqL.of hq), _, rfl, D, acc, rfl, .inl (SqL.of (e3.fh _ _ dD)), _, _, rfl, rfl, _, rfl, ?_⟩
    have ole := eOnce_le (rs.map Rd.ew)
    rw [List.length_map] at ole
    by_cases hc : (eOnce (rs.map Rd.ew)).length = rs.length
    · refine iteF' (by simp; omega) (r_next ?_)
      dsimp only
      refine r_ret (r_cb (r_cons (lcg_list [] (fun R h => ⟨_, rfl, h⟩) (E3.ff _ _ h4) E3.fh (by simp) (by omega) (fun k acc F => acc = (rs.take k).map fun r => .bl (decide (r.rev ∈ rs))) (fun _ _ _ => True) (fun _ _ _ _ _ q => q) (fun _ _ _ _ _ _ _ _ _ => trivial) rfl trivial ?_ ?_)))
      · intro i y acc F' H' Kk Nk hi hy e p _ _ k1 _
        obtain ⟨r, hr', wr⟩ := Rds.get h5 hy
        have le2 := Same.trans E3.ff e.ff
        obtain ⟨q, vo, vi, rfl, hq, wo, wi⟩ := Rd.wk (Wk.up le2 wr)
        refine ⟨q, _, rfl, SqT.of (e.fh _ _ hq), rfl, _, _, rfl, _, _, rfl, _, _, rfl, _, _, rfl, rfl, rfl, _, rfl, _, rfl, _, rfl, _, rfl, by show 4 ≤ sizeLine; omega, fun p2 hp2 => ?_⟩
        have e5 : Ex [] F' H' (upd F' p2 (.tup [.int r.b, .int r.a, vi, vo])) (upd H' p2 (.tup [.int r.b, .int r.a, vi, vo])) := Ex.newF e.fh hp2
        have wn : Wk (upd F' p2 (.tup [.int r.b, .int r.a, vi, vo])) r.rev.w (.ref p2) := Rd.wk_new (a := r.b) (b := r.a) (Same.free e.fh hp2) wi wo
        have ro := hro r (List.mem_of_getElem? hr')
        refine ⟨_, rfl, r.rev.w.data, NestedKey.datas (rs.map Rd.w), wk_dp e5.fh wn, .lst (SqL.of (e5.fh _ _ (e5.ff _ _ (le2 _ _ h4)))) (wks_dp e5.fh (Wks.up (Same.trans le2 e5.ff) h5)), ro.rev.shaped, shaped_list (fun k hk => (mem_rds hro hk).2.2) (fun k hk => (mem_rds hro hk).2.1), ?_⟩
        refine k1 _ _ _ e5 ?_ trivial
        rw [p, List.take_add_one, hr', any_datas]
        have : decide (r.rev.w ∈ rs.map Rd.w) = decide (r.rev ∈ rs) := by
          congr 1
          rw [List.mem_map]
          apply propext
          constructor
          · rintro ⟨s, hs, es⟩
            rw [← Rd.inj es]
            exact hs
          · intro hs
            exact ⟨_, hs, rfl⟩
        rw [this]
        simp
      · intro D4 acc F' H' e hD fD hd' p _ _
        rw [List.take_of_length_le (by omega)] at p
        refine ⟨D4, rs.map fun r => decide (r.rev ∈ rs), rfl, SqL.of (by rw [hd', p]; simp), ?_⟩
        have e0 : tw rs = (rs.map fun r => decide (r.rev ∈ rs)).all id := by
          unfold tw
          rw [decide_eq_true hc, Bool.true_and, List.all_map]
          rfl
        rw [← e0]
        exact kk H' (E3.trans e).drop
    · refine iteT' (by simp; omega) (r_ret (r_c ?_))
      have e0 : tw rs = false := by simp [tw, hc]
      have := kk H3 E3.drop
      rw [e0] at this
      exact this
/-! ### pairs of places -/
def pw (p : Nat × Nat) : W := .tup [.num p.1, .num p.2]
def gP (ps : List (Nat × Nat)) (u : Nat) : List Nat := (ps.filter fun p => decide (p.1 = u)).map (·.2)
theorem mem_gP {ps : List (Nat × Nat)} {u v : Nat} : v ∈ gP ps u ↔ (u, v) ∈ ps := by
  unfold gP
  rw [List.mem_map]
  constructor
  · rintro ⟨p, hp, rfl⟩
    rw [List.mem_filter] at hp
    have : p.1 = u := by simpa using hp.2
    rw [← this]
    exact hp.1
  · intro h
    exact ⟨_, List.mem_filter.mpr ⟨h, by simp⟩, rfl⟩
theorem pw_wk {F : Hp} {p : Nat × Nat} {v : V} (h : Wk F (pw p) v) : ∃ q, v = .ref q ∧ F q = some (.tup [.int p.1, .int p.2]) := by
  obtain ⟨q, vs, rfl, h1, h2, _⟩ := wk_tup.mp h
  obtain ⟨v1, t1, rfl, q1, h2⟩ := wks_cons.mp h2
  obtain ⟨v2, t2, rfl, q2, h2⟩ := wks_cons.mp h2
  rw [wks_nil.mp h2, wk_num.mp q1, wk_num.mp q2] at h1
  exact ⟨q, rfl, h1⟩
theorem pws_get {F : Hp} {ps : List (Nat × Nat)} {vs : List V} {i : Nat} {v : V} (h : Wks F (ps.map pw) vs) (e : vs[i]? = some v) : ∃ p, ps[i]? = some p ∧ Wk F (pw p) v := by
  obtain ⟨k, h1, h2⟩ := Wks.get h e
  rw [List.getElem?_map] at h1
  obtain ⟨r, h3, rfl⟩ := Option.map_eq_some_iff.mp h1
  exact ⟨r, h3, h2⟩
def nW (l : List Nat) : List W := l.map fun v : Nat => NestedKey.num (v : Int)
theorem wks_nW {F : Hp} : ∀ {l : List Nat} {vs : List V}, Wks F (nW l) vs ↔ vs = nV l
  | [], vs => wks_nil
  | a :: l, vs => by
    show Wks F (.num a :: nW l) vs ↔ vs = .int a :: nV l
    rw [wks_cons]
    constructor
    · rintro ⟨v, r, rfl, h1, h2⟩
      rw [wk_num.mp h1, wks_nW.mp h2]
    · rintro rfl
      exact ⟨_, _, rfl, wk_num.mpr rfl, wks_nW.mpr rfl⟩
theorem eOnce_nW : ∀ l : List Nat, eOnce (nW l) = nW (eOnce l) := by
  refine rev_ind rfl fun l a ih => ?_
  have h1 : nW (l ++ [a]) = nW l ++ [.num a] := by simp [nW]
  rw [h1, eOnce_snoc, eOnce_snoc, ih]
  have h2 : (NestedKey.num (a : Int) ∈ nW (eOnce l)) ↔ a ∈ eOnce l := by
    unfold nW
    rw [List.mem_map]
    constructor
    · rintro ⟨v, hv, e⟩
      have : v = a := by
        have := NestedKey.num.inj e
        omega
      rw [← this]
      exact hv
    · intro h
      exact ⟨a, h, rfl⟩
  by_cases h : a ∈ eOnce l
  · rw [if_pos h, if_pos (h2.mpr h)]
  · rw [if_neg h, if_neg (fun z => h (h2.mp z))]
    simp [nW]
theorem any_nats (v : Nat) : ∀ l : List Nat, (((l.map fun v : Nat => (v : Int)).map PyData.int).any fun z => PyData.eqv z (.int (v : Int))) = decide (v ∈ l)
  | [] => rfl
  | a :: l => by
    simp only [List.map_cons, List.any_cons]
    rw [any_nats v l]
    by_cases h : a = v
    · simp [h, PyData.eqv]
    · have h2 : ¬ v = a := fun z => h z.symm
      simp [h, h2, PyData.eqv]
      omega
def spLawReached : Sp := fun vs H Q _ => ∃ (s n : Nat) (pl : Addr) (prv : List V) (ps : List (Nat × Nat)) (F : Hp), vs = [.int s, .ref pl] ∧ Same F H ∧ F pl = some (.lst prv) ∧ Wks F (ps.map pw) prv ∧ (∀ p ∈ ps, p.1 < n ∧ p.2 < n) ∧ s < n ∧ n < 100000 ∧ ps.length < 1000000 ∧
  ∀ p L H', Ex [] F H F H' → H p = none → H' p = some (.lst (nV L)) → L.Nodup → (∀ v, v ∈ L ↔ Rch (gP ps) s v) → (∀ v ∈ L, v < n) → Q (.ref p) H'
theorem ok_law_reached (T : Top K mg) : Ok P w K mg base "_law_reached" 2 ["_law_start_here", "_law_pairs"] spLawReached := by
  have G_each_once : Ok P w K mg base "_law_each_once" 1 ["_law_things"] spEachOnce := ok_each_once T
  refine ok_of T.g__law_reached T.F_law_reached sc_law_reached (fun _ _ _ _ _ _ us hl => match us, hl with | [_, _], _ => rfl) (fun vs H Q E h => ?_) (fun cdv A outer s H vs Q E hr h => ?_)
  · first | (obtain ⟨rfl, _⟩ := h; rfl) | (obtain ⟨_, rfl, _⟩ := h; rfl) | (obtain ⟨_, _, rfl, _⟩ := h; rfl) | (obtain ⟨_, _, _, rfl, _⟩ := h; rfl) | (obtain ⟨_, _, _, _, rfl, _⟩ := h; rfl) | (obtain ⟨_, _, _, _, _, rfl, _⟩ := h; rfl) | (obtain ⟨_, _, _, _, _, _, rfl, _⟩ := h; rfl) | (obtain ⟨_, _, _, _, _, _, _, rfl, _⟩ := h; rfl) | (obtain ⟨_, _, _, _, _, _, _, _, rfl, _⟩ := h; rfl) | (obtain ⟨_, _, _, _, _, _, _, _, _, rfl, _⟩ := h; rfl) | (obtain ⟨_, _, _, _, _, _, _, _, _, _, rfl, _⟩ := h; rfl) | (obtain ⟨_, _, _, _, _, _, _, _, _, _, _, rfl, _⟩ := h; rfl)
  obtain ⟨st, n, pl, prv, ps, F, rfl, hF, hpl, hw, hlt, sn, n1, lps, kk⟩ := h
  refine ⟨_, (pss_cons (ps_asg (pe_tup (pa_cons (pe_lst (pa_cons (pv 0) pa_nil)) (pa_cons pe_int pa_nil))) (pg_tup rfl (pgs_cons (pg_name (i := 2) sc_law_reached.nd rfl (Or.inr rfl)) (pgs_cons (pg_name (i := 3) sc_law_reached.nd rfl (Or.inl rfl)) pgs_nil))))
    (pss_cons (ps_while PassesOwn.never (pt_cmpR op_lt (pv 3) (pe_callB call_len_seq rfl T.b_len (by decide +kernel) (pa_cons (pv 2) pa_nil)) (nomark _)) (pss_cons (ps_set (i := 4) sc_law_reached.nd rfl (Or.inr rfl) (pe_ix ix_list (pv 2) (pv 3) (fun _ _ => rfl)))
    (pss_cons (ps_expr (pe_bm PySem.F.plainAttrs_list PySem.F.slot_list_extend PySem.F.type_list_extend mt_extend (pv 2) (pa_cons (pe_ok G_each_once hr (pa_cons (pe_lc (own := [("_law_one", 5), ("_law_other", 6)]) (g := (gTup K 2 (gCons (gName 5) (gCons (gName 6) gNil)))) (tt := (tAnd (tTest (tOp rEq (tVar 5) (tVar 4))) (tTest (tOp (rNotInD K) (tVar 6) (tVar 2))))) (te := (tVar 6)) rfl sc_law_reached.nd (pi_list (pv 1)) (blkOk_by (own := [("_law_one", 5), ("_law_other", 6)]) (N := N_law_reached) (sc := defScope s_law_reached) (by decide +kernel)) (fun _ _ _ _ _ => (pg_tup rfl (pgs_cons (pg_name (i := 5) sc_law_reached.nd rfl (Or.inl rfl)) (pgs_cons (pg_name (i := 6) sc_law_reached.nd rfl (Or.inl rfl)) pgs_nil)))) (fun _ _ _ _ _ => (pts_one (PW.pt (pw_and (pt_cmpR op_eq (pv 5) (pv 4) (nomark _)) (pw_and1 (pt_cmpR (op_notInD (hu65 hr)) (pv 6) (pv 2) rfl)))))) (fun _ _ _ _ _ => (pv 6))) pa_nil)) pa_nil)))
    (pss_one (ps_set (i := 3) sc_law_reached.nd rfl (Or.inl rfl) (pe_op op_add (pv 3) pe_int))))))
    (pss_one (ps_ret (pv 2))))), ?_⟩
  have z1 := sizeLine_eq
  have lpv := hw.len
  rw [List.length_map] at lpv
  refine r_seq (r_asg ?_)
  refine ⟨_, rfl, by show 1 ≤ sizeLine; omega, fun fp hfp => ⟨by show 2 ≤ sizeLine; omega, fun tp htp => ?_⟩⟩
  have ffp : F fp = none := Same.free hF hfp
  have e1 : Ex [] F H F (upd H fp (.lst [.int st])) := Ex.new hF hfp
  have e2 : Ex [] F H F (upd (upd H fp (.lst [.int st])) tp (.tup [.ref fp, .int 0])) := e1.trans (Ex.new e1.fh htp)
  have d2 : (upd (upd H fp (.lst [.int st])) tp (.tup [.ref fp, .int 0])) fp = some (.lst (nV [st])) := by
    rw [upd_ne (ne_of_none upd_same htp), upd_same]
    rfl
  refine ⟨tp, _, rfl, SqT.of upd_same, rfl, _, _, rfl, _, _, rfl, rfl, ?_⟩
  dsimp only
  generalize (upd (upd H fp (.lst [.int st])) tp (.tup [.ref fp, .int 0])) = H2 at e2 d2
  refine r_seq ⟨fun m σ1 H3 => ∃ (L : List Nat) (i : Nat) (z : Int) (t : Option V), σ1 = [some (.int st), some (.ref pl), some (.ref fp), some (.int z), t, none, none] ∧ z = (i : Int) ∧ Ex [] F H F H3 ∧ H3 fp = some (.lst (nV L)) ∧ L.Nodup ∧ st ∈ L ∧ (∀ v ∈ L, Rch (gP ps) st v ∧ v < n) ∧ i ≤ L.length ∧
    (∀ j u, j < i → L[j]? = some u → ∀ v ∈ gP ps u, v ∈ L) ∧ m = n - i, ⟨n, [st], 0, 0, none, rfl, rfl, e2, d2, by simp, by simp, fun v hv => by
      rw [List.mem_singleton.mp hv]
      exact ⟨.refl, sn⟩, by simp, fun j u h => by omega, by omega⟩, ?_⟩
  rintro m σ1 H3 ⟨L, i, z, t, rfl, rfl, e3, d3, nd, sL, rc, iL, cl, hm⟩
  have lL := nodup_lt nd fun v hv => (rc v hv).2
  refine ⟨_, rfl, _, rfl, fp, _, rfl, .inl (SqL.of d3), _, _, rfl, rfl, _, rfl, ?_⟩
  rw [nV_len]
  by_cases hi : i < L.length
  · refine iteT' (by simpa using hi) ⟨fun σ' H' => ∃ m', m' < m ∧ _, fun _ _ h => h, ?_⟩
    have hu : L[i]? = some L[i] := by simp [hi]
    generalize L[i] = u at hu
    have uL : u ∈ L := List.mem_of_getElem? hu
    have atu : atI (nV L) (i : Int) = some (.int (u : Nat)) := by
      rw [at_toNat (by omega) (by rw [nV_len]; omega)]
      have : (nV L)[(i : Int).toNat]? = some (.int (u : Nat)) := by
        simp only [nV, Int.toNat_natCast, List.map_map, List.getElem?_map, hu]
        rfl
      rw [List.getElem?_eq_getElem (by rw [nV_len]; omega)] at this
      exact this
    refine r_seq ⟨_, rfl, _, rfl, fp, _, _, .int (u : Nat), rfl, rfl, SqL.of d3, atu, ?_⟩
    refine r_next ?_
    dsimp only
    refine r_seq (r_drop ⟨_, rfl, .inl ⟨rfl, _, SqL.of d3⟩, ?_⟩)
    refine r_cons (r_call (r_cons (lcg_list [] (fun R h => ⟨_, rfl, h⟩) hpl e3.fh (by simp) (by omega) (fun k acc _ => acc = nV (((ps.take k).filter fun p => decide (p.1 = u) && !decide (p.2 ∈ L)).map (·.2))) (fun _ _ _ => True) (fun _ _ _ _ _ q => q) (fun _ _ _ _ _ _ _ _ _ => trivial) rfl trivial ?_ ?_)))
    · intro k y acc F' H' Kk Nk hk hy e p _ _ k1 k2
      obtain ⟨pr, hpr, wpr⟩ := pws_get hw hy
      obtain ⟨q, rfl, hq⟩ := pw_wk (Wk.up e.ff wpr)
      have d4 := e.at d3
      refine ⟨q, _, rfl, SqT.of (e.fh _ _ hq), rfl, _, _, rfl, _, _, rfl, rfl, rfl, _, rfl, _, rfl, rfl, _, rfl, ?_⟩
      by_cases h1 : pr.1 = u
      · refine iteT' (by simp [h1]) ⟨_, rfl, _, rfl, .int pr.2, (L.map fun v : Nat => (v : Int)).map .int, .int _, .lst (SqL.of d4) (dp_ints _), rfl, shaped_ints _, _, rfl, ?_⟩
        rw [any_nats]
        by_cases h2 : pr.2 ∈ L
        · refine iteF' (by simp [h2]) (k2 F' H' (Ex.refl e.fh) ?_ trivial)
          rw [p, List.take_add_one, hpr]
          simp [List.filter_append, h1, h2]
        · refine iteT' (by simp [h2]) ⟨_, rfl, k1 _ F' H' (Ex.refl e.fh) ?_ trivial⟩
          rw [p, List.take_add_one, hpr]
          simp [List.filter_append, h1, h2, nV]
      · refine iteF' (by simp; omega) (iteF (k2 F' H' (Ex.refl e.fh) ?_ trivial))
        rw [p, List.take_add_one, hpr]
        simp [List.filter_append, h1]
    · intro D acc F' H' e hD fD hd' p _ _
      rw [List.take_of_length_le (by omega)] at p
      generalize hN : ((ps.filter fun p => decide (p.1 = u) && !decide (p.2 ∈ L)).map (·.2)) = new at p
      have memN : ∀ v, v ∈ new ↔ v ∈ gP ps u ∧ v ∉ L := fun v => by
        rw [← hN, List.mem_map, mem_gP]
        constructor
        · rintro ⟨p, hp, rfl⟩
          rw [List.mem_filter] at hp
          obtain ⟨h1, h2⟩ := hp
          have : p.1 = u ∧ p.2 ∉ L := by simpa using h2
          rw [← this.1]
          exact ⟨h1, this.2⟩
        · rintro ⟨h1, h2⟩
          exact ⟨_, List.mem_filter.mpr ⟨h1, by simp [h2]⟩, rfl⟩
      have lnew : new.length ≤ ps.length := by
        rw [← hN, List.length_map]
        exact List.length_filter_le _ _
      have ef := e.frz hD hd' fD
      have d4 := e.at d3
      have f4 : (upd F' D (.lst acc)) fp = none := ef.nf ffp (ne_none d3)
      have dD : (upd F' D (.lst acc)) D = some (.lst acc) := upd_same
      generalize upd F' D (.lst acc) = F2 at ef f4 dD
      refine ⟨D, acc, nW new, F2, rfl, ef.fh, dD, wks_nW.mpr p, fun k hk => ?_, by simp [nW]; omega, fun p2 ys H5 e5 _ hp2 wy => ?_⟩
      · obtain ⟨v, _, rfl⟩ := List.mem_map.mp hk
        exact ⟨rfl, Nat.zero_le _⟩
      · rw [eOnce_nW] at wy
        have ey := wks_nW.mp wy
        subst ey
        have d5 := e5.at d4
        have nd2 : (L ++ eOnce new).Nodup := by
          rw [List.nodup_append]
          refine ⟨nd, eOnce_nodup _, fun a ha b hb z => ?_⟩
          have := (memN b).mp ((eOnce_mem _ _).mp hb)
          rw [← z] at this
          exact this.2 ha
        have rc2 : ∀ v ∈ L ++ eOnce new, Rch (gP ps) st v ∧ v < n := fun v hv => by
          rcases List.mem_append.mp hv with y | y
          · exact rc v y
          · have := (memN v).mp ((eOnce_mem _ _).mp y)
            exact ⟨.step (rc u uL).1 this.1, (hlt _ (mem_gP.mp this.1)).2⟩
        have lL2 := nodup_lt nd2 fun v hv => (rc2 v hv).2
        refine ⟨fp, p2, _, _, rfl, rfl, d5, hp2, by rw [nV_len, nV_len]; rw [List.length_append] at lL2; omega, ?_⟩
        rw [← nV_app]
        have e6 : Ex [] F H F2 H5 := e3.trans (ef.trans e5)
        have e7 := e6.wr (o := .lst (nV (L ++ eOnce new))) hfp f4
        refine r_next ?_
        dsimp only
        refine ⟨_, rfl, _, _, rfl, rfl, ?_⟩
        refine ⟨n - (i + 1), by omega, L ++ eOnce new, i + 1, _, _, rfl, by simp, e7.drop, upd_same, nd2, by simp [sL], rc2, by simp; omega, fun j x hj hx v hv => ?_, rfl⟩
        by_cases hji : j < i
        · rw [List.getElem?_append_left (by omega)] at hx
          exact List.mem_append_left _ (cl j x hji hx v hv)
        · have : j = i := by omega
          subst this
          rw [List.getElem?_append_left (by omega), hu] at hx
          cases hx
          by_cases hvL : v ∈ L
          · exact List.mem_append_left _ hvL
          · exact List.mem_append_right _ ((eOnce_mem _ _).mpr ((memN v).mpr ⟨hv, hvL⟩))
  · have ei : i = L.length := by omega
    refine iteF' (by simpa using hi) ?_
    dsimp only
    refine ⟨_, rfl, kk fp L H3 e3 hfp d3 nd (fun v => ⟨fun hv => (rc v hv).1, fun hv => Rch.sub sL (fun x hx w hw => ?_) hv⟩) fun v hv => (rc v hv).2⟩
    obtain ⟨j, hj⟩ := List.getElem?_of_mem hx
    exact cl j x (by rw [ei]; exact (List.getElem?_eq_some_iff.mp hj).1) hj w hw
end
end T3

namespace T3
open PySem PySem.Spec PyProof.Rows L2 Ly
section
variable {P : Program} {w : World} {K : PySem.W.Frag} {mg : Str → Option Value} {base : Heap}
def ap (rs : List Rd) : List (Nat × Nat) := rs.map fun r => (r.a, r.b)
def bp (ps : List (Nat × Nat)) : List (Nat × Nat) := ps.map fun p => (p.2, p.1)
theorem rch_all {rs : List Rd} {s v : Nat} : Rch (gP (ap rs ++ bp (ap rs))) s v ↔ Rch (gAll rs) s v := by
  have key : ∀ u v, v ∈ gP (ap rs ++ bp (ap rs)) u ↔ v ∈ gAll rs u := fun u v => by
    rw [mem_gP, mem_gAll, List.mem_append]
    constructor
    · rintro (h | h)
      · obtain ⟨r, hr, e⟩ := List.mem_map.mp h
        cases e
        exact ⟨r, hr, .inl ⟨rfl, rfl⟩⟩
      · obtain ⟨p, hp, e⟩ := List.mem_map.mp h
        cases e
        obtain ⟨r, hr, rfl⟩ := List.mem_map.mp hp
        exact ⟨r, hr, .inr ⟨rfl, rfl⟩⟩
    · rintro ⟨r, hr, ⟨rfl, rfl⟩ | ⟨rfl, rfl⟩⟩
      · exact .inl (List.mem_map.mpr ⟨r, hr, rfl⟩)
      · exact .inr (List.mem_map.mpr ⟨(r.a, r.b), List.mem_map.mpr ⟨r, hr, rfl⟩, rfl⟩)
  exact ⟨Rch.mono fun u v h => (key u v).mp h, Rch.mono fun u v h => (key u v).mpr h⟩
theorem rch_out {rs : List Rd} {s v : Nat} : Rch (gP (ap rs)) s v ↔ Rch (gOut rs) s v := by
  have key : ∀ u v, v ∈ gP (ap rs) u ↔ v ∈ gOut rs u := fun u v => by
    rw [mem_gP, mem_gOut]
    constructor
    · intro h
      obtain ⟨r, hr, e⟩ := List.mem_map.mp h
      cases e
      exact ⟨r, hr, rfl, rfl⟩
    · rintro ⟨r, hr, rfl, rfl⟩
      exact List.mem_map.mpr ⟨r, hr, rfl⟩
  exact ⟨Rch.mono fun u v h => (key u v).mp h, Rch.mono fun u v h => (key u v).mpr h⟩
theorem gIn_back {rs : List Rd} {u v : Nat} : v ∈ gOut rs u ↔ u ∈ gIn rs v := by
  rw [mem_gOut, mem_gIn]
  constructor <;> rintro ⟨r, hr, h1, h2⟩ <;> exact ⟨r, hr, h2, h1⟩
theorem strong_iff {rs : List Rd} {n : Nat} (h0 : 0 < n) : ((∀ v, v < n → Rch (gOut rs) 0 v) ∧ ∀ v, v < n → Rch (gIn rs) 0 v) ↔ ∀ j, j < n → ∀ v, v < n → Rch (gOut rs) j v := by
  constructor
  · rintro ⟨h1, h2⟩ j hj v hv
    exact (Rch.back (fun u v h => gIn_back.mpr h) (h2 j hj)).trans (h1 v hv)
  · intro h
    exact ⟨h 0 h0, fun v hv => Rch.back (fun u v h => gIn_back.mp h) (h v hv 0 h0)⟩
theorem gAll_perm {rs ss : List Rd} (h : rs.Perm ss) {s v : Nat} (a : Rch (gAll rs) s v) : Rch (gAll ss) s v := a.mono fun u v q => by
  rw [mem_gAll] at q ⊢
  obtain ⟨r, hr, z⟩ := q
  exact ⟨r, h.mem_iff.mp hr, z⟩
theorem gOut_perm {rs ss : List Rd} (h : rs.Perm ss) {s v : Nat} (a : Rch (gOut rs) s v) : Rch (gOut ss) s v := a.mono fun u v q => by
  rw [mem_gOut] at q ⊢
  obtain ⟨r, hr, z⟩ := q
  exact ⟨r, h.mem_iff.mp hr, z⟩
theorem gIn_perm {rs ss : List Rd} (h : rs.Perm ss) {s v : Nat} (a : Rch (gIn rs) s v) : Rch (gIn ss) s v := a.mono fun u v q => by
  rw [mem_gIn] at q ⊢
  obtain ⟨r, hr, z⟩ := q
  exact ⟨r, h.mem_iff.mp hr, z⟩
theorem tw_perm {rs ss : List Rd} (h : rs.Perm ss) : tw rs = tw ss := by
  unfold tw
  have h1 : decide ((eOnce (rs.map Rd.ew)).length = rs.length) = decide ((eOnce (ss.map Rd.ew)).length = ss.length) := by
    congr 1
    apply propext
    have a := eOnce_self (rs.map Rd.ew)
    have b := eOnce_self (ss.map Rd.ew)
    rw [List.length_map] at a b
    rw [a, b]
    exact (h.map Rd.ew).nodup_iff
  have h2 : (rs.all fun r => decide (r.rev ∈ rs)) = ss.all fun r => decide (r.rev ∈ ss) := by
    rw [Bool.eq_iff_iff]
    simp only [List.all_eq_true, decide_eq_true_eq]
    constructor
    · intro q r hr
      exact h.mem_iff.mp (q r (h.mem_iff.mpr hr))
    · intro q r hr
      exact h.mem_iff.mpr (q r (h.mem_iff.mp hr))
  rw [h1, h2]
def spAllRight (K : PySem.W.Frag) : Sp := fun vs H Q _ => ∃ (x : V) (sa ra : Addr) (svs rvs : List V) (sg : List W) (rs rs0 : List Rd) (F : Hp), vs = [x, .ref sa, .ref ra] ∧ Same F H ∧ NetF (He.ga K "Net") F sg rs x ∧ F sa = some (.lst svs) ∧ svs.length = sg.length ∧ F ra = some (.lst rvs) ∧ Rds F rs0 rvs ∧
  rs.Perm rs0 ∧ ∀ H', Ex [] F H F H' → Q (.bl true) H'
theorem ok_all_right (T : Top K mg) : Ok P w K mg base "_law_all_right" 4 ["_law_net", "_law_signs", "_law_roads"] (spAllRight K) := by
  have G_law_reached : Ok P w K mg base "_law_reached" 2 ["_law_start_here", "_law_pairs"] spLawReached := ok_law_reached T
  have G_law_is_two_way : Ok P w K mg base "_law_is_two_way" 2 ["_law_roads"] spLawIsTwoWay := ok_law_is_two_way T
  have G_is_two_way : Ok P w K mg base "is_two_way" 1 ["net"] (spIsTwoWay K) := ok_is_two_way T
  have G_is_joined : Ok P w K mg base "is_joined" 3 ["net"] (spIsJoined K) := ok_is_joined T
  have G_is_strong : Ok P w K mg base "is_strong" 3 ["net"] (spIsStrong K) := ok_is_strong T
  have G_same : Ok P w K mg base "_law_same" 2 ["_law_found", "_law_due"] spSame2 := ok_same2 T
  refine ok_of T.g__law_all_right T.F_law_all_right sc_law_all_right (fun _ _ _ _ _ _ us hl => match us, hl with | [_, _, _], _ => rfl) (fun vs H Q E h => ?_) (fun cdv A outer s H vs Q E hr h => ?_)
  · first | (obtain ⟨rfl, _⟩ := h; rfl) | (obtain ⟨_, rfl, _⟩ := h; rfl) | (obtain ⟨_, _, rfl, _⟩ := h; rfl) | (obtain ⟨_, _, _, rfl, _⟩ := h; rfl) | (obtain ⟨_, _, _, _, rfl, _⟩ := h; rfl) | (obtain ⟨_, _, _, _, _, rfl, _⟩ := h; rfl) | (obtain ⟨_, _, _, _, _, _, rfl, _⟩ := h; rfl) | (obtain ⟨_, _, _, _, _, _, _, rfl, _⟩ := h; rfl) | (obtain ⟨_, _, _, _, _, _, _, _, rfl, _⟩ := h; rfl) | (obtain ⟨_, _, _, _, _, _, _, _, _, rfl, _⟩ := h; rfl) | (obtain ⟨_, _, _, _, _, _, _, _, _, _, rfl, _⟩ := h; rfl) | (obtain ⟨_, _, _, _, _, _, _, _, _, _, _, rfl, _⟩ := h; rfl)
  obtain ⟨x, sa, ra, svs, rvs, sg, rs, rs0, F, rfl, hF, n, hsa, lsv, hra, hrs, pm, kk⟩ := h
  refine ⟨_, (pss_cons (ps_set (i := 3) sc_law_all_right.nd rfl (Or.inr rfl) (pe_lc (own := [("_law_road", 4)]) (g := (gName 4)) (tt := tYes) (te := (tTup (tCons (tOp (rIxT K) (tVar 4) (tC (.int 0))) (tCons (tOp (rIxT K) (tVar 4) (tC (.int 1))) tNil)))) rfl sc_law_all_right.nd (pi_list (pv 2)) (blkOk_by (own := [("_law_road", 4)]) (N := N_law_all_right) (sc := defScope s_law_all_right) (by decide +kernel)) (fun _ _ _ _ _ => (pg_name (i := 4) sc_law_all_right.nd rfl (Or.inl rfl))) (fun _ _ _ _ _ => pts_nil) (fun _ _ _ _ _ => (pe_tup (pa_cons (pe_ix ix_tup (pv 4) pe_int (fun _ _ => rfl)) (pa_cons (pe_ix ix_tup (pv 4) pe_int (fun _ _ => rfl)) pa_nil))))))
    (pss_cons (ps_setLc (i := 5) (own := [("_law_one", 6), ("_law_other", 7)]) (g := (gTup K 2 (gCons (gName 6) (gCons (gName 7) gNil)))) (tt := tYes) (te := (tTup (tCons (tVar 7) (tCons (tVar 6) tNil)))) rfl sc_law_all_right.nd rfl rfl (sw_true rfl rfl rfl (by decide +kernel)) (pi_list (pv 3)) (blkOk_by (own := [("_law_one", 6), ("_law_other", 7)]) (N := N_law_all_right) (sc := defScope s_law_all_right) (by decide +kernel)) (fun _ _ _ _ _ => (pg_tup rfl (pgs_cons (pg_name (i := 6) sc_law_all_right.nd rfl (Or.inl rfl)) (pgs_cons (pg_name (i := 7) sc_law_all_right.nd rfl (Or.inl rfl)) pgs_nil)))) (fun _ _ _ _ _ => pts_nil) (fun _ _ _ _ _ => (pe_tup (pa_cons (pv 7) (pa_cons (pv 6) pa_nil)))))
    (pss_cons (ps_set (i := 8) sc_law_all_right.nd rfl (Or.inl rfl) (pe_cmpR op_eq (pe_callB call_len_seq rfl T.b_len (by decide +kernel) (pa_cons (pe_ok G_law_reached hr (pa_cons pe_int (pa_cons (pe_op op_cat (pv 3) (pv 5)) pa_nil))) pa_nil)) (pe_callB call_len_seq rfl T.b_len (by decide +kernel) (pa_cons (pv 1) pa_nil)) (nomark _)))
    (pss_cons (ps_set (i := 9) sc_law_all_right.nd rfl (Or.inl rfl) (pe_callB (cr_all rfl) rfl T.b_all (by decide +kernel) (pa_cons (pe_lc (own := [("_law_place", 10)]) (g := (gName 10)) (tt := tYes) (te := (tOp rEq (tCB (RLen K) (tCons (tCall spLawReached [] E0 (tCons (tVar 10) (tCons (tVar 3) tNil))) tNil)) (tCB (RLen K) (tCons (tVar 1) tNil)))) rfl sc_law_all_right.nd (pi_range1 rfl T.b_range (pa_cons (pe_callB call_len_seq rfl T.b_len (by decide +kernel) (pa_cons (pv 1) pa_nil)) pa_nil)) (blkOk_by (own := [("_law_place", 10)]) (N := N_law_all_right) (sc := defScope s_law_all_right) (by decide +kernel)) (fun _ _ _ _ _ => (pg_name (i := 10) sc_law_all_right.nd rfl (Or.inl rfl))) (fun _ _ _ _ _ => pts_nil) (fun _ _ _ _ _ => (pe_cmpR op_eq (pe_callB call_len_seq rfl T.b_len (by decide +kernel) (pa_cons (pe_ok G_law_reached hr (pa_cons (pv 10) (pa_cons (pv 3) pa_nil))) pa_nil)) (pe_callB call_len_seq rfl T.b_len (by decide +kernel) (pa_cons (pv 1) pa_nil)) (nomark _)))) pa_nil)))
    (pss_one (ps_ret (pe_ok G_same hr (pa_cons (pe_lst (pa_cons (pe_ok G_is_two_way hr (pa_cons (pv 0) pa_nil)) (pa_cons (pe_ok G_is_joined hr (pa_cons (pv 0) pa_nil)) (pa_cons (pe_ok G_is_strong hr (pa_cons (pv 0) pa_nil)) pa_nil)))) (pa_cons (pe_lst (pa_cons (pe_ok G_law_is_two_way hr (pa_cons (pv 2) pa_nil)) (pa_cons (pv 8) (pa_cons (pv 9) pa_nil)))) pa_nil))))))))), ?_⟩
  have z1 := sizeLine_eq
  have m1 := Rds.len hrs
  have m2 := n.rsm
  have m3 := n.sml
  have m0 := n.pos
  have m4 := pm.length_eq
  have ok0 : ∀ r ∈ rs0, r.OkN sg.length := fun r hr => n.rok r (pm.mem_iff.mpr hr)
  -- ahead
  refine r_seq (r_asg (lcg_list [] (fun R h => ⟨_, rfl, h⟩) hra hF (by simp) (by omega) (fun k acc F => Wks F (((ap rs0).map pw).take k) acc) (fun _ _ _ => True) (fun _ _ _ _ h q => Wks.up h q) (fun _ _ _ _ _ _ _ _ _ => trivial) (by simp; exact Wks.nil) trivial ?_ ?_))
  · intro i y acc F' H' Kk Nk hi hy e p _ _ k1 _
    obtain ⟨r, hr', wr⟩ := Rds.get hrs hy
    obtain ⟨q, vo, vi, rfl, hq, wo, wi⟩ := Rd.wk (Wk.up e.ff wr)
    refine ⟨rfl, _, rfl, q, _, 0, _, rfl, rfl, SqT.of (e.fh _ _ hq), rfl, _, rfl, q, _, 1, _, rfl, rfl, SqT.of (e.fh _ _ hq), rfl, by show 2 ≤ sizeLine; omega, fun p2 hp2 => ?_⟩
    refine k1 _ (upd F' p2 (.tup [.int r.a, .int r.b])) _ (Ex.newF e.fh hp2) ?_ trivial
    have : Wk (upd F' p2 (.tup [.int r.a, .int r.b])) (pw (r.a, r.b)) (.ref p2) := wk_new (Same.free e.fh hp2) (.cons (wk_num.mpr rfl) (.one (wk_num.mpr rfl)))
    exact wks_take_snoc (p.up (Same.upd (Same.free e.fh hp2))) (by simp [ap, hr']) this
  intro D1 acc F' H' e hD fD hd' p _ _
  rw [List.take_of_length_le (by simp [ap]; omega)] at p
  have e1 := e.frz hD hd' fD
  have w1 := p.up (Same.upd (o := .lst acc) fD)
  have d1 : (upd F' D1 (.lst acc)) D1 = some (.lst acc) := upd_same
  generalize upd F' D1 (.lst acc) = F1 at e1 w1 d1
  have l1 := w1.len
  refine r_next ?_
  dsimp only
  -- behind
  refine r_seq (r_asg (lcg_list [] (fun R h => ⟨_, rfl, h⟩) d1 e1.fh (by simp) (by simp [ap] at l1; omega) (fun k acc F => Wks F (((bp (ap rs0)).map pw).take k) acc) (fun _ _ _ => True) (fun _ _ _ _ h q => Wks.up h q) (fun _ _ _ _ _ _ _ _ _ => trivial) (by simp; exact Wks.nil) trivial ?_ ?_))
  · intro i y acc F' H' Kk Nk hi hy e p _ _ k1 _
    obtain ⟨pr, hpr, wpr⟩ := pws_get w1 hy
    obtain ⟨q, rfl, hq⟩ := pw_wk (Wk.up e.ff wpr)
    refine ⟨q, _, rfl, SqT.of (e.fh _ _ hq), rfl, _, _, rfl, _, _, rfl, rfl, rfl, _, rfl, _, rfl, by show 2 ≤ sizeLine; omega, fun p2 hp2 => ?_⟩
    refine k1 _ (upd F' p2 (.tup [.int pr.2, .int pr.1])) _ (Ex.newF e.fh hp2) ?_ trivial
    have : Wk (upd F' p2 (.tup [.int pr.2, .int pr.1])) (pw (pr.2, pr.1)) (.ref p2) := wk_new (Same.free e.fh hp2) (.cons (wk_num.mpr rfl) (.one (wk_num.mpr rfl)))
    exact wks_take_snoc (p.up (Same.upd (Same.free e.fh hp2))) (by simp only [bp, List.map_map, List.getElem?_map, hpr]; rfl) this
  intro D2 acc2 F2' H2 e' hD2 fD2 hd2 p2 _ _
  have l0 : (ap rs0).length = rs0.length := by simp [ap]
  rw [List.take_of_length_le (by simp [bp, ap] at l1 ⊢; omega)] at p2
  have e2 := e'.frz hD2 hd2 fD2
  have w2 := p2.up (Same.upd (o := .lst acc2) fD2)
  have d2 : (upd F2' D2 (.lst acc2)) D2 = some (.lst acc2) := upd_same
  generalize upd F2' D2 (.lst acc2) = F2 at e2 w2 d2
  have l2 := w2.len
  have E2 := e1.trans e2
  have d12 := e2.ff _ _ d1
  have w12 := w1.up e2.ff
  have la : acc.length = rs0.length := by rw [l1]; simp [ap]
  have lb : acc2.length = rs0.length := by rw [l2]; simp [bp, ap]
  refine r_next ?_
  dsimp only
  have okA : ∀ p ∈ ap rs0, p.1 < sg.length ∧ p.2 < sg.length := fun p hp => by
    obtain ⟨r, hr, rfl⟩ := List.mem_map.mp hp
    exact ⟨(ok0 r hr).ha, (ok0 r hr).hb⟩
  have okAB : ∀ p ∈ ap rs0 ++ bp (ap rs0), p.1 < sg.length ∧ p.2 < sg.length := fun p hp => by
    rcases List.mem_append.mp hp with z | z
    · exact okA p z
    · obtain ⟨q, hq, rfl⟩ := List.mem_map.mp z
      exact ⟨(okA q hq).2, (okA q hq).1⟩
  -- joined
  refine r_seq (r_asg ⟨_, rfl, _, rfl, D1, D2, _, _, rfl, rfl, E2.fh _ _ d12, E2.fh _ _ d2, by omega, fun p3 hp3 => ?_⟩)
  have e3 : Ex [] F2 H2 (upd F2 p3 (.lst (acc ++ acc2))) (upd H2 p3 (.lst (acc ++ acc2))) := Ex.newF E2.fh hp3
  have d3 : (upd F2 p3 (.lst (acc ++ acc2))) p3 = some (.lst (acc ++ acc2)) := upd_same
  have w3 : Wks (upd F2 p3 (.lst (acc ++ acc2))) ((ap rs0 ++ bp (ap rs0)).map pw) (acc ++ acc2) := by
    rw [List.map_append]
    exact (w12.up e3.ff).app (w2.up e3.ff)
  generalize upd F2 p3 (.lst (acc ++ acc2)) = F3 at e3 d3 w3
  refine ⟨0, sg.length, p3, acc ++ acc2, ap rs0 ++ bp (ap rs0), F3, rfl, e3.fh, d3, w3, okAB, m0, by omega, by simp [ap, bp]; omega, fun p4 L H4 e4 _ hp4 nd mem lt => ?_⟩
  have E4 : Ex [] F H F3 H4 := E2.trans (e3.trans e4)
  have hsa4 := E4.fh _ _ (E4.ff _ _ hsa)
  refine ⟨p4, _, rfl, .inl (SqL.of hp4), _, rfl, sa, svs, rfl, .inl (SqL.of hsa4), rfl, ?_⟩
  have cj : (decide (V.int ((nV L).length : Nat) = V.int (svs.length : Nat)) = true) ↔ ∀ v, v < sg.length → Rch (gAll rs) 0 v := by
    rw [nV_len, lsv]
    have := full_iff nd lt
    simp only [decide_eq_true_eq, V.int.injEq]
    rw [show ((L.length : Int) = (sg.length : Int)) ↔ L.length = sg.length by omega, this]
    constructor
    · intro h v hv
      exact gAll_perm pm.symm (rch_all.mp ((mem v).mp (h v hv)))
    · intro h v hv
      exact (mem v).mpr (rch_all.mpr (gAll_perm pm (h v hv)))
  generalize decide (V.int ((nV L).length : Nat) = V.int (svs.length : Nat)) = bj at cj
  refine r_next ?_
  dsimp only
  -- strong
  have d14 := e3.ff _ _ d12
  have w14 := w12.up e3.ff
  refine r_seq (r_asg (r_cb (r_cons (lcg_rng (n := sg.length) [] (fun R h => ⟨_, rfl, sa, svs, rfl, .inl (SqL.of hsa4), by rw [lsv]; exact h⟩) E4.fh (by simp) (by omega) (fun k acc _ => ∃ bs : List Bool, acc = bs.map .bl ∧ (bs.all id = true ↔ ∀ j, j < k → ∀ v, v < sg.length → Rch (gOut rs) j v)) (fun _ _ _ => True) (fun _ _ _ _ _ q => q) (fun _ _ _ _ _ _ _ _ _ => trivial) ⟨[], rfl, by simp⟩ trivial ?_ ?_))))
  · rintro k acc3 F' H' Kk Nk hk e ⟨bs, rfl, hbs⟩ _ _ k1 _
    refine ⟨rfl, _, rfl, _, rfl, k, sg.length, D1, acc, ap rs0, F', rfl, e.fh, e.ff _ _ d14, w14.up e.ff, okA, hk, by omega, by simp [ap]; omega, fun p5 L5 H5 e5 _ hp5 nd5 mem5 lt5 => ?_⟩
    refine ⟨p5, _, rfl, .inl (SqL.of hp5), _, rfl, sa, svs, rfl, .inl (SqL.of (e5.fh _ _ (e.ff _ _ (E4.ff _ _ hsa)))), rfl, k1 _ F' H5 e5 ⟨bs ++ [decide (V.int ((nV L5).length : Nat) = V.int (svs.length : Nat))], by simp, ?_⟩ trivial⟩
    have cs : (decide (V.int ((nV L5).length : Nat) = V.int (svs.length : Nat)) = true) ↔ ∀ v, v < sg.length → Rch (gOut rs) k v := by
      rw [nV_len, lsv]
      have := full_iff nd5 lt5
      simp only [decide_eq_true_eq, V.int.injEq]
      rw [show ((L5.length : Int) = (sg.length : Int)) ↔ L5.length = sg.length by omega, this]
      constructor
      · intro h v hv
        exact gOut_perm pm.symm (rch_out.mp ((mem5 v).mp (h v hv)))
      · intro h v hv
        exact (mem5 v).mpr (rch_out.mpr (gOut_perm pm (h v hv)))
    generalize decide (V.int ((nV L5).length : Nat) = V.int (svs.length : Nat)) = b5 at cs
    rw [List.all_append, Bool.and_eq_true, hbs]
    simp only [List.all_cons, List.all_nil, Bool.and_true, id]
    rw [cs]
    constructor
    · rintro ⟨h1, h2⟩ j hj v hv
      by_cases hjk : j < k
      · exact h1 j hjk v hv
      · have : j = k := by omega
        rw [this]
        exact h2 v hv
    · intro h
      exact ⟨fun j hj => h j (by omega), h k (by omega)⟩
  rintro D5 acc5 F5 H5 e5 hD5 fD5 hd5 ⟨bs, rfl, hbs⟩ _ _
  have E5 : Ex [] F H F5 H5 := E4.trans e5
  refine ⟨D5, bs, rfl, SqL.of hd5, ?_⟩
  generalize bs.all id = bst at hbs
  refine r_next ?_
  dsimp only
  -- what the net says, and what it should say
  refine r_ret (r_call (r_cons (r_lst (r_cons ⟨_, rfl, x, sg, rs, F5, rfl, E5.fh, n.up E5.ff, fun H6 e6 => ?_⟩))))
  refine ⟨_, rfl, x, sg, rs, F5, rfl, e6.fh, n.up E5.ff, fun bJ H7 e7 hJ => ?_⟩
  refine ⟨_, rfl, x, sg, rs, F5, rfl, e7.fh, n.up E5.ff, fun bS H8 e8 hS => ⟨by show 3 ≤ sizeLine; omega, fun p6 hp6 => ?_⟩⟩
  have E8 : Ex [] F H F5 H8 := E5.trans (e6.trans (e7.trans e8))
  have e9 : Ex [] F5 H8 (upd F5 p6 (.lst [.bl (tw rs), .bl bJ, .bl bS])) (upd H8 p6 (.lst [.bl (tw rs), .bl bJ, .bl bS])) := Ex.newF E8.fh hp6
  have d9 : (upd F5 p6 (.lst [.bl (tw rs), .bl bJ, .bl bS])) p6 = some (.lst [.bl (tw rs), .bl bJ, .bl bS]) := upd_same
  generalize (upd F5 p6 (.lst [.bl (tw rs), .bl bJ, .bl bS])) = F9 at e9 d9
  have E9 := E8.trans e9
  refine r_cons (r_lst (r_cons ⟨_, rfl, ra, rvs, rs0, sg.length, F9, rfl, E9.fh, E9.ff _ _ hra, Wks.up E9.ff hrs, ok0, by omega, fun H10 e10 => ⟨_, rfl, _, rfl, by show 3 ≤ sizeLine; omega, fun p7 hp7 => ?_⟩⟩))
  have E10 := E9.trans e10
  have e11 : Ex [] F9 H10 (upd F9 p7 (.lst [.bl (tw rs0), .bl bj, .bl bst])) (upd H10 p7 (.lst [.bl (tw rs0), .bl bj, .bl bst])) := Ex.newF E10.fh hp7
  have d11 : (upd F9 p7 (.lst [.bl (tw rs0), .bl bj, .bl bst])) p7 = some (.lst [.bl (tw rs0), .bl bj, .bl bst]) := upd_same
  generalize (upd F9 p7 (.lst [.bl (tw rs0), .bl bj, .bl bst])) = F11 at e11 d11
  have q1 : tw rs0 = tw rs := tw_perm pm.symm
  have q2 : bj = bJ := Bool.eq_iff_iff.mpr (cj.trans hJ.symm)
  have q3 : bst = bS := Bool.eq_iff_iff.mpr (hbs.trans ((strong_iff m0).symm.trans hS.symm))
  rw [q1, q2, q3] at d11
  refine ⟨p6, p7, [tw rs, bJ, bS], F11, rfl, e11.fh, e11.ff _ _ d9, d11, by simp, fun H12 e12 => kk H12 (E10.trans (e11.trans e12)).drop⟩
end
end T3

namespace T3
open PySem PySem.Spec PyProof.Rows L2 Ly
section
variable {P : Program} {w : World} {K : PySem.W.Frag} {mg : Str → Option Value} {base : Heap}
theorem forg_rngB {n : Nat} {g : TG} {tb : TS} {D : Ends} {σ : L2.St} {F H : Hp} (M : List Addr) (hF : Same F H) (I : Nat → L2.St → Hp → Hp → Prop) (h0 : I 0 σ F H)
    (hs : ∀ i σ1 F1 H1 (Nk : L2.St → Hp → Prop), i < n → Ex M F H F1 H1 → I i σ1 F1 H1 → (∀ σ2 F2 H2, Ex M F1 H1 F2 H2 → I (i + 1) σ2 F2 H2 → Nk σ2 H2) → g (.int (i : Nat)) σ1 H1 fun σ2 H2 => tb { D with nx := Nk, ct := Nk, bk := D.nx } σ2 H2)
    (hd : ∀ σ1 F1 H1, Ex M F H F1 H1 → I n σ1 F1 H1 → D.nx σ1 H1) :
    ∃ W : Nat → Nat → L2.St → Hp → Prop, (∃ m, W 0 m σ H) ∧ ∀ i m σ H, W i m σ H →
      ((Itr 0 (n : Int).toNat).stop i H ∧ D.nx σ H) ∨ ((Itr 0 (n : Int).toNat).go i H ∧ ∃ N : L2.St → Hp → Prop, (∀ σ' H', N σ' H' → ∃ m', m' < m ∧ W (i + 1) m' σ' H') ∧ ∀ x H', (Itr 0 (n : Int).toNat).yld i H x H' → g x σ H' fun σ2 H2 => tb { D with nx := N, ct := N, bk := D.nx } σ2 H2) := by
  have e : ((n : Int).toNat) = n := by omega
  rw [e]
  refine forg_gen walk_rg M hF (fun _ _ _ _ => trivial) I h0 (fun i x σ1 F1 H1 Nk hi hx e1 p k => ?_) hd
  obtain ⟨_, rfl⟩ := rgL_get hx
  have := hs i σ1 F1 H1 Nk hi e1 p k
  simpa using this
theorem Strm.fz {F F2 H H0 : Hp} {st q p : Addr} {c c0 : Int} {o : HO} (s : Strm F H st q c) (h : H0 p = none) (h1 : Strm F2 H0 st q c0) : Strm (upd F p o) H st q c := by
  obtain ⟨a, b, _, _⟩ := h1.hs
  obtain ⟨_, _, c1, c2⟩ := s.hs
  refine s.up ?_ ?_
  · rw [upd_ne]
    · exact c1
    · rintro rfl
      exact a h
  · rw [upd_ne]
    · exact c2
    · rintro rfl
      exact b h
theorem jstep {st q : Addr} {c0 : Int} {f : Nat → Int} {F0 H : Hp} (s0 : Strm F0 H st q c0) : ∀ N k F1 H1 F2 H2, (∀ p ∈ N, H p = none) → Ex N F1 H1 F2 H2 → Strm F1 H1 st q (f k) → Strm F2 H2 st q (f k) := fun N k F1 H1 F2 H2 hN e s => by
  obtain ⟨a, b, _, _⟩ := s0.hs
  exact s.ex e (fun z => a (hN _ z)) (fun z => b (hN _ z))
def spNSigns : Sp := fun vs H Q _ => ∃ (st q : Addr) (many : Nat) (F : Hp) (c : Int), vs = [.ref st, .int many] ∧ Same F H ∧ Strm F H st q c ∧ many < 500 ∧ c < 900000000 ∧
  ∀ p ys sg F' H', Ex [st, q] F H F' H' → Strm F' H' st q (c + 1000) → F' p = some (.lst ys) → Wks F' sg ys → (∀ k ∈ sg, Wok k) → sg.length = many → Q (.ref p) H'
theorem ok_n_signs (T : Top K mg) : Ok P w K mg base "_law_n_signs" 3 ["_law_stream", "_law_many"] spNSigns := by
  have G_pick : Ok P w K mg base "_law_pick" 2 ["_law_stream", "_law_some"] spPick := ok_law_pick T
  refine ok_of T.g__law_n_signs T.F_law_n_signs sc_law_n_signs (fun _ _ _ _ _ _ us hl => match us, hl with | [_, _], _ => rfl) (fun vs H Q E h => ?_) (fun cdv A outer s H vs Q E hr h => ?_)
  · first | (obtain ⟨rfl, _⟩ := h; rfl) | (obtain ⟨_, rfl, _⟩ := h; rfl) | (obtain ⟨_, _, rfl, _⟩ := h; rfl) | (obtain ⟨_, _, _, rfl, _⟩ := h; rfl) | (obtain ⟨_, _, _, _, rfl, _⟩ := h; rfl) | (obtain ⟨_, _, _, _, _, rfl, _⟩ := h; rfl) | (obtain ⟨_, _, _, _, _, _, rfl, _⟩ := h; rfl) | (obtain ⟨_, _, _, _, _, _, _, rfl, _⟩ := h; rfl) | (obtain ⟨_, _, _, _, _, _, _, _, rfl, _⟩ := h; rfl) | (obtain ⟨_, _, _, _, _, _, _, _, _, rfl, _⟩ := h; rfl) | (obtain ⟨_, _, _, _, _, _, _, _, _, _, rfl, _⟩ := h; rfl) | (obtain ⟨_, _, _, _, _, _, _, _, _, _, _, rfl, _⟩ := h; rfl)
  obtain ⟨st, q, many, F, c, rfl, hF, hS, hm, hc, kk⟩ := h
  refine ⟨_, (pss_cons (ps_set (i := 2) sc_law_n_signs.nd rfl (Or.inr rfl) (pe_ok G_pick hr (pa_cons (pv 0) (pa_cons (pe_lst (pa_cons (pe_lst (pa_cons pe_str pa_nil)) (pa_cons (pe_lst (pa_cons pe_str (pa_cons pe_str pa_nil))) (pa_cons (pe_lst (pa_cons pe_str (pa_cons pe_str (pa_cons pe_int pa_nil)))) (pa_cons (pe_lst (pa_cons pe_str (pa_cons (pe_tup (pa_cons pe_str pa_nil)) (pa_cons (pe_tup pa_nil) pa_nil)))) (pa_cons (pe_lst (pa_cons pe_int (pa_cons pe_int pa_nil))) pa_nil)))))) pa_nil))))
    (pss_one (ps_ret (pe_lc (own := [("_law_k", 3)]) (g := (gName 3)) (tt := tYes) (te := (tCall spPick [] E0 (tCons (tVar 0) (tCons (tVar 2) tNil)))) rfl sc_law_n_signs.nd (pi_range1 rfl T.b_range (pa_cons (pv 1) pa_nil)) (blkOk_by (own := [("_law_k", 3)]) (N := N_law_n_signs) (sc := defScope s_law_n_signs) (by decide +kernel)) (fun _ _ _ _ _ => (pg_name (i := 3) sc_law_n_signs.nd rfl (Or.inl rfl))) (fun _ _ _ _ _ => pts_nil) (fun _ _ _ _ _ => (pe_ok G_pick hr (pa_cons (pv 0) (pa_cons (pv 2) pa_nil)))))))), ?_⟩
  have z1 := sizeLine_eq
  refine r_seq (r_asg (r_call (r_cons ⟨_, rfl, r_cons ?_⟩)))
  refine ev_ll (d := 1) (evl_cons (ev_cons ev_str ev_nil) (evl_cons (ev_cons ev_str (ev_cons ev_str ev_nil)) (evl_cons (ev_cons ev_str (ev_cons ev_str (ev_cons (ev_int _) ev_nil))) (evl_cons (ev_cons ev_str (ev_cons (ev_tup (ev_cons ev_str ev_nil)) (ev_cons (ev_tup ev_nil) ev_nil))) (evl_cons (ev_cons (ev_int _) (ev_cons (ev_int _) ev_nil)) evl_nil))))) hF fun a xs F1 H1 e1 ha hl hx => ?_
  refine ⟨st, q, a, xs, F1, c, rfl, e1.fh, hS.ex0 e1, ha, by omega, by omega, by omega, fun v H2 hv e2 s2 => ?_⟩
  obtain ⟨b, ws, rfl, hb, hb0, hb1, hbw⟩ := hx v hv
  have E2 : Ex [st, q] F H F1 H2 := (e1.mono (by simp)).trans e2
  have hs := hS.hs
  refine r_next ?_
  dsimp only
  refine r_ret (lcg_rng (n := many) [st, q] (fun R h => ⟨_, rfl, h⟩) e2.fh (fun p hp => by
    have h2 := s2.hs
    rcases List.mem_cons.mp hp with z | z
    · rw [z]; exact h2.1
    · rw [List.mem_singleton.mp z]; exact h2.2.1) (by omega) (fun k acc F => acc.length = k ∧ ∀ x ∈ acc, okW F 1 x) (fun k F H => Strm F H st q (c + 1 + (k : Nat))) (fun _ _ _ _ h q => ⟨q.1, fun x hx => (q.2 x hx).up h⟩) (jstep (f := fun k => c + 1 + (k : Nat)) s2) ⟨rfl, by simp⟩ (by simpa using s2) ?_ ?_)
  · intro k acc F' H' Kk Nk hk e p s3 _ k1 _
    refine ⟨rfl, _, rfl, _, rfl, st, q, b, ws, F', c + 1 + (k : Nat), rfl, e.fh, s3, e.ff _ _ hb, hb0, by omega, by omega, fun v H4 hv4 e4 s4 => k1 v F' H4 e4 ⟨by simp [p.1], fun x hx => ?_⟩ (by
      have : c + 1 + ((k + 1 : Nat) : Int) = c + 1 + (k : Nat) + 1 := by omega
      rw [this]
      exact s4)⟩
    rcases List.mem_append.mp hx with z | z
    · exact p.2 x z
    · rw [List.mem_singleton.mp z]
      exact (hbw v hv4).up e.ff
  · intro D acc F' H' e hD fD hd' p s3 _
    obtain ⟨ks, w1, w2, w3⟩ := okWs_words p.2
    have ef := e.frz hD hd' fD
    have le : Same F' (upd F' D (.lst acc)) := Same.upd fD
    exact kk D acc ks _ H' (E2.trans ef) ((s3.fz hD s2).le (by omega)) upd_same (w1.up le) (fun k hk => ⟨(w3 k hk).1, (w3 k hk).2.1, by have := (w3 k hk).2.2; omega⟩) (by rw [w2, p.1])
theorem wok_text {s : Str} (h : PyData.canLay0 (.str s) = true := by decide +kernel) : Wok (.text s) := ⟨rfl, h, Nat.zero_le _⟩
def spNRow : Sp := fun vs H Q _ => ∃ (st q : Addr) (many : Nat) (F : Hp) (c : Int), vs = [.ref st, .int many] ∧ Same F H ∧ Strm F H st q c ∧ 0 < many ∧ many < 50 ∧ c < 900000000 ∧
  ∀ v F' H', Ex [st, q] F H F' H' → Strm F' H' st q (c + 1000) → RL 100 F' many v → Q v H'
theorem ok_n_row (T : Top K mg) : Ok P w K mg base "_law_n_row" 3 ["_law_stream", "_law_many"] spNRow := by
  have G_draw : Ok P w K mg base "_law_draw" 1 ["_law_stream", "_law_many"] spDraw := ok_law_draw T
  have G_mixed : Ok P w K mg base "_law_mixed" 2 ["_law_stream", "_law_some"] spMixed := ok_law_mixed T
  refine ok_of T.g__law_n_row T.F_law_n_row sc_law_n_row (fun _ _ _ _ _ _ us hl => match us, hl with | [_, _], _ => rfl) (fun vs H Q E h => ?_) (fun cdv A outer s H vs Q E hr h => ?_)
  · first | (obtain ⟨rfl, _⟩ := h; rfl) | (obtain ⟨_, rfl, _⟩ := h; rfl) | (obtain ⟨_, _, rfl, _⟩ := h; rfl) | (obtain ⟨_, _, _, rfl, _⟩ := h; rfl) | (obtain ⟨_, _, _, _, rfl, _⟩ := h; rfl) | (obtain ⟨_, _, _, _, _, rfl, _⟩ := h; rfl) | (obtain ⟨_, _, _, _, _, _, rfl, _⟩ := h; rfl) | (obtain ⟨_, _, _, _, _, _, _, rfl, _⟩ := h; rfl) | (obtain ⟨_, _, _, _, _, _, _, _, rfl, _⟩ := h; rfl) | (obtain ⟨_, _, _, _, _, _, _, _, _, rfl, _⟩ := h; rfl) | (obtain ⟨_, _, _, _, _, _, _, _, _, _, rfl, _⟩ := h; rfl) | (obtain ⟨_, _, _, _, _, _, _, _, _, _, _, rfl, _⟩ := h; rfl)
  obtain ⟨st, q, many, F, c, rfl, hF, hS, hm0, hm, hc, kk⟩ := h
  refine ⟨_, (pss_cons (ps_set (i := 2) sc_law_n_row.nd rfl (Or.inl rfl) (pe_ifExp (pt_cmpR op_eq (pe_ok G_draw hr (pa_cons (pv 0) (pa_cons pe_int pa_nil))) pe_int (nomark _)) (pv 1) (pe_op op_sub (pv 1) pe_int)))
    (pss_cons (ps_set (i := 3) sc_law_n_row.nd rfl (Or.inr rfl) (pe_ok G_mixed hr (pa_cons (pv 0) (pa_cons (pe_listRg rfl rfl T.b_list (prg_1 rfl T.b_range (pv 1))) pa_nil))))
    (pss_one (ps_ret (pe_lc (own := [("_law_k", 4)]) (g := (gName 4)) (tt := tYes) (te := (tTup (tCons (tOp (rIxL K) (tVar 3) (tVar 4)) (tCons (tOp (rIxL K) (tVar 3) (tOp RMod (tCB RInt (tCons (tOp RAdd (tVar 4) (tC (.int 1))) tNil)) (tVar 1))) (tCons (tC (.str "")) (tCons (tC (.str "")) tNil)))))) rfl sc_law_n_row.nd (pi_range1 rfl T.b_range (pa_cons (pv 2) pa_nil)) (blkOk_by (own := [("_law_k", 4)]) (N := N_law_n_row) (sc := defScope s_law_n_row) (by decide +kernel)) (fun _ _ _ _ _ => (pg_name (i := 4) sc_law_n_row.nd rfl (Or.inl rfl))) (fun _ _ _ _ _ => pts_nil) (fun _ _ _ _ _ => (pe_tup (pa_cons (pe_ix ix_list (pv 3) (pv 4) (fun _ _ => rfl)) (pa_cons (pe_ix ix_list (pv 3) (pe_op op_modN (pe_callTy call_int1 rfl T.b_int (by decide +kernel) (pa_cons (pe_op op_add (pv 4) pe_int) pa_nil)) (pv 1)) (fun _ _ => rfl)) (pa_cons pe_str (pa_cons pe_str pa_nil))))))))))), ?_⟩
  have z1 := sizeLine_eq
  refine r_seq (r_asg (r_if ?_))
  refine ⟨_, rfl, st, q, 2, F, c, rfl, hF, hS, by decide, by decide, by omega, fun d H1 d0 d1 e1 s1 => ⟨rfl, _, rfl, ?_⟩⟩
  have rest : ∀ far : Int, 0 ≤ far → far ≤ many → tSeq (tAsg (tCall spMixed [] E0 (tCons (tVar 0) (tCons (tLstRg (tRg1 (tVar 1))) tNil))) (gName 3))
      (tRet (tLc (iRng1 (tCons (tVar 2) tNil)) (gName 4) tYes (tTup (tCons (tOp (rIxL K) (tVar 3) (tVar 4)) (tCons (tOp (rIxL K) (tVar 3) (tOp RMod (tCB RInt (tCons (tOp RAdd (tVar 4) (tC (.int 1))) tNil)) (tVar 1))) (tCons (tC (.str "")) (tCons (tC (.str "")) tNil))))) [4]))
      { nx := fun _ H' => Q .non H', rt := Q } [some (.ref st), some (.int many), some (.int far), none, none] H1 := by
    intro far f0 f1
    refine r_seq (r_asg (r_call (r_cons ⟨_, rfl, r_cons ⟨_, rfl, _, rfl, RgOk.of_le (by omega) (by omega) (by omega) (by omega), fun p hp => ?_⟩⟩)))
    have e2 : Ex [] F H1 (upd F p (.lst (rgV 0 many))) (upd H1 p (.lst (rgV 0 many))) := Ex.newF e1.fh hp
    have d2 : (upd F p (.lst (rgV 0 many))) p = some (.lst (rgV 0 many)) := upd_same
    have s2 := s1.ex0 e2
    have lrg : (rgV 0 many).length = many := by rw [rgV_length]; omega
    generalize upd F p (.lst (rgV 0 many)) = F2 at e2 d2 s2
    refine ⟨st, q, p, rgV 0 many, F2, c + 1, rfl, e2.fh, s2, d2, by omega, by omega, fun p3 ys H3 pm e3 s3 hp3 hd3 fp3 => ?_⟩
    have E3 : Ex [st, q] F H F2 H3 := e1.trans ((e2.mono (by simp)).trans e3)
    have lys : ys.length = many := by rw [pm.length_eq, lrg]
    have yin : ∀ j, j < many → ∃ x : Nat, x < many ∧ atI ys (j : Int) = some (.int (x : Nat)) := fun j hj => by
      have hj2 : j < ys.length := by omega
      have hm2 : ys[j] ∈ rgV 0 many := pm.mem_iff.mp (List.getElem_mem hj2)
      unfold rgV at hm2
      obtain ⟨x, hx, ex⟩ := List.mem_map.mp hm2
      have hx2 := List.mem_range.mp hx
      refine ⟨x, by omega, ?_⟩
      rw [at_toNat (by omega) (by simpa using hj2)]
      have : ys[(j : Int).toNat] = ys[j] := by simp
      rw [this, ← ex]
      simp
    refine r_next ?_
    dsimp only
    obtain ⟨fn, rfl⟩ : ∃ fn : Nat, far = fn := ⟨far.toNat, by omega⟩
    refine r_ret (lcg_rng (n := fn) [] (fun R h => ⟨_, rfl, h⟩) E3.fh (by simp) (by omega) (fun k acc F => ∃ rs, Rds F rs acc ∧ (∀ r ∈ rs, r.OkN many) ∧ rs.length = k) (fun _ _ _ => True) (fun _ _ _ _ h q => by
      obtain ⟨rs, a, b⟩ := q
      exact ⟨rs, Wks.up h a, b⟩) (fun _ _ _ _ _ _ _ _ _ => trivial) ⟨[], Wks.nil, by simp, rfl⟩ trivial ?_ ?_)
    · rintro k acc F' H' Kk Nk hk e ⟨rs, w1, w2, w3⟩ _ _ k1 _
      obtain ⟨x1, b1, g1⟩ := yin k (by omega)
      have m0 : ((many : Nat) : Int) ≠ 0 := by omega
      have r1 := Int.fmod_nonneg_of_pos ((k : Nat) + 1 : Int) (b := (many : Int)) (by omega)
      have r2 := Int.fmod_lt_of_pos ((k : Nat) + 1 : Int) (b := (many : Int)) (by omega)
      obtain ⟨y, hy⟩ : ∃ y : Nat, ((k : Nat) + 1 : Int).fmod many = y := ⟨(((k : Nat) + 1 : Int).fmod many).toNat, by omega⟩
      obtain ⟨x2, b2, g2⟩ := yin y (by omega)
      rw [← hy] at g2
      have hd4 := e.at hd3
      refine ⟨rfl, _, rfl, _, rfl, p3, ys, _, _, rfl, rfl, SqL.of hd4, g1, _, rfl, _, rfl, _, _, rfl, rfl, .inl ⟨_, rfl, _, rfl, _, _, rfl, rfl, m0, p3, ys, _, _, rfl, rfl, SqL.of hd4, g2, by show 4 ≤ sizeLine; omega, fun p5 hp5 => ?_⟩⟩
      have f5 : F' p5 = none := Same.free e.fh hp5
      have wn : Wk (upd F' p5 (.tup [.int x1, .int x2, .str "", .str ""])) (Rd.mk x1 x2 (.text "") (.text "")).w (.ref p5) := Rd.wk_new f5 (wk_text.mpr rfl) (wk_text.mpr rfl)
      refine k1 _ _ _ (Ex.newF e.fh hp5) ⟨rs ++ [⟨x1, x2, .text "", .text ""⟩], Rds.app (Wks.up (Same.upd f5) w1) wn, fun r hr => ?_, by simp [w3]⟩ trivial
      rcases List.mem_append.mp hr with z | z
      · exact w2 r z
      · rw [List.mem_singleton.mp z]
        exact ⟨b1, b2, wok_text, wok_text⟩
    · rintro D acc F' H' e hD fD hd' ⟨rs, w1, w2, w3⟩ _ _
      have ef := e.frz hD hd' fD
      refine kk _ _ H' (E3.trans (ef.mono (by simp))) (((s3.ex0 e).fz hD s3).le (by omega)) ⟨D, acc, rs, rfl, upd_same, Wks.up (Same.upd fD) w1, w2, by omega⟩
  refine ite2 (fun _ => ⟨_, rfl, ?_⟩) (fun _ => ⟨_, rfl, _, _, rfl, rfl, ?_⟩)
  · exact rest _ (by omega) (by omega)
  · exact rest _ (by omega) (by omega)
end
end T3

namespace T3
open PySem PySem.Spec PyProof.Rows L2 Ly
section
variable {P : Program} {w : World} {K : PySem.W.Frag} {mg : Str → Option Value} {base : Heap}
def spNCrowd : Sp := fun vs H Q _ => ∃ (st q : Addr) (many : Nat) (F : Hp) (c : Int), vs = [.ref st, .int many] ∧ Same F H ∧ Strm F H st q c ∧ 0 < many ∧ many < 10 ∧ c < 900000000 ∧
  ∀ v F' H', Ex [st, q] F H F' H' → Strm F' H' st q (c + 1000) → RL 100 F' many v → Q v H'
theorem rds_dp {F H : Hp} {p : Addr} {ys : List V} {rs : List Rd} (hF : Same F H) (h : H p = some (.lst ys)) (w : Rds F rs ys) : Dp K H (.ref p) (.list (NestedKey.datas (rs.map Rd.w))) := .lst (SqL.of h) (wks_dp hF w)
theorem rds_shaped {n : Nat} {rs : List Rd} (h : ∀ r ∈ rs, r.OkN n) : SeqAt.shaped (.list (NestedKey.datas (rs.map Rd.w))) = true := shaped_list (fun k hk => (mem_rds h hk).2.2) (fun k hk => (mem_rds h hk).2.1)
theorem rds_nil {rs : List Rd} : PyData.eqv (.list (NestedKey.datas (rs.map Rd.w))) (.list []) = decide (rs = []) := by
  cases rs <;> simp [NestedKey.datas, PyData.eqv, PyData.eqvAll]
theorem ok_n_crowd (T : Top K mg) : Ok P w K mg base "_law_n_crowd" 3 ["_law_stream", "_law_many"] spNCrowd := by
  have G_draw : Ok P w K mg base "_law_draw" 1 ["_law_stream", "_law_many"] spDraw := ok_law_draw T
  have G_pick : Ok P w K mg base "_law_pick" 2 ["_law_stream", "_law_some"] spPick := ok_law_pick T
  refine ok_of T.g__law_n_crowd T.F_law_n_crowd sc_law_n_crowd (fun _ _ _ _ _ _ us hl => match us, hl with | [_, _], _ => rfl) (fun vs H Q E h => ?_) (fun cdv A outer s H vs Q E hr h => ?_)
  · first | (obtain ⟨rfl, _⟩ := h; rfl) | (obtain ⟨_, rfl, _⟩ := h; rfl) | (obtain ⟨_, _, rfl, _⟩ := h; rfl) | (obtain ⟨_, _, _, rfl, _⟩ := h; rfl) | (obtain ⟨_, _, _, _, rfl, _⟩ := h; rfl) | (obtain ⟨_, _, _, _, _, rfl, _⟩ := h; rfl) | (obtain ⟨_, _, _, _, _, _, rfl, _⟩ := h; rfl) | (obtain ⟨_, _, _, _, _, _, _, rfl, _⟩ := h; rfl) | (obtain ⟨_, _, _, _, _, _, _, _, rfl, _⟩ := h; rfl) | (obtain ⟨_, _, _, _, _, _, _, _, _, rfl, _⟩ := h; rfl) | (obtain ⟨_, _, _, _, _, _, _, _, _, _, rfl, _⟩ := h; rfl) | (obtain ⟨_, _, _, _, _, _, _, _, _, _, _, rfl, _⟩ := h; rfl)
  obtain ⟨st, q, many, F, c, rfl, hF, hS, hm0, hm, hc, kk⟩ := h
  refine ⟨_, (pss_cons (ps_par (i := 2) (j := 3) rfl sc_law_n_crowd.nd rfl rfl (by decide) rfl rfl (pa_cons (pe_ok G_pick hr (pa_cons (pv 0) (pa_cons (pe_lst (pa_cons (pe_lst (pa_cons pe_str pa_nil)) (pa_cons (pe_lst (pa_cons pe_str (pa_cons pe_str pa_nil))) (pa_cons (pe_lst (pa_cons pe_str (pa_cons pe_int (pa_cons (pe_tup (pa_cons pe_str pa_nil)) pa_nil)))) (pa_cons (pe_lst (pa_cons pe_int pa_nil)) pa_nil))))) pa_nil))) (pa_cons (pe_lst pa_nil) pa_nil)) rfl)
    (pss_cons (ps_for PassesOwn.never rfl (pi_range1 rfl T.b_range (pa_cons (pe_ok G_draw hr (pa_cons (pv 0) (pa_cons (pe_op op_add (pe_op op_mul pe_int (pv 1)) pe_int) pa_nil))) pa_nil)) (pg_name (i := 4) sc_law_n_crowd.nd rfl (Or.inl rfl)) (pss_cons (ps_set (i := 5) sc_law_n_crowd.nd rfl (Or.inl rfl) (pe_tup (pa_cons (pe_ok G_draw hr (pa_cons (pv 0) (pa_cons (pv 1) pa_nil))) (pa_cons (pe_ok G_draw hr (pa_cons (pv 0) (pa_cons (pv 1) pa_nil))) pa_nil))))
    (pss_one (ps_expr (pe_bm PySem.F.plainAttrs_list PySem.F.slot_list_append PySem.F.type_list_append mt_append (pv 3) (pa_cons (pe_op (op_catT) (pv 5) (pe_tup (pa_cons (pe_ok G_pick hr (pa_cons (pv 0) (pa_cons (pv 2) pa_nil))) (pa_cons (pe_ok G_pick hr (pa_cons (pv 0) (pa_cons (pv 2) pa_nil))) pa_nil)))) pa_nil))))))
    (pss_cons (ps_set (i := 6) sc_law_n_crowd.nd rfl (Or.inl rfl) (pe_ifExp (PW.pt (pw_and (pt_cmpR (op_neD (hu64 hr)) (pv 3) (pe_lst pa_nil) (nomark _)) (pw_and1 (pt_cmpR op_eq (pe_ok G_draw hr (pa_cons (pv 0) (pa_cons pe_int pa_nil))) pe_int (nomark _))))) (pe_lst (pa_cons (pe_ok G_pick hr (pa_cons (pv 0) (pa_cons (pv 3) pa_nil))) pa_nil)) (pe_lst pa_nil)))
    (pss_one (ps_ret (pe_op op_cat (pv 3) (pv 6))))))), ?_⟩
  have z1 := sizeLine_eq
  refine r_seq (r_par (r_cons (r_call (r_cons ⟨_, rfl, r_cons ?_⟩))))
  refine ev_ll (d := 1) (evl_cons (ev_cons ev_str ev_nil) (evl_cons (ev_cons ev_str (ev_cons ev_str ev_nil)) (evl_cons (ev_cons ev_str (ev_cons (ev_int _) (ev_cons (ev_tup (ev_cons ev_str ev_nil)) ev_nil))) (evl_cons (ev_cons (ev_int _) ev_nil) evl_nil)))) hF fun a xs F1 H1 e1 ha hl hx => ?_
  refine ⟨st, q, a, xs, F1, c, rfl, e1.fh, hS.ex0 e1, ha, by omega, by omega, by omega, fun v H2 hv e2 s2 => ⟨Nat.zero_le _, fun fp hfp => ⟨_, _, rfl, ?_⟩⟩⟩
  obtain ⟨b, ws, rfl, hb, hb0, hb1, hbw⟩ := hx v hv
  have E2 : Ex [st, q] F H F1 H2 := (e1.mono (by simp)).trans e2
  have hfp0 : H fp = none := by
    cases z : H fp with
    | none => rfl
    | some o => exact absurd hfp (E2.dm fp (ne_none z))
  have f1 : F1 fp = none := Same.free E2.fh hfp
  have e3 : Ex [] F1 H2 F1 (upd H2 fp (.lst [])) := Ex.new E2.fh hfp
  have d3 : (upd H2 fp (.lst [])) fp = some (.lst []) := upd_same
  have s3 := s2.ex0 e3
  dsimp only
  show tSeq _ _ _ _ (upd H2 fp (.lst []))
  generalize upd H2 fp (.lst []) = H3 at e3 d3 s3
  have E3 : Ex [st, q] F H F1 H3 := E2.trans (e3.mono (by simp))
  have nst := hS.ne (p := fp) (.inr hfp0)
  refine r_seq (r_for (r_cons (r_call (r_cons ⟨_, rfl, r_cons ⟨_, rfl, _, _, rfl, rfl, .inl ⟨by omega, by omega⟩, _, _, rfl, rfl, ?_⟩⟩))))
  refine ⟨st, q, 2 * many + 2, F1, c + 1, rfl, E3.fh, s3, by omega, by omega, by omega, fun d H4 g0 g1 e4 s4 => ⟨_, rfl, by omega, by omega, ?_⟩⟩
  obtain ⟨nn, rfl⟩ : ∃ nn : Nat, d = nn := ⟨d.toNat, by omega⟩
  have E4 := E3.trans e4
  have d4 := e4.at d3 nst
  refine forg_rngB [st, q, fp] e4.fh (fun i σ1 F5 H5 => (∃ u v w, σ1 = [some (.ref st), some (.int many), some (.ref b), some (.ref fp), u, v, w]) ∧ Strm F5 H5 st q (c + 2 + 4 * (i : Nat)) ∧ F5 fp = none ∧ ∃ ys rs, H5 fp = some (.lst ys) ∧ Rds F5 rs ys ∧ (∀ r ∈ rs, r.OkN many) ∧ rs.length = i)
    ⟨⟨_, _, _, rfl⟩, by simpa using s4.le (by omega), f1, [], [], d4, Wks.nil, by simp, rfl⟩ ?_ ?_
  · rintro i σ1 F5 H5 Nk hi e ⟨⟨u, v, w, rfl⟩, s5, f5, ys, rs, d5, w5, ok5, l5⟩ nk
    have lys := Rds.len w5
    have nq : ∀ {F' H' : Hp} {c' : Int} {o : HO} {z : Addr}, Strm F' H' st q c' → H' z = none → z ∉ [st, q] := fun s h => s.ne (.inr h)
    refine r_seq (r_asg (r_tup (r_cons (r_call (r_cons ⟨_, rfl, r_cons ⟨_, rfl, ?_⟩⟩)))))
    refine ⟨st, q, many, F5, _, rfl, e.fh, s5, by omega, by omega, by omega, fun x1 H6 x10 x11 e6 s6 => r_cons (r_call (r_cons ⟨_, rfl, r_cons ⟨_, rfl, ?_⟩⟩))⟩
    refine ⟨st, q, many, F5, _, rfl, e6.fh, s6, by omega, by omega, by omega, fun x2 H7 x20 x21 e7 s7 => ⟨by show 2 ≤ sizeLine; omega, fun tp htp => ?_⟩⟩
    have e8 : Ex [] F5 H7 (upd F5 tp (.tup [.int x1, .int x2])) (upd H7 tp (.tup [.int x1, .int x2])) := Ex.newF e7.fh htp
    have d8 : (upd F5 tp (.tup [.int x1, .int x2])) tp = some (.tup [.int x1, .int x2]) := upd_same
    have s8 := s7.ex0 e8
    have dfp7 : H7 fp = some (.lst ys) := e7.at (e6.at d5 nst) nst
    have dfp8 := e8.at dfp7
    have f8 := e8.nf f5 (ne_none dfp7)
    have E8 : Ex [st, q] F5 H5 (upd F5 tp (.tup [.int x1, .int x2])) (upd H7 tp (.tup [.int x1, .int x2])) := e6.trans (e7.trans (e8.mono (by simp)))
    refine r_next ?_
    dsimp only
    show tDrop _ _ _ (upd H7 tp (.tup [.int x1, .int x2]))
    generalize upd F5 tp (.tup [.int x1, .int x2]) = F8 at e8 d8 s8 f8 E8
    generalize upd H7 tp (.tup [.int x1, .int x2]) = H8 at e8 s8 dfp8 E8
    have hb8 : F8 b = some (.lst ws) := E8.ff _ _ (e.ff _ _ hb)
    refine r_drop ⟨_, rfl, .inl ⟨rfl, _, SqL.of dfp8⟩, r_cons ⟨_, rfl, r_tup (r_cons (r_call (r_cons ⟨_, rfl, r_cons ⟨_, rfl, ?_⟩⟩)))⟩⟩
    refine ⟨st, q, b, ws, F8, _, rfl, E8.fh, s8, hb8, hb0, by omega, by omega, fun v1 H9 hv1 e9 s9 => r_cons (r_call (r_cons ⟨_, rfl, r_cons ⟨_, rfl, ?_⟩⟩))⟩
    refine ⟨st, q, b, ws, F8, _, rfl, e9.fh, s9, hb8, hb0, by omega, by omega, fun v2 H10 hv2 e10 s10 => ⟨by show 2 ≤ sizeLine; omega, fun t2 ht2 => ?_⟩⟩
    have E10 := e9.trans e10
    have t2t := e10.fh _ _ d8
    have ntp : t2 ≠ tp := fun z => by rw [z, t2t] at ht2; cases ht2
    have dfp10 : H10 fp = some (.lst ys) := E10.at dfp8 nst
    have nfp : fp ≠ t2 := ne_of_none dfp10 ht2
    have e11 : Ex [] F8 H10 F8 (upd H10 t2 (.tup [v1, v2])) := Ex.new e10.fh ht2
    refine ⟨tp, t2, [.int x1, .int x2], [v1, v2], rfl, rfl, SqT.of (e11.fh _ _ d8), SqT.of upd_same, by simp, by simp; omega, fun h => by simp at h, fun _ t3 ht3 => ?_⟩
    have s11 := s10.ex0 e11
    have dfp11 := e11.at dfp10
    generalize upd H10 t2 (.tup [v1, v2]) = H11 at e11 s11 dfp11 ht3
    have e12 : Ex [] F8 H11 (upd F8 t3 (.tup ([.int x1, .int x2] ++ [v1, v2]))) (upd H11 t3 (.tup ([.int x1, .int x2] ++ [v1, v2]))) := Ex.newF e11.fh ht3
    have f12 := e12.nf f8 (ne_none dfp11)
    have dfp12 := e12.at dfp11
    have s12 := s11.ex0 e12
    obtain ⟨n1, rfl⟩ : ∃ n1 : Nat, x1 = n1 := ⟨x1.toNat, by omega⟩
    obtain ⟨n2, rfl⟩ : ∃ n2 : Nat, x2 = n2 := ⟨x2.toNat, by omega⟩
    obtain ⟨k1, ok1, wk1⟩ := (((hbw v1 hv1).up (Same.trans e.ff E8.ff)).mono (by decide : 1 ≤ 3)).wok
    obtain ⟨k2, ok2, wk2⟩ := (((hbw v2 hv2).up (Same.trans e.ff E8.ff)).mono (by decide : 1 ≤ 3)).wok
    have wn : Wk (upd F8 t3 (.tup ([.int n1, .int n2] ++ [v1, v2]))) (Rd.mk n1 n2 k1 k2).w (.ref t3) := Rd.wk_new (Same.free e11.fh ht3) wk1 wk2
    generalize upd F8 t3 (.tup ([.int n1, .int n2] ++ [v1, v2])) = F12 at e12 f12 s12 wn
    generalize upd H11 t3 (.tup ([.int n1, .int n2] ++ [v1, v2])) = H12 at e12 s12 dfp12
    refine ⟨fp, ys, _, rfl, rfl, dfp12, by omega, ?_⟩
    have EE : Ex [st, q] F5 H5 F12 H12 := E8.trans (E10.trans ((e11.trans e12).mono (by simp)))
    have e13 : Ex [fp] F12 H12 F12 (upd H12 fp (.lst (ys ++ [.ref t3]))) := Ex.put e12.fh f12 (by simp)
    have s13 := s12.ex e13 (by simp at nst ⊢; exact fun z => nst.1 z.symm) (by simp at nst ⊢; exact fun z => nst.2 z.symm)
    refine nk _ F12 _ ((EE.mono (by intro b h; simp only [List.mem_cons, List.not_mem_nil, or_false] at h ⊢; rcases h with h | h <;> simp [h])).trans (e13.mono (by simp))) ⟨⟨_, _, _, rfl⟩, s13.le (by omega), f12, ys ++ [.ref t3], rs ++ [⟨n1, n2, k1, k2⟩], upd_same, Rds.app (Wks.up EE.ff w5) wn, fun r hr => ?_, by simp [l5]⟩
    rcases List.mem_append.mp hr with z | z
    · exact ok5 r z
    · rw [List.mem_singleton.mp z]
      exact ⟨by show n1 < many; omega, by show n2 < many; omega, ok1, ok2⟩
  · rintro σ1 F5 H5 e ⟨⟨u, v, w, rfl⟩, s5, f5, ys, rs, d5, w5, ok5, l5⟩
    have lys := Rds.len w5
    have E5 : Ex [st, q] F H F5 H5 := E4.newly' e (fun p hp => by
      simp only [List.mem_cons, List.not_mem_nil, or_false] at hp
      rcases hp with z | z | z
      · right; simp [z]
      · right; simp [z]
      · left; rw [z]; exact hfp0)
    have E6 := E5.frz hfp0 d5 f5
    have s6 := s5.fz (o := .lst ys) hfp0 hS
    have d6 : (upd F5 fp (.lst ys)) fp = some (.lst ys) := upd_same
    have w6 : Rds (upd F5 fp (.lst ys)) rs ys := Wks.up (Same.upd f5) w5
    generalize upd F5 fp (.lst ys) = F6 at E6 s6 d6 w6
    -- the end: found + more
    have fin : ∀ (F7 H7 : Hp) (mp : Addr) (zs : List V) (ms : List Rd), Ex [st, q] F H F7 H7 → Same F6 F7 → Strm F7 H7 st q (c + 900) → H7 mp = some (.lst zs) → Rds F7 ms zs → (∀ r ∈ ms, r.OkN many) → ms.length ≤ 1 → 
        tRet (tOp rCat (tVar 3) (tVar 6)) { nx := fun _ H' => Q .non H', rt := Q } [some (.ref st), some (.int many), some (.ref b), some (.ref fp), u, v, some (.ref mp)] H7 := by
      intro F7 H7 mp zs ms e7 le7 s7 hmp wz okz lz
      have lzs := Rds.len wz
      refine ⟨_, rfl, _, rfl, fp, mp, ys, zs, rfl, rfl, e7.fh _ _ (le7 _ _ d6), hmp, by omega, fun p hp => ?_⟩
      have e8 : Ex [] F7 H7 (upd F7 p (.lst (ys ++ zs))) (upd H7 p (.lst (ys ++ zs))) := Ex.newF e7.fh hp
      refine kk _ _ _ (e7.trans (e8.mono (by simp))) ((s7.ex0 e8).le (by omega)) ⟨p, ys ++ zs, rs ++ ms, rfl, upd_same, ?_, fun r hr => ?_, by simp; omega⟩
      · show Wks _ ((rs ++ ms).map Rd.w) _
        rw [List.map_append]
        exact Wks.app (Wks.up e8.ff (Wks.up le7 w6)) (Wks.up e8.ff wz)
      · rcases List.mem_append.mp hr with z | z
        · exact ok5 r z
        · exact okz r z
    have empty : ∀ H7, Ex [st, q] F H F6 H7 → Strm F6 H7 st q (c + 900) → tLst tNil [some (.ref st), some (.int many), some (.ref b), some (.ref fp), u, v, w] H7 fun x H8 => tRet (tOp rCat (tVar 3) (tVar 6)) { nx := fun _ H' => Q .non H', rt := Q } [some (.ref st), some (.int many), some (.ref b), some (.ref fp), u, v, some x] H8 := by
      intro H7 e7 s7
      refine ⟨Nat.zero_le _, fun p hp => ?_⟩
      have e8 : Ex [] F6 H7 F6 (upd H7 p (.lst [])) := Ex.new e7.fh hp
      exact fin F6 _ p [] [] (e7.trans (e8.mono (by simp))) (Same.refl F6) (s7.ex0 e8) upd_same Wks.nil (by simp) (by simp)
    dsimp only
    refine r_seq (r_asg (r_if ?_))
    refine ⟨_, rfl, Nat.zero_le _, fun p hp => ?_⟩
    have e7 : Ex [] F6 H5 F6 (upd H5 p (.lst [])) := Ex.new E6.fh hp
    have s7 := s6.ex0 e7
    have E7 : Ex [st, q] F H F6 (upd H5 p (.lst [])) := E6.trans (e7.mono (by simp))
    refine ⟨NestedKey.datas (rs.map Rd.w) |> PyData.list, .list [], rds_dp e7.fh (e7.fh _ _ d6) w6, .lst (SqL.of upd_same) .nil, rds_shaped ok5, by decide, _, rfl, ?_⟩
    rw [rds_nil]
    generalize upd H5 p (.lst []) = H7 at e7 s7 E7
    by_cases hrs : rs = []
    · refine iteF' (by simp [hrs]) (iteF ?_)
      exact empty H7 E7 (s7.le (by omega))
    · refine iteT' (by simp [hrs]) ⟨_, rfl, st, q, 4, F6, _, rfl, e7.fh, s7, by decide, by decide, by omega, fun d H8 _ _ e8 s8 => ⟨rfl, _, rfl, ?_⟩⟩
      have E8 := E7.trans e8
      refine ite2 (fun _ => ?_) (fun _ => empty H8 E8 (s8.le (by omega)))
      have pos : 0 < ys.length := by
        rw [lys]
        exact List.length_pos_iff.mpr hrs
      refine r_lst (r_cons (r_call (r_cons ⟨_, rfl, r_cons ⟨_, rfl, ?_⟩⟩)))
      refine ⟨st, q, fp, ys, F6, _, rfl, E8.fh, s8, d6, pos, by omega, by omega, fun v1 H9 hv1 e9 s9 => ⟨by show 1 ≤ sizeLine; omega, fun mp hmp => ?_⟩⟩
      have e10 : Ex [] F6 H9 F6 (upd H9 mp (.lst [v1])) := Ex.new e9.fh hmp
      obtain ⟨j, hj⟩ := List.getElem?_of_mem hv1
      obtain ⟨r, hr, wr⟩ := Rds.get w6 hj
      refine r_next ?_
      dsimp only
      exact fin F6 _ mp [v1] [r] ((E8.trans e9).trans (e10.mono (by simp))) (Same.refl F6) ((s9.ex0 e10).le (by omega)) upd_same (Wks.one wr) (fun x hx => by
        rw [List.mem_singleton.mp hx]
        exact ok5 r (List.mem_of_getElem? hr)) (by simp)
end
end T3

namespace T3
open PySem PySem.Spec PyProof.Rows L2 Ly
section
variable {P : Program} {w : World} {K : PySem.W.Frag} {mg : Str → Option Value} {base : Heap}
theorem lcg_lots_rng {ta : TA} {n : Nat} {te : TE} {vs : List Nat} {σ : L2.St} {j : Nat} {F H : Hp} {Q : VK} (M : List Addr) (hl : ∀ R : List V → Hp → Prop, R [.int n] H → ta σ H R) (hF : Same F H) (hM : ∀ p ∈ M, H p ≠ none) (hn : n < sizeLine) (hw : ∀ x : V, wipe ((wipe σ vs).set j (some x)) vs = wipe σ vs)
    (R0 : Hp → List V → Prop) (hR : ∀ F F2 us, Same F F2 → R0 F us → R0 F2 us) (J : Nat → Hp → Hp → Prop) (hJ : ∀ N k F1 H1 F2 H2, (∀ p ∈ N, H p = none) → Ex N F1 H1 F2 H2 → J k F1 H1 → J k F2 H2) (hJ0 : J 0 F H)
    (hs : ∀ k F1 H1 (Kk : VK), k < n → Ex M F H F1 H1 → J k F1 H1 → (∀ p us F4 H4, Ex M F1 H1 F4 H4 → H1 p = none → F4 p = none → H4 p = some (.lst us) → R0 F4 us → J (k + 1) F4 H4 → Kk (.ref p) H4) → te ((wipe σ vs).set j (some (.int (k : Nat)))) H1 Kk)
    (hd : ∀ D qs F1 H1, Ex M F H F1 H1 → H D = none → F1 D = none → H1 D = some (.lst (qs.map V.ref)) → qs.length = n → D ∉ qs → (∀ q ∈ qs, H q = none) → LotG qs F1 H1 (fun _ us => R0 F1 us) → J n F1 H1 → Q (.ref D) H1) :
    tLc (iRng1 ta) (gName j) tYes te vs σ H Q := by
  have hz := sizeLine_eq
  refine hl _ ⟨_, rfl, by omega, by omega, ?_⟩
  show ∀ D, H D = none → _
  have e : ((n : Int).toNat) = n := by omega
  rw [e]
  intro D hD
  have hDM : D ∉ M := fun z => hM D z hD
  have fD : F D = none := Same.free hF hD
  have e0 : Ex M F H F (upd H D (.lst [])) := Ex.new hF hD
  refine lc_it walk_rg (fun i H1 => ∃ (qs : List Addr) (F1 : Hp), Ex M F H F1 H1 ∧ F1 D = none ∧ H1 D = some (.lst (qs.map V.ref)) ∧ qs.length = i ∧ D ∉ qs ∧ (∀ q ∈ qs, H q = none) ∧ LotG qs F1 H1 (fun _ us => R0 F1 us) ∧ J i F1 H1)
    ⟨[], F, e0, fD, upd_same, rfl, by simp, by simp, ⟨List.nodup_nil, by simp⟩, hJ [] 0 F H _ _ (by simp) (Ex.new hF hD) hJ0⟩ (fun _ _ _ _ => trivial) ?_ ?_
  · rintro i x H1 H2 hi ⟨qs, F1, e1, f1, d1, l1, d2, n1, lo, j1⟩ ⟨rfl, hx⟩
    obtain ⟨_, rfl⟩ := rgL_get hx
    rw [Int.zero_add]
    refine ⟨hw _, ?_⟩
    refine hs i F1 H2 _ hi e1 j1 fun p us F4 H4 e4 hp fp hp4 r4 j4 => ?_
    have pD : D ≠ p := ne_of_none d1 hp
    have hHp : H p = none := by
      cases z : H p with
      | none => rfl
      | some o => exact absurd hp (e1.dm p (ne_none z))
    have d4 : H4 D = some (.lst (qs.map V.ref)) := e4.at d1 hDM
    have f4 : F4 D = none := e4.nf f1 (ne_none d1)
    have lo4 := lo.ex e4 (fun q hq z => hM q z (n1 q hq)) (R2 := fun _ us => R0 F4 us) (fun _ us h => hR _ _ us e4.ff h)
    have pnew : p ∉ qs := fun z => by
      obtain ⟨k, hk⟩ := List.getElem?_of_mem z
      obtain ⟨_, us, b, _⟩ := lo.at' k p hk
      rw [hp] at b
      cases b
    refine ⟨_, d4, by simp; omega, qs ++ [p], F4, (e1.trans e4).wr hD f4, f4, by rw [upd_same]; simp, by simp [l1], by simp [d2, pD], ?_, ?_, ?_⟩
    · intro q hq
      rcases List.mem_append.mp hq with z | z
      · exact n1 q z
      · rw [List.mem_singleton.mp z]; exact hHp
    · refine ⟨?_, fun k q hq => ?_⟩
      · rw [List.nodup_append]
        exact ⟨lo.nd, by simp, fun x hx y hy z => pnew (by rw [← List.mem_singleton.mp hy, ← z]; exact hx)⟩
      · have qD : q ≠ D := by
          rintro rfl
          have := List.mem_of_getElem? hq
          simp [d2, pD] at this
        rw [upd_ne qD]
        by_cases hk : k < qs.length
        · rw [List.getElem?_append_left hk] at hq
          exact lo4.at' k q hq
        · rw [List.getElem?_append_right (by omega)] at hq
          have : q = p := by
            rcases hk2 : k - qs.length with _ | m
            · rw [hk2] at hq; simpa using hq.symm
            · rw [hk2] at hq; simp at hq
          rw [this]
          exact ⟨fp, us, hp4, r4⟩
    · exact hJ [D] (i + 1) F4 H4 _ _ (by simp [hD]) (Ex.put e4.fh f4 (by simp)) j4
  · rintro H1 ⟨qs, F1, e1, f1, d1, l1, d2, n1, lo, j1⟩
    exact hd D qs F1 H1 e1 hD f1 d1 l1 d2 n1 lo j1
section
variable {st q : Addr} {many : Nat} {F H : Hp} {c : Int} {Kk : VK} {a2 a3 a4 a6 a7 a8 a9 a10 : Option V}
theorem d_one {k : Nat} (hF : Same F H) (hS : Strm F H st q c) (hm0 : 0 < many) (hm : many < 10) (hc : c < 950000000) (rest : ∀ (o : Nat) (H6 : Hp), o < many → Ex [st, q] F H F H6 → Strm F H6 st q (c + 1) → Kk (.int o) H6) :
    tIf (tTest (tOp RLt (tVar 5) (tOp RSub (tVar 1) (tC (.int 1))))) (tOp RAdd (tVar 5) (tC (.int 1))) (tCall spDraw [] E0 (tCons (tVar 0) (tCons (tVar 1) tNil))) [some (.ref st), some (.int many), a2, a3, a4, some (.int (k : Nat)), a6, a7, a8, a9, a10] H Kk := by
  refine r_if ⟨_, rfl, _, rfl, _, _, rfl, rfl, _, _, rfl, rfl, _, rfl, ?_⟩
  refine ite2 (fun h => ?_) (fun _ => ?_)
  · have h2 : (k : Int) < (many : Int) - 1 := by simpa using h
    refine ⟨_, rfl, _, _, rfl, rfl, ?_⟩
    have := rest (k + 1) H (by omega) (Ex.refl hF) (hS.le (by omega))
    simpa using this
  · refine ⟨_, rfl, _, rfl, st, q, many, F, c, rfl, hF, hS, by omega, by omega, by omega, fun d H6 d0 d1 e s => ?_⟩
    obtain ⟨o, rfl⟩ : ∃ o : Nat, d = o := ⟨d.toNat, by omega⟩
    exact rest o H6 (by omega) e s
theorem d_other {k : Nat} (hF : Same F H) (hS : Strm F H st q c) (hm0 : 0 < many) (hm : many < 10) (hc : c < 950000000) (rest : ∀ (o : Nat) (H6 : Hp), o < many → Ex [st, q] F H F H6 → Strm F H6 st q (c + 1) → Kk (.int o) H6) :
    tCall spDraw [] E0 (tCons (tVar 0) (tCons (tIf (tTest (tOp RLt (tVar 5) (tOp RSub (tVar 1) (tC (.int 1))))) (tOp RAdd (tVar 5) (tC (.int 1))) (tVar 1)) tNil)) [some (.ref st), some (.int many), a2, a3, a4, some (.int (k : Nat)), a6, a7, a8, a9, a10] H Kk := by
  refine r_call (r_cons ⟨_, rfl, r_cons (r_if ⟨_, rfl, _, rfl, _, _, rfl, rfl, _, _, rfl, rfl, _, rfl, ?_⟩)⟩)
  refine ite2 (fun h => ?_) (fun _ => ?_)
  · have h2 : (k : Int) < (many : Int) - 1 := by simpa using h
    refine ⟨_, rfl, _, _, rfl, rfl, st, q, (k : Int) + 1, F, c, rfl, hF, hS, by omega, by omega, by omega, fun d H6 d0 d1 e s => ?_⟩
    obtain ⟨o, rfl⟩ : ∃ o : Nat, d = o := ⟨d.toNat, by omega⟩
    exact rest o H6 (by omega) e s
  · refine ⟨_, rfl, st, q, many, F, c, rfl, hF, hS, by omega, by omega, by omega, fun d H6 d0 d1 e s => ?_⟩
    obtain ⟨o, rfl⟩ : ∃ o : Nat, d = o := ⟨d.toNat, by omega⟩
    exact rest o H6 (by omega) e s
theorem d_half {o1 o2 : Nat} {h : Bool} {a1 a5 : Option V} (hF : Same F H) (hS : Strm F H st q c) (hc : c < 950000000) (rest : ∀ (b : Bool) (H6 : Hp), Ex [st, q] F H F H6 → Strm F H6 st q (c + 1) → Kk (.bl b) H6) :
    tAndV (tOp rEq (tVar 6) (tVar 7)) (tAndV (tVar 2) (tOp rEq (tCall spDraw [] E0 (tCons (tVar 0) (tCons (tC (.int 2)) tNil))) (tC (.int 0)))) [some (.ref st), a1, some (.bl h), a3, a4, a5, some (.int (o1 : Nat)), some (.int (o2 : Nat)), a8, a9, a10] H Kk := by
  refine r_and ⟨_, rfl, _, rfl, rfl, _, rfl, ?_⟩
  refine ite2 (fun _ => ?_) (fun _ => rest false H (Ex.refl hF) (hS.le (by omega)))
  refine r_and ⟨_, rfl, _, rfl, ?_⟩
  refine ite2 (fun _ => ?_) (fun _ => rest false H (Ex.refl hF) (hS.le (by omega)))
  refine ⟨_, rfl, st, q, 2, F, c, rfl, hF, hS, by decide, by decide, by omega, fun d H6 d0 d1 e s => ⟨rfl, rest _ H6 e s⟩⟩
end
def lotW (F : Hp) (us : List V) : Prop := (∀ x ∈ us, okW F 1 x) ∧ us.length ≤ 6
theorem lotW.up {F F2 : Hp} {us : List V} (h : Same F F2) (x : lotW F us) : lotW F2 us := ⟨fun y hy => (x.1 y hy).up h, x.2⟩
theorem lotW.pop {F : Hp} {us : List V} (x : lotW F us) : lotW F us.dropLast := ⟨fun y hy => x.1 y (List.dropLast_subset us hy), by have := x.2; simp; omega⟩
theorem pop_last {us : List V} (h : 0 < us.length) : ∃ y, us[us.length - 1]? = some y ∧ y ∈ us := by
  have : us.length - 1 < us.length := by omega
  exact ⟨us[us.length - 1], by simp, List.getElem_mem this⟩
theorem at_refs {qs : List Addr} {o : Nat} {p : Addr} (h : qs[o]? = some p) : atI (qs.map V.ref) (o : Int) = some (.ref p) := by
  obtain ⟨h1, h2⟩ := List.getElem?_eq_some_iff.mp h
  rw [at_toNat (by omega) (by simpa using h1)]
  simp [h2]
theorem d_into {F H : Hp} {Kk : VK} {A p : Addr} {qs : List Addr} {o2 : Nat} {hb : Bool} {vo : V} {us : List V} {a0 a1 a2 a4 a5 a6 a10 : Option V} (hF : Same F H) (hA : F A = some (.lst (qs.map V.ref))) (lo : LotG qs F H (fun _ us => lotW F us)) (hp : qs[o2]? = some p) (hu : H p = some (.lst us)) (h0 : 0 < us.length) (hv : okW F 1 vo)
    (rest : ∀ vi H6, Ex qs F H F H6 → okW F 1 vi → LotG qs F H6 (fun _ us => lotW F us) → Kk vi H6) :
    tIf (tB (tVar 8)) (tVar 9) (tBM0 K "list" rPop (tOp (rIxL K) (tVar 3) (tVar 7))) [a0, a1, a2, some (.ref A), a4, a5, a6, some (.int (o2 : Nat)), some (.bl hb), some vo, a10] H Kk := by
  refine r_if (r_b ⟨_, rfl, _, rfl, ?_⟩)
  cases hb with
  | true => exact iteT ⟨_, rfl, rest vo H (Ex.refl hF) hv lo⟩
  | false =>
    obtain ⟨y, hy, hym⟩ := pop_last h0
    obtain ⟨fp, us', hu', lw⟩ := lo.at' o2 p hp
    rw [hu] at hu'
    cases hu'
    refine iteF ⟨_, rfl, _, rfl, A, _, _, .ref p, rfl, rfl, SqL.of (hF _ _ hA), at_refs hp, .inl ⟨rfl, _, SqL.of hu⟩, p, us, y, rfl, rfl, hu, hy, ?_⟩
    exact rest y _ (Ex.put hF fp (List.mem_of_getElem? hp)) (lw.1 y hym) (lo.put hp lw.pop fun _ _ _ h => h)
end
end T3

namespace T3
open PySem PySem.Spec PyProof.Rows L2 Ly
section
variable {P : Program} {w : World} {K : PySem.W.Frag} {mg : Str → Option Value} {base : Heap}
theorem lotFz {qs : List Addr} {F H : Hp} {R : Nat → List V → Prop} (l : LotG qs F H R) {D : Addr} {o : HO} (h : D ∉ qs) : LotG qs (upd F D o) H R := ⟨l.nd, fun j q hq => by
  obtain ⟨a, us, b, c⟩ := l.at' j q hq
  refine ⟨?_, us, b, c⟩
  rw [upd_ne]
  · exact a
  · rintro rfl
    exact h (List.mem_of_getElem? hq)⟩
theorem lotNin {qs : List Addr} {F H : Hp} {R : Nat → List V → Prop} (l : LotG qs F H R) {p : Addr} (h : H p = none) : p ∉ qs := fun z => by
  obtain ⟨k, hk⟩ := List.getElem?_of_mem z
  obtain ⟨_, us, b, _⟩ := l.at' k p hk
  rw [h] at b
  cases b
def spNDoors : Sp := fun vs H Q _ => ∃ (st q : Addr) (many : Nat) (hv : Bool) (F : Hp) (c : Int), vs = [.ref st, .int many, .bl hv] ∧ Same F H ∧ Strm F H st q c ∧ 0 < many ∧ many < 10 ∧ c < 900000000 ∧
  ∀ v F' H', Ex [st, q] F H F' H' → Strm F' H' st q (c + 1000) → RL 100 F' many v → Q v H'
theorem ok_n_doors (T : Top K mg) : Ok P w K mg base "_law_n_doors" 3 ["_law_stream", "_law_many", "_law_halves"] spNDoors := by
  have G_draw : Ok P w K mg base "_law_draw" 1 ["_law_stream", "_law_many"] spDraw := ok_law_draw T
  have G_mixed : Ok P w K mg base "_law_mixed" 2 ["_law_stream", "_law_some"] spMixed := ok_law_mixed T
  refine ok_of T.g__law_n_doors T.F_law_n_doors sc_law_n_doors (fun _ _ _ _ _ _ us hl => match us, hl with | [_, _, _], _ => rfl) (fun vs H Q E h => ?_) (fun cdv A outer s H vs Q E hr h => ?_)
  · first | (obtain ⟨rfl, _⟩ := h; rfl) | (obtain ⟨_, rfl, _⟩ := h; rfl) | (obtain ⟨_, _, rfl, _⟩ := h; rfl) | (obtain ⟨_, _, _, rfl, _⟩ := h; rfl) | (obtain ⟨_, _, _, _, rfl, _⟩ := h; rfl) | (obtain ⟨_, _, _, _, _, rfl, _⟩ := h; rfl) | (obtain ⟨_, _, _, _, _, _, rfl, _⟩ := h; rfl) | (obtain ⟨_, _, _, _, _, _, _, rfl, _⟩ := h; rfl) | (obtain ⟨_, _, _, _, _, _, _, _, rfl, _⟩ := h; rfl) | (obtain ⟨_, _, _, _, _, _, _, _, _, rfl, _⟩ := h; rfl) | (obtain ⟨_, _, _, _, _, _, _, _, _, _, rfl, _⟩ := h; rfl) | (obtain ⟨_, _, _, _, _, _, _, _, _, _, _, rfl, _⟩ := h; rfl)
  obtain ⟨st, q, many, hv, F, c, rfl, hF, hS, hm0, hm, hc, kk⟩ := h
  refine ⟨_, (pss_cons (ps_par (i := 3) (j := 4) rfl sc_law_n_doors.nd rfl rfl (by decide) rfl rfl (pa_cons (pe_lc (own := [("_law_k", 5)]) (g := (gName 5)) (tt := tYes) (te := (tCall spMixed [] E0 (tCons (tVar 0) (tCons (tLst (tCons (tC (.int 0)) (tCons (tC (.int 1)) (tCons (tC (.int 2)) (tCons (tC (.str "x")) (tCons (tC (.str "y")) (tCons (tTup (tCons (tC (.str "z")) tNil)) tNil))))))) tNil)))) rfl sc_law_n_doors.nd (pi_range1 rfl T.b_range (pa_cons (pv 1) pa_nil)) (blkOk_by (own := [("_law_k", 5)]) (N := N_law_n_doors) (sc := defScope s_law_n_doors) (by decide +kernel)) (fun _ _ _ _ _ => (pg_name (i := 5) sc_law_n_doors.nd rfl (Or.inl rfl))) (fun _ _ _ _ _ => pts_nil) (fun _ _ _ _ _ => (pe_ok G_mixed hr (pa_cons (pv 0) (pa_cons (pe_lst (pa_cons pe_int (pa_cons pe_int (pa_cons pe_int (pa_cons pe_str (pa_cons pe_str (pa_cons (pe_tup (pa_cons pe_str pa_nil)) pa_nil))))))) pa_nil))))) (pa_cons (pe_lst pa_nil) pa_nil)) rfl)
    (pss_cons (ps_for PassesOwn.never rfl (pi_range1 rfl T.b_range (pa_cons (pe_op op_sub (pe_op op_add (pe_ok G_draw hr (pa_cons (pv 0) (pa_cons (pe_op op_mul pe_int (pv 1)) pa_nil))) (pv 1)) pe_int) pa_nil)) (pg_name (i := 5) sc_law_n_doors.nd rfl (Or.inl rfl)) (pss_cons (ps_set (i := 6) sc_law_n_doors.nd rfl (Or.inl rfl) (pe_ifExp (pt_cmpR op_lt (pv 5) (pe_op op_sub (pv 1) pe_int) (nomark _)) (pe_op op_add (pv 5) pe_int) (pe_ok G_draw hr (pa_cons (pv 0) (pa_cons (pv 1) pa_nil)))))
    (pss_cons (ps_set (i := 7) sc_law_n_doors.nd rfl (Or.inl rfl) (pe_ok G_draw hr (pa_cons (pv 0) (pa_cons (pe_ifExp (pt_cmpR op_lt (pv 5) (pe_op op_sub (pv 1) pe_int) (nomark _)) (pe_op op_add (pv 5) pe_int) (pv 1)) pa_nil))))
    (pss_cons (ps_set (i := 8) sc_law_n_doors.nd rfl (Or.inl rfl) (pe_and (pe_cmpR op_eq (pv 6) (pv 7) (nomark _)) (pe_and (pv 2) (pe_one (pe_cmpR op_eq (pe_ok G_draw hr (pa_cons (pv 0) (pa_cons pe_int pa_nil))) pe_int (nomark _))))))
    (pss_one (ps_if (PW.pt (pw_and (pt_cmpR op_gt (pe_callB call_len_seq rfl T.b_len (by decide +kernel) (pa_cons (pe_ix ix_list (pv 3) (pv 6) (fun _ _ => rfl)) pa_nil)) pe_int (nomark _)) (pw_and1 (pt_cmpR op_gt (pe_callB call_len_seq rfl T.b_len (by decide +kernel) (pa_cons (pe_ix ix_list (pv 3) (pv 7) (fun _ _ => rfl)) pa_nil)) pe_int (nomark _))))) (pss_cons (ps_set (i := 9) sc_law_n_doors.nd rfl (Or.inl rfl) (pe_bm0 PySem.F.plainAttrs_list PySem.F.slot_list_pop PySem.F.type_list_pop mt_pop (pe_ix ix_list (pv 3) (pv 6) (fun _ _ => rfl))))
    (pss_cons (ps_set (i := 10) sc_law_n_doors.nd rfl (Or.inl rfl) (pe_ifExp (pt_val (pv 8)) (pv 9) (pe_bm0 PySem.F.plainAttrs_list PySem.F.slot_list_pop PySem.F.type_list_pop mt_pop (pe_ix ix_list (pv 3) (pv 7) (fun _ _ => rfl)))))
    (pss_one (ps_expr (pe_bm PySem.F.plainAttrs_list PySem.F.slot_list_extend PySem.F.type_list_extend mt_extend (pv 4) (pa_cons (pe_op op_cat (pe_lst (pa_cons (pe_tup (pa_cons (pv 6) (pa_cons (pv 7) (pa_cons (pv 9) (pa_cons (pv 10) pa_nil))))) pa_nil)) (pe_op op_rep (pe_lst (pa_cons (pe_tup (pa_cons (pv 7) (pa_cons (pv 6) (pa_cons (pv 10) (pa_cons (pv 9) pa_nil))))) pa_nil)) (pe_callTy call_int1 rfl T.b_int (by decide +kernel) (pa_cons (pe_not (pv 8)) pa_nil)))) pa_nil)))))) pss_nil))))))
    (pss_one (ps_ret (pv 4))))), ?_⟩
  have z1 := sizeLine_eq
  have hs0 := hS.hs
  have hM0 : ∀ p ∈ [st, q], H p ≠ none := fun p hp => by
    rcases List.mem_cons.mp hp with z | z
    · rw [z]; exact hs0.1
    · rw [List.mem_singleton.mp z]; exact hs0.2.1
  refine r_seq (r_par (r_cons (lcg_lots_rng (n := many) [st, q] (fun R h => ⟨_, rfl, h⟩) hF hM0 (by omega) (fun _ => rfl) lotW (fun F F2 us h x => x.up h) (fun k F H => Strm F H st q (c + 10 * (k : Nat))) (jstep (f := fun k => c + 10 * (k : Nat)) hS) (by simpa using hS) ?_ ?_)))
  · intro k F1 H1 Kk hk e s k1
    refine r_call (r_cons ⟨_, rfl, r_cons ?_⟩)
    refine ev_l (d := 1) (ev_cons (ev_int _) (ev_cons (ev_int _) (ev_cons (ev_int _) (ev_cons ev_str (ev_cons ev_str (ev_cons (ev_tup (ev_cons ev_str ev_nil)) ev_nil)))))) e.fh fun a xs F2 H2 e2 ha hl hx => ?_
    refine ⟨st, q, a, xs, F2, _, rfl, e2.fh, s.ex0 e2, ha, by omega, by omega, fun p ys H3 pm e3 s3 hp hd3 fp => k1 p ys F2 H3 ((e2.mono (by simp)).trans e3) ?_ fp hd3 ⟨fun x hx' => hx x (pm.mem_iff.mp hx'), by rw [pm.length_eq]; omega⟩ (s3.le (by rw [hl]; omega))⟩
    cases z : H1 p with
    | none => rfl
    | some o => exact absurd hp (e2.dm p (ne_none z))
  intro A qs F1 H1 e1 hA fA dA ln An nn lo s1
  refine ⟨Nat.zero_le _, fun fp hfp => ⟨_, _, rfl, ?_⟩⟩
  have E1 := e1.frz hA dA fA
  have lo1 : LotG qs (upd F1 A (.lst (qs.map V.ref))) H1 (fun _ us => lotW (upd F1 A (.lst (qs.map V.ref))) us) := lotFz (lo.imp (R2 := fun _ us => lotW (upd F1 A (.lst (qs.map V.ref))) us) fun j us h => h.up (Same.upd fA)) An
  have s1' := s1.fz (o := .lst (qs.map V.ref)) hA hS
  have dA' : (upd F1 A (.lst (qs.map V.ref))) A = some (.lst (qs.map V.ref)) := upd_same
  generalize upd F1 A (.lst (qs.map V.ref)) = F2 at E1 lo1 s1' dA'
  have fpq : fp ∉ qs := lotNin lo1 hfp
  have f2 : F2 fp = none := Same.free E1.fh hfp
  have hfp0 : H fp = none := by
    cases z : H fp with
    | none => rfl
    | some o => exact absurd hfp (E1.dm fp (ne_none z))
  have nst := hS.ne (p := fp) (.inr hfp0)
  have e3 : Ex [] F2 H1 F2 (upd H1 fp (.lst [])) := Ex.new E1.fh hfp
  have d3 : (upd H1 fp (.lst [])) fp = some (.lst []) := upd_same
  have s3 := s1'.ex0 e3
  have lo3 := lo1.ex e3 (by simp) fun _ _ h => h
  have E3 : Ex [st, q] F H F2 (upd H1 fp (.lst [])) := E1.trans (e3.mono (by simp))
  dsimp only
  show tSeq _ _ _ _ (upd H1 fp (.lst []))
  generalize upd H1 fp (.lst []) = H3 at e3 d3 s3 lo3 E3
  have qst : ∀ p ∈ qs, p ∉ [st, q] := fun p hp => hS.ne (.inr (nn p hp))
  refine r_seq (r_for (r_cons (r_op (r_op (r_call (r_cons ⟨_, rfl, r_cons ⟨_, rfl, _, _, rfl, rfl, .inl ⟨by omega, by omega⟩, ?_⟩⟩))))))
  refine ⟨st, q, 2 * many, F2, _, rfl, E3.fh, s3, by omega, by omega, by omega, fun d H4 d0 d1 e4 s4 => ⟨_, rfl, _, _, rfl, rfl, _, _, rfl, rfl, _, rfl, by omega, by omega, ?_⟩⟩
  obtain ⟨nI, hnI⟩ : ∃ nI : Nat, d + (many : Int) - 1 = nI := ⟨(d + (many : Int) - 1).toNat, by omega⟩
  rw [hnI]
  have E4 := E3.trans e4
  have d4 := e4.at d3 nst
  have lo4 := lo3.ex e4 qst fun _ _ h => h
  refine forg_rngB (st :: q :: fp :: qs) e4.fh (fun i σ1 F5 H5 => (∃ a5 a6 a7 a8 a9 a10, σ1 = [some (.ref st), some (.int many), some (.bl hv), some (.ref A), some (.ref fp), a5, a6, a7, a8, a9, a10]) ∧ Strm F5 H5 st q (c + 101 + 3 * (i : Nat)) ∧ F5 fp = none ∧ LotG qs F5 H5 (fun _ us => lotW F5 us) ∧
      ∃ ys rs, H5 fp = some (.lst ys) ∧ Rds F5 rs ys ∧ (∀ r ∈ rs, r.OkN many) ∧ rs.length ≤ 2 * i) ⟨⟨_, _, _, _, _, _, rfl⟩, by simpa using s4.le (by omega), f2, lo4, [], [], d4, Wks.nil, by simp, by simp⟩ ?_ ?_
  · rintro i σ1 F5 H5 Nk hi e ⟨⟨a5, a6, a7, a8, a9, a10, rfl⟩, s5, f5, lo5, ys, rs, d5, w5, ok5, l5⟩ nk
    have lys := Rds.len w5
    refine r_seq (r_asg (d_one (k := i) e.fh s5 hm0 hm (by omega) fun o1 H6 ho1 e6 s6 => ?_))
    refine r_next ?_
    dsimp only
    refine r_seq (r_asg (d_other (k := i) e6.fh s6 hm0 hm (by omega) fun o2 H7 ho2 e7 s7 => ?_))
    refine r_next ?_
    dsimp only
    refine r_seq (r_asg (d_half e7.fh s7 (by omega) fun hb H8 e8 s8 => ?_))
    refine r_next ?_
    dsimp only
    have E8 : Ex [st, q] F5 H5 F5 H8 := e6.trans (e7.trans e8)
    have lo8 := lo5.ex E8 qst (R2 := fun _ us => lotW F5 us) fun _ _ h => h
    have d8 := E8.at d5 nst
    have A5 := e.ff _ _ dA'
    have E8' : Ex (st :: q :: fp :: qs) F5 H5 F5 H8 := E8.mono (by intro b h; simp only [List.mem_cons, List.not_mem_nil, or_false] at h ⊢; rcases h with h | h <;> simp [h])
    have ja : qs[o1]? = some (qs[o1]'(by omega)) := by simp
    have jb : qs[o2]? = some (qs[o2]'(by omega)) := by simp
    generalize (qs[o1]'(by omega)) = pa at ja
    generalize (qs[o2]'(by omega)) = pb at jb
    obtain ⟨fa, ua, hua, lwa⟩ := lo8.at' _ _ ja
    obtain ⟨fb, ub, hub, lwb⟩ := lo8.at' _ _ jb
    have skip : Nk [some (.ref st), some (.int many), some (.bl hv), some (.ref A), some (.ref fp), some (.int (i : Nat)), some (.int (o1 : Nat)), some (.int (o2 : Nat)), some (.bl hb), a9, a10] H8 :=
      nk _ F5 H8 E8' ⟨⟨_, _, _, _, _, _, rfl⟩, s8.le (by omega), f5, lo8, ys, rs, d8, w5, ok5, by omega⟩
    refine r_ifS ⟨_, rfl, _, rfl, A, _, _, .ref pa, rfl, rfl, SqL.of (E8.fh _ _ A5), at_refs ja, pa, ua, rfl, .inl (SqL.of hua), _, _, rfl, rfl, _, rfl, ?_⟩
    refine ite2 (fun c1 => ?_) (fun _ => iteF (r_next skip))
    refine ⟨_, rfl, _, rfl, A, _, _, .ref pb, rfl, rfl, SqL.of (E8.fh _ _ A5), at_refs jb, pb, ub, rfl, .inl (SqL.of hub), _, _, rfl, rfl, _, rfl, ?_⟩
    refine ite2 (fun c2 => ?_) (fun _ => r_next skip)
    have la : 1 < ua.length := by
      have : (1 : Int) < ua.length := by simpa using c1
      omega
    have lb : 1 < ub.length := by
      have : (1 : Int) < ub.length := by simpa using c2
      omega
    obtain ⟨y, hy, hym⟩ := pop_last (us := ua) (by omega)
    refine r_seq (r_asg ⟨_, rfl, _, rfl, A, _, _, .ref pa, rfl, rfl, SqL.of (E8.fh _ _ A5), at_refs ja, .inl ⟨rfl, _, SqL.of hua⟩, pa, ua, y, rfl, rfl, hua, hy, ?_⟩)
    have e9 : Ex qs F5 H8 F5 (upd H8 pa (.lst ua.dropLast)) := Ex.put E8.fh fa (List.mem_of_getElem? ja)
    have lo9 : LotG qs F5 (upd H8 pa (.lst ua.dropLast)) (fun _ us => lotW F5 us) := lo8.put ja lwa.pop fun _ _ _ h => h
    have hub9 : ∃ ub', (upd H8 pa (.lst ua.dropLast)) pb = some (.lst ub') ∧ 0 < ub'.length := by
      by_cases z : pb = pa
      · rw [z]
        exact ⟨_, upd_same, by simp; omega⟩
      · exact ⟨ub, by rw [upd_ne z]; exact hub, by omega⟩
    have yok : okW F5 1 y := lwa.1 y hym
    obtain ⟨ub', hub', lb'⟩ := hub9
    refine r_next ?_
    dsimp only
    show tSeq _ _ _ _ (upd H8 pa (.lst ua.dropLast))
    generalize upd H8 pa (.lst ua.dropLast) = H9 at e9 lo9 hub'
    refine r_seq (r_asg (d_into e9.fh A5 lo9 jb hub' lb' yok fun vi H10 e10 wvi lo10 => ?_))
    refine r_next ?_
    dsimp only
    have E10 : Ex qs F5 H8 F5 H10 := e9.trans e10
    have d10 := E10.at d8 fpq
    have s10 : Strm F5 H10 st q (c + 101 + 3 * (i : Nat) + 1 + 1 + 1) := s8.ex E10 (fun z => qst st z (by simp)) (fun z => qst q z (by simp))
    refine r_drop ⟨_, rfl, .inl ⟨rfl, _, SqL.of d10⟩, r_cons (r_op (r_lst (r_cons (r_tup ⟨_, rfl, _, rfl, _, rfl, _, rfl, by show 4 ≤ sizeLine; omega, fun t1 ht1 => ⟨by show 1 ≤ sizeLine; omega, fun l1 hl1 => ?_⟩⟩))))⟩
    obtain ⟨k1, okk1, wk1⟩ := (yok.mono (by decide : 1 ≤ 3)).wok
    obtain ⟨k2, okk2, wk2⟩ := (wvi.mono (by decide : 1 ≤ 3)).wok
    have e11 : Ex [] F5 H10 (upd F5 t1 (.tup [.int o1, .int o2, y, vi])) (upd H10 t1 (.tup [.int o1, .int o2, y, vi])) := Ex.newF E10.fh ht1
    have wn1 : Wk (upd F5 t1 (.tup [.int o1, .int o2, y, vi])) (Rd.mk o1 o2 k1 k2).w (.ref t1) := Rd.wk_new (Same.free E10.fh ht1) wk1 wk2
    generalize upd F5 t1 (.tup [.int o1, .int o2, y, vi]) = F11 at e11 wn1
    generalize upd H10 t1 (.tup [.int o1, .int o2, y, vi]) = H11 at e11 hl1 ⊢
    have e12 : Ex [] F11 H11 F11 (upd H11 l1 (.lst [.ref t1])) := Ex.new e11.fh hl1
    have dl1 : (upd H11 l1 (.lst [.ref t1])) l1 = some (.lst [.ref t1]) := upd_same
    generalize upd H11 l1 (.lst [.ref t1]) = H12 at e12 dl1 ⊢
    refine r_op (r_lst (r_cons (r_tup ⟨_, rfl, _, rfl, _, rfl, _, rfl, by show 4 ≤ sizeLine; omega, fun t2 ht2 => ⟨by show 1 ≤ sizeLine; omega, fun l2 hl2 => ?_⟩⟩)))
    have e13 : Ex [] F11 H12 (upd F11 t2 (.tup [.int o2, .int o1, vi, y])) (upd H12 t2 (.tup [.int o2, .int o1, vi, y])) := Ex.newF e12.fh ht2
    have wn2 : Wk (upd F11 t2 (.tup [.int o2, .int o1, vi, y])) (Rd.mk o2 o1 k2 k1).w (.ref t2) := Rd.wk_new (Same.free e12.fh ht2) (wk2.up e11.ff) (wk1.up e11.ff)
    generalize upd F11 t2 (.tup [.int o2, .int o1, vi, y]) = F13 at e13 wn2
    generalize upd H12 t2 (.tup [.int o2, .int o1, vi, y]) = H13 at e13 hl2 ⊢
    have e14 : Ex [] F13 H13 F13 (upd H13 l2 (.lst [.ref t2])) := Ex.new e13.fh hl2
    have dl2 : (upd H13 l2 (.lst [.ref t2])) l2 = some (.lst [.ref t2]) := upd_same
    generalize upd H13 l2 (.lst [.ref t2]) = H14 at e14 dl2 ⊢
    have E14 : Ex [] F5 H10 F13 H14 := e11.trans (e12.trans (e13.trans e14))
    have dl1' := (e13.trans e14).at dl1
    refine ⟨_, rfl, hb, rfl, .inr ⟨!hb, rfl, l2, _, [.ref t2], rfl, rfl, dl2, by cases hb <;> decide, by cases hb <;> decide, by cases hb <;> simp [sizeLine_eq], fun l3 hl3 => ?_⟩⟩
    obtain ⟨X3, hX3⟩ : ∃ X3, (List.replicate (Int.toNat (if (!hb) = true then 1 else 0)) [V.ref t2]).flatten = X3 := ⟨_, rfl⟩
    rw [hX3]
    have wx : ∃ rx : List Rd, Rds F13 rx X3 ∧ (∀ r ∈ rx, r = Rd.mk o2 o1 k2 k1) ∧ rx.length ≤ 1 := by
      cases hb with
      | true =>
        simp at hX3
        subst hX3
        exact ⟨[], Wks.nil, by simp, by simp⟩
      | false =>
        simp at hX3
        subst hX3
        exact ⟨[Rd.mk o2 o1 k2 k1], Wks.one wn2, by simp, by simp⟩
    obtain ⟨rx, wx, okx, lx⟩ := wx
    have lX3 := Rds.len wx
    have e15 : Ex [] F13 H14 F13 (upd H14 l3 (.lst X3)) := Ex.new e14.fh hl3
    have dl3 : (upd H14 l3 (.lst X3)) l3 = some (.lst X3) := upd_same
    generalize upd H14 l3 (.lst X3) = H15 at e15 dl3 ⊢
    refine ⟨l1, l3, [.ref t1], X3, rfl, rfl, e15.at dl1', dl3, by simp; omega, fun l4 hl4 => ?_⟩
    have e16 : Ex [] F13 H15 F13 (upd H15 l4 (.lst ([.ref t1] ++ X3))) := Ex.new e15.fh hl4
    have dl4 : (upd H15 l4 (.lst ([.ref t1] ++ X3))) l4 = some (.lst ([.ref t1] ++ X3)) := upd_same
    generalize upd H15 l4 (.lst ([.ref t1] ++ X3)) = H16 at e16 dl4 ⊢
    have E16 : Ex [] F5 H10 F13 H16 := E14.trans (e15.trans e16)
    have d16 := E16.at d10
    have f16 := E16.nf f5 (ne_none d10)
    refine ⟨fp, l4, ys, _, rfl, rfl, d16, dl4, by simp; omega, ?_⟩
    have e17 : Ex [fp] F13 H16 F13 (upd H16 fp (.lst (ys ++ ([.ref t1] ++ X3)))) := Ex.put e16.fh f16 (by simp)
    have lo16 := lo10.ex E16 (by simp) (R2 := fun _ us => lotW F13 us) fun _ us h => h.up E16.ff
    have lo17 := lo16.ex e17 (fun p hp z => fpq (by rw [← List.mem_singleton.mp z]; exact hp)) (R2 := fun _ us => lotW F13 us) fun _ _ h => h
    have s17 := (s10.ex0 E16).ex e17 (by simp at nst ⊢; exact fun z => nst.1 z.symm) (by simp at nst ⊢; exact fun z => nst.2 z.symm)
    have m1 : ∀ b ∈ qs, b ∈ st :: q :: fp :: qs := fun b hb => by simp [hb]
    refine nk _ F13 _ (E8'.trans ((E10.mono m1).trans ((E16.mono (by simp)).trans (e17.mono (by simp))))) ⟨⟨_, _, _, _, _, _, rfl⟩, s17.le (by omega), f16, lo17, ys ++ ([.ref t1] ++ X3), rs ++ (Rd.mk o1 o2 k1 k2 :: rx), upd_same, ?_, fun r hr => ?_, by simp; omega⟩
    · show Wks _ ((rs ++ (Rd.mk o1 o2 k1 k2 :: rx)).map Rd.w) _
      rw [List.map_append, List.map_cons]
      exact Wks.app (Wks.up E16.ff w5) (Wks.cons (wn1.up (e12.trans (e13.trans e14)).ff) wx)
    · rcases List.mem_append.mp hr with z | z
      · exact ok5 r z
      · rcases List.mem_cons.mp z with z | z
        · rw [z]
          exact ⟨ho1, ho2, okk1, okk2⟩
        · rw [okx r z]
          exact ⟨ho2, ho1, okk2, okk1⟩
  · rintro σ1 F5 H5 e ⟨⟨a5, a6, a7, a8, a9, a10, rfl⟩, s5, f5, lo5, ys, rs, d5, w5, ok5, l5⟩
    have E5 : Ex [st, q] F H F5 H5 := E4.newly' e (fun p hp => by
      simp only [List.mem_cons] at hp
      rcases hp with z | z | z | z
      · right; simp [z]
      · right; simp [z]
      · left; rw [z]; exact hfp0
      · left; exact nn p z)
    have E6 := E5.frz hfp0 d5 f5
    dsimp only
    exact ⟨_, rfl, kk _ _ H5 E6 ((s5.fz hfp0 hS).le (by omega)) ⟨fp, ys, rs, rfl, upd_same, Wks.up (Same.upd f5) w5, ok5, by omega⟩⟩
end
end T3

namespace T3
open PySem PySem.Spec PyProof.Rows L2 Ly
section
variable {P : Program} {w : World} {K : PySem.W.Frag} {mg : Str → Option Value} {base : Heap}
def LV (F : Hp) (n m : Nat) (xs : List V) : Prop := (∀ x ∈ xs, ∃ r : Rd, r.OkN n ∧ Wk F r.w x) ∧ xs.length ≤ m
theorem LV.up {F F2 : Hp} {n m : Nat} {xs : List V} (h : Same F F2) (x : LV F n m xs) : LV F2 n m xs := ⟨fun y hy => by
  obtain ⟨r, a, b⟩ := x.1 y hy
  exact ⟨r, a, b.up h⟩, x.2⟩
theorem lv_rds {F : Hp} {n : Nat} : ∀ {xs : List V}, (∀ x ∈ xs, ∃ r : Rd, r.OkN n ∧ Wk F r.w x) → ∃ rs, Rds F rs xs ∧ (∀ r ∈ rs, r.OkN n) ∧ rs.length = xs.length
  | [], _ => ⟨[], Wks.nil, by simp, rfl⟩
  | x :: xs, h => by
    obtain ⟨r, a, b⟩ := h x (by simp)
    obtain ⟨rs, h1, h2, h3⟩ := lv_rds (xs := xs) fun y hy => h y (by simp [hy])
    refine ⟨r :: rs, Wks.cons b h1, fun z hz => ?_, by simp [h3]⟩
    rcases List.mem_cons.mp hz with e | e
    · rw [e]; exact a
    · exact h2 z e
theorem rds_lv {F : Hp} {n m : Nat} {xs : List V} {rs : List Rd} (h : Rds F rs xs) (ok : ∀ r ∈ rs, r.OkN n) (l : rs.length ≤ m) : LV F n m xs := ⟨fun x hx => by
  obtain ⟨j, hj⟩ := List.getElem?_of_mem hx
  obtain ⟨r, a, b⟩ := Rds.get h hj
  exact ⟨r, ok r (List.mem_of_getElem? a), b⟩, by rw [Rds.len h]; exact l⟩
theorem LV.rl {F : Hp} {n m : Nat} {xs : List V} {p : Addr} (h : LV F n m xs) (e : F p = some (.lst xs)) : RL m F n (.ref p) := by
  obtain ⟨rs, a, b, c⟩ := lv_rds h.1
  exact ⟨p, xs, rs, rfl, e, a, b, by rw [c]; exact h.2⟩
def spNNet : Sp := fun vs H Q _ => ∃ (st q : Addr) (F : Hp) (c : Int), vs = [.ref st, .int 7] ∧ Same F H ∧ Strm F H st q c ∧ c < 800000000 ∧
  ∀ t sp svs rv sg F' H', Ex [st, q] F H F' H' → Strm F' H' st q (c + 5000) → F' t = some (.tup [.ref sp, rv]) → F' sp = some (.lst svs) → Wks F' sg svs → (∀ k ∈ sg, Wok k) → 0 < sg.length → sg.length < 10 → RL 100 F' sg.length rv → Q (.ref t) H'
theorem ok_n_net (T : Top K mg) : Ok P w K mg base "_law_n_net" 4 ["_law_stream", "_law_most"] spNNet := by
  have G_draw : Ok P w K mg base "_law_draw" 1 ["_law_stream", "_law_many"] spDraw := ok_law_draw T
  have G_mixed : Ok P w K mg base "_law_mixed" 2 ["_law_stream", "_law_some"] spMixed := ok_law_mixed T
  have G_NSigns : Ok P w K mg base "_law_n_signs" 3 ["_law_stream", "_law_many"] spNSigns := ok_n_signs T
  have G_NCrowd : Ok P w K mg base "_law_n_crowd" 3 ["_law_stream", "_law_many"] spNCrowd := ok_n_crowd T
  have G_NRow : Ok P w K mg base "_law_n_row" 3 ["_law_stream", "_law_many"] spNRow := ok_n_row T
  have G_NDoors : Ok P w K mg base "_law_n_doors" 3 ["_law_stream", "_law_many", "_law_halves"] spNDoors := ok_n_doors T
  refine ok_of T.g__law_n_net T.F_law_n_net sc_law_n_net (fun _ _ _ _ _ _ us hl => match us, hl with | [_, _], _ => rfl) (fun vs H Q E h => ?_) (fun cdv A outer s H vs Q E hr h => ?_)
  · first | (obtain ⟨rfl, _⟩ := h; rfl) | (obtain ⟨_, rfl, _⟩ := h; rfl) | (obtain ⟨_, _, rfl, _⟩ := h; rfl) | (obtain ⟨_, _, _, rfl, _⟩ := h; rfl) | (obtain ⟨_, _, _, _, rfl, _⟩ := h; rfl) | (obtain ⟨_, _, _, _, _, rfl, _⟩ := h; rfl) | (obtain ⟨_, _, _, _, _, _, rfl, _⟩ := h; rfl) | (obtain ⟨_, _, _, _, _, _, _, rfl, _⟩ := h; rfl) | (obtain ⟨_, _, _, _, _, _, _, _, rfl, _⟩ := h; rfl) | (obtain ⟨_, _, _, _, _, _, _, _, _, rfl, _⟩ := h; rfl) | (obtain ⟨_, _, _, _, _, _, _, _, _, _, rfl, _⟩ := h; rfl) | (obtain ⟨_, _, _, _, _, _, _, _, _, _, _, rfl, _⟩ := h; rfl)
  obtain ⟨st, q, F, c, rfl, hF, hS, hc, kk⟩ := h
  refine ⟨_, (pss_cons (ps_set (i := 2) sc_law_n_net.nd rfl (Or.inl rfl) (pe_op op_add pe_int (pe_ok G_draw hr (pa_cons (pv 0) (pa_cons (pv 1) pa_nil)))))
    (pss_cons (ps_par (i := 3) (j := 4) rfl sc_law_n_net.nd rfl rfl (by decide) rfl rfl (pa_cons (pe_ok G_NSigns hr (pa_cons (pv 0) (pa_cons (pv 2) pa_nil))) (pa_cons (pe_ok G_draw hr (pa_cons (pv 0) (pa_cons pe_int pa_nil))) pa_nil)) rfl)
    (pss_cons (ps_if (pt_cmpR op_lt (pv 4) pe_int (nomark _)) (pss_one (ps_ret (pe_tup (pa_cons (pv 3) (pa_cons (pe_ok G_NCrowd hr (pa_cons (pv 0) (pa_cons (pv 2) pa_nil))) pa_nil))))) pss_nil)
    (pss_cons (ps_set (i := 5) sc_law_n_net.nd rfl (Or.inl rfl) (pe_ifExp (pt_cmpR op_eq (pv 4) pe_int (nomark _)) (pe_ok G_NDoors hr (pa_cons (pv 0) (pa_cons (pv 2) (pa_cons pe_bl pa_nil)))) (pe_ok G_NRow hr (pa_cons (pv 0) (pa_cons (pv 2) pa_nil)))))
    (pss_one (ps_ret (pe_tup (pa_cons (pv 3) (pa_cons (pe_ok G_mixed hr (pa_cons (pv 0) (pa_cons (pv 5) pa_nil))) pa_nil))))))))), ?_⟩
  have z1 := sizeLine_eq
  refine r_seq (r_asg (r_op (r_c (r_call (r_cons ⟨_, rfl, r_cons ⟨_, rfl, ?_⟩⟩)))))
  refine ⟨st, q, 7, F, c, rfl, hF, hS, by decide, by decide, by omega, fun d H1 d0 d1 e1 s1 => ⟨_, _, rfl, rfl, ?_⟩⟩
  obtain ⟨m, hm⟩ : ∃ m : Nat, 1 + d = (m : Int) := ⟨(1 + d).toNat, by omega⟩
  refine r_next ?_
  dsimp only
  rw [hm]
  refine r_seq (r_par (r_cons (r_call (r_cons ⟨_, rfl, r_cons ⟨_, rfl, ?_⟩⟩))))
  refine ⟨st, q, m, F, c + 1, rfl, e1.fh, s1, by omega, by omega, fun sp svs sg F2 H2 e2 s2 hsp hsw hsk hsl => r_cons (r_call (r_cons ⟨_, rfl, ?_⟩))⟩
  have E2 := e1.trans e2
  refine ⟨st, q, 4, F2, _, rfl, e2.fh, s2, by decide, by decide, by omega, fun wy H3 w0 w1 e3 s3 => ⟨_, _, rfl, ?_⟩⟩
  have E3 := E2.trans e3
  dsimp only
  have fin : ∀ (rv : V) (F4 H4 : Hp) (c4 : Int), Ex [st, q] F2 H3 F4 H4 → Strm F4 H4 st q c4 → c4 ≤ c + 4000 → RL 100 F4 m rv → ∀ t, H4 t = none → Q (.ref t) (upd H4 t (.tup [.ref sp, rv])) := by
    intro rv F4 H4 c4 e4 s4 hc4 hrv t ht
    have e5 : Ex [] F4 H4 (upd F4 t (.tup [.ref sp, rv])) (upd H4 t (.tup [.ref sp, rv])) := Ex.newF e4.fh ht
    have le := Same.trans e4.ff e5.ff
    exact kk t sp svs rv sg _ _ ((E3.trans e4).trans (e5.mono (by simp))) ((s4.ex0 e5).le (by omega)) upd_same (le _ _ hsp) (hsw.up le) hsk (by omega) (by omega) (by rw [hsl]; exact hrv.up e5.ff)
  refine r_seq (r_ifS ⟨_, rfl, _, _, rfl, rfl, _, rfl, ?_⟩)
  refine ite2 (fun _ => ?_) (fun _ => r_next ?_)
  · refine r_ret (r_tup (r_cons ⟨_, rfl, r_cons (r_call (r_cons ⟨_, rfl, r_cons ⟨_, rfl, ?_⟩⟩))⟩))
    refine ⟨st, q, m, F2, _, rfl, e3.fh, s3, by omega, by omega, by omega, fun rv F4 H4 e4 s4 hr => ⟨by show 2 ≤ sizeLine; omega, fun t ht => fin rv F4 H4 _ e4 s4 (by omega) hr t ht⟩⟩
  · dsimp only
    have fin2 : ∀ (rv : V) (F4 H4 : Hp) (c4 : Int), Ex [st, q] F2 H3 F4 H4 → Strm F4 H4 st q c4 → c4 ≤ c + 3000 → RL 100 F4 m rv →
        tRet (tTup (tCons (tVar 3) (tCons (tCall spMixed [] E0 (tCons (tVar 0) (tCons (tVar 5) tNil))) tNil))) { nx := fun _ H' => Q .non H', rt := Q } [some (.ref st), some (.int 7), some (.int m), some (.ref sp), some (.int wy), some rv] H4 := by
      intro rv F4 H4 c4 e4 s4 hc4 hrv
      obtain ⟨p, ys, rs, rfl, hp, hw, hok, hl⟩ := hrv
      have lys := Rds.len hw
      have lv := rds_lv hw hok hl
      refine r_ret (r_tup (r_cons ⟨_, rfl, r_cons (r_call (r_cons ⟨_, rfl, r_cons ⟨_, rfl, ?_⟩⟩))⟩))
      refine ⟨st, q, p, ys, F4, c4, rfl, e4.fh, s4, hp, by omega, by omega, fun p2 zs H5 pm e5 s5 hp2 hd2 fp2 => ⟨by show 2 ≤ sizeLine; omega, fun t ht => ?_⟩⟩
      have e6 := e5.frz hp2 hd2 fp2
      have lz : LV F4 m 100 zs := ⟨fun x hx => lv.1 x (pm.mem_iff.mp hx), by rw [pm.length_eq]; exact lv.2⟩
      exact fin _ _ H5 _ (e4.trans e6) (s5.fz hp2 s4) (by omega) ((lz.up (Same.upd fp2)).rl upd_same) t ht
    refine r_seq (r_asg (r_if ⟨_, rfl, rfl, _, rfl, ?_⟩))
    refine ite2 (fun _ => ?_) (fun _ => ?_)
    · refine r_call (r_cons ⟨_, rfl, r_cons ⟨_, rfl, r_cons (r_c ?_)⟩⟩)
      refine ⟨st, q, m, true, F2, _, rfl, e3.fh, s3, by omega, by omega, by omega, fun rv F4 H4 e4 s4 hr => ?_⟩
      refine r_next ?_
      dsimp only
      exact fin2 rv F4 H4 _ e4 s4 (by omega) hr
    · refine r_call (r_cons ⟨_, rfl, r_cons ⟨_, rfl, ?_⟩⟩)
      refine ⟨st, q, m, F2, _, rfl, e3.fh, s3, by omega, by omega, by omega, fun rv F4 H4 e4 s4 hr => ?_⟩
      refine r_next ?_
      dsimp only
      exact fin2 rv F4 H4 _ e4 s4 (by omega) hr
end
end T3

namespace T3
open PySem PySem.Spec PyProof.Rows L2 Ly
section
variable {P : Program} {w : World} {K : PySem.W.Frag} {mg : Str → Option Value} {base : Heap}
/-! ### the plain law -/
theorem back_strong {rs ss : List Rd} {n : Nat} (h : ss.Perm (rs.map Rd.rev)) : ((∀ v, v < n → Rch (gOut rs) 0 v) ∧ ∀ v, v < n → Rch (gIn rs) 0 v) ↔ ((∀ v, v < n → Rch (gOut ss) 0 v) ∧ ∀ v, v < n → Rch (gIn ss) 0 v) := by
  have k1 : ∀ u v, v ∈ gOut ss u ↔ v ∈ gIn rs u := fun u v => by
    rw [mem_gOut, mem_gIn]
    constructor
    · rintro ⟨r, hr, h1, h2⟩
      obtain ⟨s, hs, rfl⟩ := List.mem_map.mp (h.mem_iff.mp hr)
      exact ⟨s, hs, h1, h2⟩
    · rintro ⟨r, hr, h1, h2⟩
      exact ⟨r.rev, h.mem_iff.mpr (List.mem_map.mpr ⟨r, hr, rfl⟩), h1, h2⟩
  have k2 : ∀ u v, v ∈ gIn ss u ↔ v ∈ gOut rs u := fun u v => by
    rw [mem_gOut, mem_gIn]
    constructor
    · rintro ⟨r, hr, h1, h2⟩
      obtain ⟨s, hs, rfl⟩ := List.mem_map.mp (h.mem_iff.mp hr)
      exact ⟨s, hs, h1, h2⟩
    · rintro ⟨r, hr, h1, h2⟩
      exact ⟨r.rev, h.mem_iff.mpr (List.mem_map.mpr ⟨r, hr, rfl⟩), h1, h2⟩
  constructor
  · rintro ⟨a, b⟩
    exact ⟨fun v hv => (b v hv).mono fun u v => (k1 u v).mpr, fun v hv => (a v hv).mono fun u v => (k2 u v).mpr⟩
  · rintro ⟨a, b⟩
    exact ⟨fun v hv => (b v hv).mono fun u v => (k2 u v).mp, fun v hv => (a v hv).mono fun u v => (k1 u v).mp⟩
theorem tw_rev {rs : List Rd} (h : tw rs = true) : ∀ r ∈ rs, r.rev ∈ rs := by
  unfold tw at h
  rw [Bool.and_eq_true, List.all_eq_true] at h
  intro r hr
  simpa using h.2 r hr
/-- a two-way net is joined just where it is strong -/
theorem two_way_joined {rs : List Rd} {n : Nat} (h : tw rs = true) : (∀ v, v < n → Rch (gAll rs) 0 v) ↔ ((∀ v, v < n → Rch (gOut rs) 0 v) ∧ ∀ v, v < n → Rch (gIn rs) 0 v) := by
  have rv := tw_rev h
  constructor
  · intro a
    refine ⟨fun v hv => (a v hv).mono fun u v q => ?_, fun v hv => (a v hv).mono fun u v q => ?_⟩
    · obtain ⟨r, hr, ⟨h1, h2⟩ | ⟨h1, h2⟩⟩ := mem_gAll.mp q
      · exact mem_gOut.mpr ⟨r, hr, h1, h2⟩
      · exact mem_gOut.mpr ⟨r.rev, rv r hr, h1, h2⟩
    · obtain ⟨r, hr, ⟨h1, h2⟩ | ⟨h1, h2⟩⟩ := mem_gAll.mp q
      · exact mem_gIn.mpr ⟨r.rev, rv r hr, h1, h2⟩
      · exact mem_gIn.mpr ⟨r, hr, h1, h2⟩
  · rintro ⟨a, _⟩ v hv
    refine (a v hv).mono fun u v q => ?_
    obtain ⟨r, hr, h1, h2⟩ := mem_gOut.mp q
    exact mem_gAll.mpr ⟨r, hr, .inl ⟨h1, h2⟩⟩
/-- two nets beside each other are not joined -/
theorem beside_apart {rs ss : List Rd} {n : Nat} (h : ss.Perm (rs ++ rs.map (Rd.sh n))) (ok : ∀ r ∈ rs, r.OkN n) (h0 : 0 < n) : ¬ ∀ v, v < n + n → Rch (gAll ss) 0 v := by
  intro a
  have key : ∀ v, Rch (gAll ss) 0 v → v < n := fun v q => by
    induction q with
    | refl => exact h0
    | @step u v _ hv ih =>
      obtain ⟨r, hr, z⟩ := mem_gAll.mp hv
      rcases List.mem_append.mp (h.mem_iff.mp hr) with y | y
      · have o := ok r y
        rcases z with ⟨_, rfl⟩ | ⟨_, rfl⟩
        · exact o.hb
        · exact o.ha
      · obtain ⟨s, hs, rfl⟩ := List.mem_map.mp y
        rcases z with ⟨rfl, _⟩ | ⟨rfl, _⟩
        · simp [Rd.sh] at ih
          omega
        · simp [Rd.sh] at ih
          omega
  exact absurd (key n (a n (by omega))) (by omega)
theorem ew_inj {r s : Rd} : r.ew = s.ew ↔ r.a = s.a ∧ r.o = s.o := by
  unfold Rd.ew
  constructor
  · intro h
    simp at h
    exact ⟨by omega, h.2⟩
  · rintro ⟨h1, h2⟩
    rw [h1, h2]
theorem beside_two_way {rs ss : List Rd} {n : Nat} (h : ss.Perm (rs ++ rs.map (Rd.sh n))) (ok : ∀ r ∈ rs, r.OkN n) : tw ss = tw rs := by
  rw [tw_perm h]
  unfold tw
  have hd : decide ((eOnce ((rs ++ rs.map (Rd.sh n)).map Rd.ew)).length = (rs ++ rs.map (Rd.sh n)).length) = decide ((eOnce (rs.map Rd.ew)).length = rs.length) := by
    congr 1
    apply propext
    have a := eOnce_self ((rs ++ rs.map (Rd.sh n)).map Rd.ew)
    have b := eOnce_self (rs.map Rd.ew)
    rw [List.length_map] at a b
    rw [a, b, List.map_append, List.nodup_append]
    constructor
    · exact fun z => z.1
    · intro z
      refine ⟨z, ?_, ?_⟩
      · rw [List.map_map]
        unfold List.Nodup at z ⊢
        rw [List.pairwise_map] at z ⊢
        refine z.imp fun {r s} hne e => hne ?_
        have := ew_inj.mp e
        exact ew_inj.mpr ⟨by have h1 : r.a + n = s.a + n := this.1; omega, this.2⟩
      · intro x hx y hy e
        obtain ⟨r, hr, rfl⟩ := List.mem_map.mp hx
        obtain ⟨s', hs', rfl⟩ := List.mem_map.mp hy
        obtain ⟨s, hs, rfl⟩ := List.mem_map.mp hs'
        have h1 : r.a = s.a + n := (ew_inj.mp e).1
        have := (ok r hr).ha
        omega
  have ha : ((rs ++ rs.map (Rd.sh n)).all fun r => decide (r.rev ∈ rs ++ rs.map (Rd.sh n))) = rs.all fun r => decide (r.rev ∈ rs) := by
    rw [Bool.eq_iff_iff]
    simp only [List.all_eq_true, decide_eq_true_eq]
    constructor
    · intro q r hr
      rcases List.mem_append.mp (q r (List.mem_append_left _ hr)) with z | z
      · exact z
      · obtain ⟨s, hs, e⟩ := List.mem_map.mp z
        have h1 : s.a + n = r.b := congrArg Rd.a e
        have := (ok r hr).hb
        omega
    · intro q r hr
      rcases List.mem_append.mp hr with z | z
      · exact List.mem_append_left _ (q r z)
      · obtain ⟨s, hs, rfl⟩ := List.mem_map.mp z
        exact List.mem_append_right _ (List.mem_map.mpr ⟨s.rev, q s hs, rfl⟩)
  rw [hd, ha]
end
end T3

namespace T3
open PySem PySem.Spec PyProof.Rows L2 Ly
section
variable {P : Program} {w : World} {K : PySem.W.Frag} {mg : Str → Option Value} {base : Heap}
theorem lv_app {F : Hp} {n m m2 : Nat} {xs zs : List V} (h : LV F n m xs) (g : LV F n m2 zs) : LV F n (m + m2) (xs ++ zs) := ⟨fun x hx => by
  rcases List.mem_append.mp hx with z | z
  · exact h.1 x z
  · exact g.1 x z, by have := h.2; have := g.2; simp; omega⟩
theorem lv_one {F : Hp} {n : Nat} {x : V} {r : Rd} (o : r.OkN n) (h : Wk F r.w x) : LV F n 1 [x] := ⟨fun y hy => by
  rw [List.mem_singleton.mp hy]
  exact ⟨r, o, h⟩, by simp⟩
theorem lv_cut {F : Hp} {n m : Nat} {xs : List V} (h : LV F n m xs) (lo hi : Option Int) : LV F n m (cutV xs lo hi) := ⟨fun x hx => h.1 x (List.mem_of_mem_drop (List.mem_of_mem_take hx)), by
  have := cutV_length xs lo hi
  have := h.2
  omega⟩
/-- a list and one road more -/
theorem cat_one {i : Nat} {a : Addr} {xs : List V} {te : TE} {σ : L2.St} {F H : Hp} {Kk : VK} {st q : Addr} {c : Int} {n m : Nat} (hF : Same F H) (hi : σ[i]? = some (some (.ref a))) (ha : F a = some (.lst xs)) (hx : LV F n m xs) (hm : m < 1000)
    (hte : ∀ R : VK, (∀ x F1 H1, Ex [st, q] F H F1 H1 → Strm F1 H1 st q (c + 1) → (∃ r : Rd, r.OkN n ∧ Wk F1 r.w x) → R x H1) → te σ H R)
    (k : ∀ p F' H', Ex [st, q] F H F' H' → Strm F' H' st q (c + 1) → RL (m + 1) F' n (.ref p) → Kk (.ref p) H') : tOp rCat (tVar i) (tLst (tCons te tNil)) σ H Kk := by
  have z1 := sizeLine_eq
  refine r_op ⟨_, hi, r_lst (r_cons (hte _ fun x F1 H1 e1 s1 w1 => ⟨by show 1 ≤ sizeLine; omega, fun l hl => ?_⟩))⟩
  obtain ⟨r, ro, wr⟩ := w1
  have e2 : Ex [] F1 H1 F1 (upd H1 l (.lst [x])) := Ex.new e1.fh hl
  have hx2 := hx.2
  refine ⟨a, l, xs, [x], rfl, rfl, e2.fh _ _ (e1.ff _ _ ha), upd_same, by simp; omega, fun p hp => ?_⟩
  have s2 := s1.ex0 e2
  generalize upd H1 l (.lst [x]) = H2 at e2 s2 hp
  have e3 : Ex [] F1 H2 (upd F1 p (.lst (xs ++ [x]))) (upd H2 p (.lst (xs ++ [x]))) := Ex.newF e2.fh hp
  refine k p _ _ (e1.trans ((e2.trans e3).mono (by simp))) (s2.ex0 e3) ((lv_app (hx.up (Same.trans e1.ff e3.ff)) (lv_one ro (wr.up e3.ff))).rl upd_same)
def spNear : Sp := fun vs H Q _ => ∃ (st q sp : Addr) (rv : V) (svs : List V) (n : Nat) (F : Hp) (c : Int), vs = [.ref st, .ref sp, rv] ∧ Same F H ∧ Strm F H st q c ∧ F sp = some (.lst svs) ∧ svs.length = n ∧ RL 100 F n rv ∧ 0 < n ∧ n < 10 ∧ c < 900000000 ∧
  ∀ v F' H', Ex [st, q] F H F' H' → Strm F' H' st q (c + 100) → RL 300 F' n v → Q v H'
theorem ok_near (T : Top K mg) : Ok P w K mg base "_law_near" 3 ["_law_stream", "_law_signs", "_law_roads"] spNear := by
  have G_draw : Ok P w K mg base "_law_draw" 1 ["_law_stream", "_law_many"] spDraw := ok_law_draw T
  refine ok_of T.g__law_near T.F_law_near sc_law_near (fun _ _ _ _ _ _ us hl => match us, hl with | [_, _, _], _ => rfl) (fun vs H Q E h => ?_) (fun cdv A outer s H vs Q E hr h => ?_)
  · first | (obtain ⟨rfl, _⟩ := h; rfl) | (obtain ⟨_, rfl, _⟩ := h; rfl) | (obtain ⟨_, _, rfl, _⟩ := h; rfl) | (obtain ⟨_, _, _, rfl, _⟩ := h; rfl) | (obtain ⟨_, _, _, _, rfl, _⟩ := h; rfl) | (obtain ⟨_, _, _, _, _, rfl, _⟩ := h; rfl) | (obtain ⟨_, _, _, _, _, _, rfl, _⟩ := h; rfl) | (obtain ⟨_, _, _, _, _, _, _, rfl, _⟩ := h; rfl) | (obtain ⟨_, _, _, _, _, _, _, _, rfl, _⟩ := h; rfl) | (obtain ⟨_, _, _, _, _, _, _, _, _, rfl, _⟩ := h; rfl) | (obtain ⟨_, _, _, _, _, _, _, _, _, _, rfl, _⟩ := h; rfl) | (obtain ⟨_, _, _, _, _, _, _, _, _, _, _, rfl, _⟩ := h; rfl)
  obtain ⟨st, q, sp, rv, svs, n, F, c, rfl, hF, hS, hsp, hsl, ⟨ra, xs, rs, rfl, hra, hw, hok, hl⟩, hn0, hn, hc, kk⟩ := h
  refine ⟨_, (pss_cons (ps_if (pt_cmpR (op_eqD (hu64 hr)) (pv 2) (pe_lst pa_nil) (nomark _)) (pss_one (ps_ret (pe_lst (pa_cons (pe_tup (pa_cons pe_int (pa_cons pe_int (pa_cons pe_str (pa_cons pe_str pa_nil))))) pa_nil)))) pss_nil)
    (pss_cons (ps_par (i := 3) (j := 4) rfl sc_law_near.nd rfl rfl (by decide) rfl rfl (pa_cons (pe_ok G_draw hr (pa_cons (pv 0) (pa_cons (pe_callB call_len_seq rfl T.b_len (by decide +kernel) (pa_cons (pv 2) pa_nil)) pa_nil))) (pa_cons (pe_ok G_draw hr (pa_cons (pv 0) (pa_cons pe_int pa_nil))) pa_nil)) rfl)
    (pss_cons (ps_asg (pe_ix ix_list (pv 2) (pv 3) (fun _ _ => rfl)) (pg_tup rfl (pgs_cons (pg_name (i := 5) sc_law_near.nd rfl (Or.inl rfl)) (pgs_cons (pg_name (i := 6) sc_law_near.nd rfl (Or.inl rfl)) (pgs_cons (pg_name (i := 7) sc_law_near.nd rfl (Or.inl rfl)) (pgs_cons (pg_name (i := 8) sc_law_near.nd rfl (Or.inl rfl)) pgs_nil))))))
    (pss_cons (ps_set (i := 9) sc_law_near.nd rfl (Or.inl rfl) (pe_op op_cat (pe_slice sl_list (pv 2) po_none (po_some (pv 3))) (pe_slice sl_list (pv 2) (po_some (pe_op op_add (pv 3) pe_int)) po_none)))
    (pss_cons (ps_set (i := 10) sc_law_near.nd rfl (Or.inl rfl) (pe_lst (pa_cons (pv 9) (pa_cons (pe_op op_cat (pv 2) (pe_lst (pa_cons (pe_ix ix_list (pv 2) (pv 3) (fun _ _ => rfl)) pa_nil))) (pa_cons (pe_op op_cat (pv 9) (pe_lst (pa_cons (pe_tup (pa_cons (pv 5) (pa_cons (pv 6) (pa_cons (pe_tup (pa_cons pe_str pa_nil)) (pa_cons (pv 8) pa_nil))))) pa_nil))) (pa_cons (pe_op op_cat (pv 9) (pe_lst (pa_cons (pe_tup (pa_cons (pv 5) (pa_cons (pv 6) (pa_cons (pv 7) (pa_cons (pe_tup (pa_cons pe_str pa_nil)) pa_nil))))) pa_nil))) pa_nil))))))
    (pss_cons (ps_expr (pe_bm PySem.F.plainAttrs_list PySem.F.slot_list_extend PySem.F.type_list_extend mt_extend (pv 10) (pa_cons (pe_lst (pa_cons (pe_op op_cat (pv 9) (pe_lst (pa_cons (pe_tup (pa_cons (pv 6) (pa_cons (pv 5) (pa_cons (pv 8) (pa_cons (pv 7) pa_nil))))) pa_nil))) (pa_cons (pe_op op_cat (pv 2) (pe_lst (pa_cons (pe_tup (pa_cons (pe_ok G_draw hr (pa_cons (pv 0) (pa_cons (pe_callB call_len_seq rfl T.b_len (by decide +kernel) (pa_cons (pv 1) pa_nil)) pa_nil))) (pa_cons (pv 5) (pa_cons (pe_tup (pa_cons pe_str pa_nil)) (pa_cons (pe_tup (pa_cons pe_str pa_nil)) pa_nil))))) pa_nil))) pa_nil))) pa_nil)))
    (pss_one (ps_ret (pe_ix ix_list (pv 10) (pv 4) (fun _ _ => rfl)))))))))), ?_⟩
  have z1 := sizeLine_eq
  have lxs := Rds.len hw
  have lv := rds_lv hw hok hl
  refine r_seq (r_ifS ⟨_, rfl, Nat.zero_le _, fun p hp => ?_⟩)
  have e1 : Ex [] F H F (upd H p (.lst [])) := Ex.new hF hp
  have s1 := hS.ex0 e1
  refine ⟨.list (NestedKey.datas (rs.map Rd.w)), .list [], rds_dp e1.fh (e1.fh _ _ hra) hw, .lst (SqL.of upd_same) .nil, rds_shaped hok, by decide, _, rfl, ?_⟩
  rw [rds_nil]
  generalize upd H p (.lst []) = H1 at e1 s1
  by_cases hrs : rs = []
  · refine iteT' (by simp [hrs]) (r_ret (r_lst (r_cons (r_tup ⟨by show 4 ≤ sizeLine; omega, fun t ht => ⟨by show 1 ≤ sizeLine; omega, fun l hl => ?_⟩⟩))))
    have e2 : Ex [] F H1 (upd F t (.tup [.int (0 : Nat), .int (0 : Nat), .str "x", .str "x"])) (upd H1 t (.tup [.int (0 : Nat), .int (0 : Nat), .str "x", .str "x"])) := Ex.newF e1.fh ht
    have wn : Wk (upd F t (.tup [.int (0 : Nat), .int (0 : Nat), .str "x", .str "x"])) (Rd.mk 0 0 (.text "x") (.text "x")).w (.ref t) := Rd.wk_new (Same.free e1.fh ht) (wk_text.mpr rfl) (wk_text.mpr rfl)
    have s2 := s1.ex0 e2
    have hl' : (upd H1 t (.tup [.int (0 : Nat), .int (0 : Nat), .str "x", .str "x"])) l = none := hl
    show Q (.ref l) (upd (upd H1 t (.tup [.int (0 : Nat), .int (0 : Nat), .str "x", .str "x"])) l (.lst [.ref t]))
    generalize upd F t (.tup [.int (0 : Nat), .int (0 : Nat), .str "x", .str "x"]) = F2 at e2 wn s2
    generalize upd H1 t (.tup [.int (0 : Nat), .int (0 : Nat), .str "x", .str "x"]) = H2 at e2 s2 hl'
    have e3 : Ex [] F2 H2 (upd F2 l (.lst [.ref t])) (upd H2 l (.lst [.ref t])) := Ex.newF e2.fh hl'
    exact kk _ _ _ ((e1.trans (e2.trans e3)).mono (by simp)) ((s2.ex0 e3).le (by omega)) (((lv_one (n := n) (r := Rd.mk 0 0 (.text "x") (.text "x")) ⟨hn0, hn0, wok_text, wok_text⟩ (wn.up e3.ff)).rl upd_same).le (by decide))
  · have pos : 0 < xs.length := by
      rw [lxs]
      exact List.length_pos_iff.mpr hrs
    refine iteF' (by simp [hrs]) (r_next ?_)
    dsimp only
    refine r_seq (r_par (r_cons (r_call (r_cons ⟨_, rfl, r_cons ⟨_, rfl, ra, xs, rfl, .inl (SqL.of (e1.fh _ _ hra)), ?_⟩⟩))))
    refine ⟨st, q, xs.length, F, c, rfl, e1.fh, s1, by omega, by omega, by omega, fun d H2 d0 d1 e2 s2 => r_cons (r_call (r_cons ⟨_, rfl, ?_⟩))⟩
    refine ⟨st, q, 6, F, _, rfl, e2.fh, s2, by decide, by decide, by omega, fun wy H3 w0 w1 e3 s3 => ⟨_, _, rfl, ?_⟩⟩
    have E3 : Ex [st, q] F H F H3 := (e1.mono (by simp)).trans (e2.trans e3)
    dsimp only
    have hd : d.toNat < xs.length := by omega
    have atd : atI xs d = some xs[d.toNat] := at_toNat d0 hd
    have xin : xs[d.toNat] ∈ xs := List.getElem_mem hd
    generalize xs[d.toNat] = x0 at atd xin
    obtain ⟨r, ro, wr⟩ := lv.1 x0 xin
    obtain ⟨tp, vo, vi, rfl, htp, wo, wi⟩ := Rd.wk wr
    refine r_seq (r_asg ⟨_, rfl, _, rfl, ra, xs, d, .ref tp, rfl, rfl, SqL.of (E3.fh _ _ hra), atd, ?_⟩)
    refine ⟨tp, _, rfl, SqT.of (E3.fh _ _ htp), rfl, _, _, rfl, _, _, rfl, _, _, rfl, _, _, rfl, rfl, ?_⟩
    dsimp only
    -- rest
    refine r_seq (r_asg (r_op ⟨_, rfl, _, rfl, _, rfl, ra, xs, rfl, SqL.of (E3.fh _ _ hra), fun q1 hq1 => ?_⟩))
    have e4 : Ex [] F H3 F (upd H3 q1 (.lst (cutV xs none (some d)))) := Ex.new E3.fh hq1
    have d4 : (upd H3 q1 (.lst (cutV xs none (some d)))) q1 = some (.lst (cutV xs none (some d))) := upd_same
    have s4 := s3.ex0 e4
    generalize upd H3 q1 (.lst (cutV xs none (some d))) = H4 at e4 d4 s4
    refine ⟨_, rfl, _, rfl, _, _, rfl, rfl, _, rfl, ra, xs, rfl, SqL.of (e4.fh _ _ hra), fun q2 hq2 => ?_⟩
    have e5 : Ex [] F H4 F (upd H4 q2 (.lst (cutV xs (some (d + 1)) none))) := Ex.new e4.fh hq2
    have d5 : (upd H4 q2 (.lst (cutV xs (some (d + 1)) none))) q2 = some (.lst (cutV xs (some (d + 1)) none)) := upd_same
    have s5 := s4.ex0 e5
    have d45 := e5.at d4
    generalize upd H4 q2 (.lst (cutV xs (some (d + 1)) none)) = H5 at e5 d5 s5 d45
    have c1 := lv_cut lv none (some d)
    have c2 := lv_cut lv (some (d + 1)) none
    have lr : LV F n 200 (cutV xs none (some d) ++ cutV xs (some (d + 1)) none) := lv_app c1 c2
    have lc1 := c1.2
    have lc2 := c2.2
    refine ⟨q1, q2, _, _, rfl, rfl, d45, d5, by omega, fun rp hrp => ?_⟩
    have lrl := lr
    clear lr
    generalize cutV xs none (some d) ++ cutV xs (some (d + 1)) none = rest at lrl hrp
    have e6 : Ex [] F H5 (upd F rp (.lst rest)) (upd H5 rp (.lst rest)) := Ex.newF e5.fh hrp
    have d6 : (upd F rp (.lst rest)) rp = some (.lst rest) := upd_same
    have s6 := s5.ex0 e6
    have E6 : Ex [st, q] F H (upd F rp (.lst rest)) (upd H5 rp (.lst rest)) := E3.trans ((e4.trans (e5.trans e6)).mono (by simp))
    refine r_next ?_
    dsimp only
    show tSeq _ _ _ _ (upd H5 rp (.lst rest))
    generalize upd F rp (.lst rest) = F6 at e6 d6 s6 E6
    generalize upd H5 rp (.lst rest) = H6 at e6 s6 E6
    have lv6 := lv.up E6.ff
    have lr6 := lrl.up E6.ff
    have hra6 := E6.ff _ _ hra
    have wo6 := wo.up E6.ff
    have wi6 := wi.up E6.ff
    -- ('q',)
    have qt : ∀ {σ : L2.St} {F H : Hp} {R : VK}, Same F H → (∀ v F1 H1, Ex [] F H F1 H1 → (∃ k, Wok k ∧ Wk F1 k v) → R v H1) → tTup (tCons (tC (.str "q")) tNil) σ H R := fun {σ F H R} h k => ev_tup (d := 0) (ev_cons ev_str ev_nil) (by decide) σ F H R h fun v F1 H1 e w => k v F1 H1 e (w.mono (by decide)).wok
    -- some
    refine r_seq (r_asg (r_lst (r_cons ⟨_, rfl, r_cons ?_⟩)))
    refine cat_one (st := st) (q := q) (c := c + 2) (n := n) (m := 100) E6.fh rfl hra6 lv6 (by omega) (fun R k => ⟨_, rfl, _, rfl, ra, xs, d, .ref tp, rfl, rfl, SqL.of (E6.fh _ _ hra6), atd, k _ F6 H6 (Ex.refl E6.fh) (s6.le (by omega)) ⟨r, ro, wr.up E6.ff⟩⟩) fun p7 F7 H7 e7 s7 r7 => r_cons ?_
    refine cat_one (st := st) (q := q) (c := c + 3) (n := n) (m := 200) e7.fh rfl (e7.ff _ _ d6) (lr6.up e7.ff) (by omega) (fun R k => r_tup (r_cons ⟨_, rfl, r_cons ⟨_, rfl, r_cons (qt e7.fh fun v F1 H1 e1 ⟨kq, okq, wq⟩ => r_cons ⟨_, rfl, by show 4 ≤ sizeLine; omega, fun t ht => ?_⟩)⟩⟩)) fun p8 F8 H8 e8 s8 r8 => r_cons ?_
    · have et : Ex [] F1 H1 (upd F1 t (.tup [.int r.a, .int r.b, v, vi])) (upd H1 t (.tup [.int r.a, .int r.b, v, vi])) := Ex.newF e1.fh ht
      exact k _ _ _ ((e1.trans et).mono (by simp)) (((s7.ex0 e1).ex0 et).le (by omega)) ⟨Rd.mk r.a r.b kq r.i, ⟨ro.ha, ro.hb, okq, ro.hi⟩, Rd.wk_new (Same.free e1.fh ht) wq ((wi6.up e7.ff).up e1.ff)⟩
    have E8 := e7.trans e8
    refine cat_one (st := st) (q := q) (c := c + 4) (n := n) (m := 200) e8.fh rfl (E8.ff _ _ d6) (lr6.up E8.ff) (by omega) (fun R k => r_tup (r_cons ⟨_, rfl, r_cons ⟨_, rfl, r_cons ⟨_, rfl, r_cons (qt e8.fh fun v F1 H1 e1 ⟨kq, okq, wq⟩ => ⟨by show 4 ≤ sizeLine; omega, fun t ht => ?_⟩)⟩⟩⟩)) fun p9 F9 H9 e9 s9 r9 => ⟨by show 4 ≤ sizeLine; omega, fun sl hsl => ?_⟩
    · have et : Ex [] F1 H1 (upd F1 t (.tup [.int r.a, .int r.b, vo, v])) (upd H1 t (.tup [.int r.a, .int r.b, vo, v])) := Ex.newF e1.fh ht
      exact k _ _ _ ((e1.trans et).mono (by simp)) (((s8.ex0 e1).ex0 et).le (by omega)) ⟨Rd.mk r.a r.b r.o kq, ⟨ro.ha, ro.hb, ro.ho, okq⟩, Rd.wk_new (Same.free e1.fh ht) ((wo6.up E8.ff).up e1.ff) wq⟩
    have E9 := E8.trans e9
    have e10 : Ex [] F9 H9 F9 (upd H9 sl (.lst [.ref rp, .ref p7, .ref p8, .ref p9])) := Ex.new e9.fh hsl
    have d10 : (upd H9 sl (.lst [.ref rp, .ref p7, .ref p8, .ref p9])) sl = some (.lst [.ref rp, .ref p7, .ref p8, .ref p9]) := upd_same
    have s10 := s9.ex0 e10
    have E10 : Ex [st, q] F H F9 (upd H9 sl (.lst [.ref rp, .ref p7, .ref p8, .ref p9])) := E6.trans (E9.trans (e10.mono (by simp)))
    refine r_next ?_
    dsimp only
    show tSeq _ _ _ _ (upd H9 sl (.lst [.ref rp, .ref p7, .ref p8, .ref p9]))
    have fsl : F9 sl = none := Same.free e9.fh hsl
    have hsl0 : H sl = none := by
      cases z : H sl with
      | none => rfl
      | some o => exact absurd hsl ((E6.trans E9).dm sl (ne_none z))
    generalize upd H9 sl (.lst [.ref rp, .ref p7, .ref p8, .ref p9]) = H10 at e10 d10 s10 E10
    have sln := hS.ne (p := sl) (.inr hsl0)
    have Eq10 : Same F F9 := E10.ff
    refine r_seq (r_drop ⟨_, rfl, .inl ⟨rfl, _, SqL.of d10⟩, r_cons (r_lst (r_cons ?_))⟩)
    refine cat_one (st := st) (q := q) (c := c + 5) (n := n) (m := 200) e10.fh rfl (E9.ff _ _ d6) (lr6.up E9.ff) (by omega) (fun R k => r_tup (r_cons ⟨_, rfl, r_cons ⟨_, rfl, r_cons ⟨_, rfl, r_cons ⟨_, rfl, by show 4 ≤ sizeLine; omega, fun t ht => ?_⟩⟩⟩⟩)) fun p11 F11 H11 e11 s11 r11 => r_cons ?_
    · have et : Ex [] F9 H10 (upd F9 t (.tup [.int r.b, .int r.a, vi, vo])) (upd H10 t (.tup [.int r.b, .int r.a, vi, vo])) := Ex.newF e10.fh ht
      exact k _ _ _ (et.mono (by simp)) ((s10.ex0 et).le (by omega)) ⟨r.rev, ro.rev, Rd.wk_new (Same.free e10.fh ht) (wi6.up E9.ff) (wo6.up E9.ff)⟩
    have le11 : Same F F11 := Same.trans Eq10 e11.ff
    refine cat_one (st := st) (q := q) (c := c + 6) (n := n) (m := 100) e11.fh rfl (le11 _ _ hra) (lv.up le11) (by omega) (fun R k => r_tup (r_cons (r_call (r_cons ⟨_, rfl, r_cons ⟨_, rfl, sp, svs, rfl, .inl (SqL.of (e11.fh _ _ (le11 _ _ hsp))), ?_⟩⟩)))) fun p12 F12 H12 e12 s12 r12 => ⟨by show 2 ≤ sizeLine; omega, fun xl hxl => ?_⟩
    · refine ⟨st, q, svs.length, F11, _, rfl, e11.fh, s11, by omega, by omega, by omega, fun d2 H13 d20 d21 e13 s13 => r_cons ⟨_, rfl, r_cons (qt e13.fh fun v F1 H1 e1 ⟨kq, okq, wq⟩ => r_cons (qt e1.fh fun v2 F2 H2 e2 ⟨kq2, okq2, wq2⟩ => ⟨by show 4 ≤ sizeLine; omega, fun t ht => ?_⟩))⟩⟩
      obtain ⟨d2n, rfl⟩ : ∃ d2n : Nat, d2 = d2n := ⟨d2.toNat, by omega⟩
      have et : Ex [] F2 H2 (upd F2 t (.tup [.int d2n, .int r.a, v, v2])) (upd H2 t (.tup [.int d2n, .int r.a, v, v2])) := Ex.newF e2.fh ht
      exact k _ _ _ (e13.trans ((e1.trans (e2.trans et)).mono (by simp))) ((((s13.ex0 e1).ex0 e2).ex0 et).le (by omega)) ⟨Rd.mk d2n r.a kq kq2, ⟨by show d2n < n; omega, ro.ha, okq, okq2⟩, Rd.wk_new (Same.free e2.fh ht) (wq.up e2.ff) wq2⟩
    have e13 : Ex [] F12 H12 F12 (upd H12 xl (.lst [.ref p11, .ref p12])) := Ex.new e12.fh hxl
    have d13 : (upd H12 xl (.lst [.ref p11, .ref p12])) xl = some (.lst [.ref p11, .ref p12]) := upd_same
    have s13 := s12.ex0 e13
    have E13 : Ex [st, q] F9 H10 F12 (upd H12 xl (.lst [.ref p11, .ref p12])) := e11.trans (e12.trans (e13.mono (by simp)))
    generalize upd H12 xl (.lst [.ref p11, .ref p12]) = H13 at e13 d13 s13 E13
    have ds13 := E13.at d10 sln
    refine ⟨sl, xl, _, _, rfl, rfl, ds13, d13, by simp; omega, ?_⟩
    have f13 := E13.nf fsl (ne_none d10)
    have e14 : Ex [sl] F12 H13 F12 (upd H13 sl (.lst ([.ref rp, .ref p7, .ref p8, .ref p9] ++ [V.ref p11, V.ref p12]))) := Ex.put E13.fh f13 (by simp)
    have d14 : (upd H13 sl (.lst ([.ref rp, .ref p7, .ref p8, .ref p9] ++ [V.ref p11, V.ref p12]))) sl = some (.lst ([.ref rp, .ref p7, .ref p8, .ref p9] ++ [V.ref p11, V.ref p12])) := upd_same
    have s14 := s13.ex e14 (by simp at sln ⊢; exact fun z => sln.1 z.symm) (by simp at sln ⊢; exact fun z => sln.2 z.symm)
    have E14 := (E10.trans E13).newly' e14 (fun p hp => by rw [List.mem_singleton.mp hp]; exact .inl hsl0)
    dsimp only
    show tRet _ _ _ (upd H13 sl (.lst ([.ref rp, .ref p7, .ref p8, .ref p9] ++ [V.ref p11, V.ref p12])))
    generalize upd H13 sl (.lst ([.ref rp, .ref p7, .ref p8, .ref p9] ++ [V.ref p11, V.ref p12])) = H14 at e14 d14 s14 E14
    have l9 := Same.trans e11.ff e12.ff
    have all : ∀ v ∈ [V.ref rp, .ref p7, .ref p8, .ref p9] ++ [V.ref p11, V.ref p12], RL 300 F12 n v := fun v hv => by
      simp only [List.cons_append, List.nil_append, List.mem_cons, List.not_mem_nil, or_false] at hv
      rcases hv with z | z | z | z | z | z
      · rw [z]; exact ((lr6.up (Same.trans E9.ff l9)).rl ((Same.trans E9.ff l9) _ _ d6)).le (by decide)
      · rw [z]; exact (r7.up (Same.trans (e8.trans e9).ff l9)).le (by decide)
      · rw [z]; exact (r8.up (Same.trans e9.ff l9)).le (by decide)
      · rw [z]; exact (r9.up l9).le (by decide)
      · rw [z]; exact (r11.up e12.ff).le (by decide)
      · rw [z]; exact r12.le (by decide)
    have lw : wy.toNat < ([V.ref rp, .ref p7, .ref p8, .ref p9] ++ [V.ref p11, V.ref p12]).length := by simp; omega
    refine ⟨_, rfl, _, rfl, sl, _, wy, ([V.ref rp, .ref p7, .ref p8, .ref p9] ++ [V.ref p11, V.ref p12])[wy.toNat], rfl, rfl, SqL.of d14, at_toNat w0 lw, ?_⟩
    exact kk _ F12 H14 E14 (s14.le (by omega)) (all _ (List.getElem_mem lw))
end
end T3

namespace T3
open PySem PySem.Spec PyProof.Rows L2 Ly
section
variable {P : Program} {w : World} {K : PySem.W.Frag} {mg : Str → Option Value} {base : Heap}
def spLaw (K : PySem.W.Frag) : Sp := fun vs H Q _ => ∃ (a : Addr) (ns : List Int), vs = [.ref a] ∧ SqL K H a (ns.map V.int) ∧ ns.length ≤ 63 ∧ Only H ∧ ∀ H', Q (.bl true) H'
theorem law_if {D : Ends} {F H : Hp} {st q sp : Addr} {c : Int} {svs : List V} {rv0 : V} {n : Nat} {a0 a2 a5 a6 : Option V} (hF : Same F H) (hS : Strm F H st q c) (hc : c < 800000000) (hsp : F sp = some (.lst svs)) (hn : svs.length = n) (h0 : 0 < n) (h9 : n < 10) (hr : RL 100 F n rv0)
    (rest : ∀ rv F3 H3, Ex [st, q] F H F3 H3 → Strm F3 H3 st q (c + 2000) → RL 100 F3 n rv → D.nx [a0, some (.ref st), a2, some (.ref sp), some rv, a5, a6] H3) :
    tIfS (tTest (tOp rEq (tCall spDraw [] E0 (tCons (tVar 1) (tCons (tC (.int 2)) tNil))) (tC (.int 0)))) (tAsg (tCall spNDoors [] E0 (tCons (tVar 1) (tCons (tCB (RLen K) (tCons (tVar 3) tNil)) (tCons (tOp rEq (tCall spDraw [] E0 (tCons (tVar 1) (tCons (tC (.int 2)) tNil))) (tC (.int 0))) tNil)))) (gName 4)) tNext D [a0, some (.ref st), a2, some (.ref sp), some rv0, a5, a6] H := by
  refine r_ifS ⟨_, rfl, st, q, 2, F, c, rfl, hF, hS, by decide, by decide, by omega, fun d H1 d0 d1 e1 s1 => ⟨rfl, _, rfl, ?_⟩⟩
  refine ite2 (fun _ => ?_) (fun _ => r_next (rest rv0 F H1 e1 (s1.le (by omega)) hr))
  refine r_asg (r_call (r_cons ⟨_, rfl, r_cons ⟨_, rfl, sp, svs, rfl, .inl (SqL.of (e1.fh _ _ hsp)), ?_⟩⟩))
  refine r_cons (r_op (r_call (r_cons ⟨_, rfl, ?_⟩)))
  refine ⟨st, q, 2, F, _, rfl, e1.fh, s1, by decide, by decide, by omega, fun d2 H2 _ _ e2 s2 => ⟨rfl, ?_⟩⟩
  refine ⟨st, q, svs.length, _, F, _, rfl, e2.fh, s2, by omega, by omega, by omega, fun v F3 H3 e3 s3 r3 => ?_⟩
  exact rest v F3 H3 (e1.trans (e2.trans e3)) (s3.le (by omega)) (hn ▸ r3)
theorem law_third {D : Ends} {F H : Hp} {y : Addr} {sg : List W} {rs : List Rd} {σ : L2.St} (h6 : σ[6]? = some (some (.ref y))) (hF : Same F H) (nn : NetF (He.ga K "Net") F sg rs (.ref y)) (hsg : sg.length < 1000) (hrs : rs.length < 1000) (rest : ∀ F' H', Ex [] F H F' H' → D.nx σ H') :
    tIfS (tOr (tB (tCall (spIsJoined K) [] E0 (tCons (tCall (spBeside K) [] E0 (tCons (tLst (tCons (tVar 6) (tCons (tVar 6) tNil))) tNil)) tNil))) (tTest (tOp rNe (tCall (spIsTwoWay K) [] E0 (tCons (tCall (spBeside K) [] E0 (tCons (tLst (tCons (tVar 6) (tCons (tVar 6) tNil))) tNil)) tNil)) (tCall (spIsTwoWay K) [] E0 (tCons (tVar 6) tNil))))) (tRet (tC (.bl false))) tNext D σ H := by
  have z1 := sizeLine_eq
  have two : ∀ (F H : Hp) (R : VK), Same F H → NetF (He.ga K "Net") F sg rs (.ref y) → (∀ z rs' F' H', rs'.Perm (rs ++ rs.map (Rd.sh sg.length)) → Ex [] F H F' H' → NetF (He.ga K "Net") F' (sg ++ sg) rs' z → R z H') → tCall (spBeside K) [] E0 (tCons (tLst (tCons (tVar 6) (tCons (tVar 6) tNil))) tNil) σ H R := by
    intro F H R hF nn k
    refine r_call (r_cons (r_lst (r_cons ⟨_, h6, r_cons ⟨_, h6, by show 2 ≤ sizeLine; omega, fun p hp => ?_⟩⟩)))
    have e : Ex [] F H (upd F p (.lst [.ref y, .ref y])) (upd H p (.lst [.ref y, .ref y])) := Ex.newF hF hp
    exact ⟨p, .ref y, sg, rs, _, rfl, e.fh, upd_same, nn.up e.ff, hsg, hrs, fun z rs' F' H' pm e2 n2 => k z rs' F' H' pm (e.trans e2) n2⟩
  refine r_ifS (r_b (r_call (r_cons (two F H _ hF nn fun z rs' F1 H1 pm e1 n1 => ?_))))
  refine ⟨z, sg ++ sg, rs', F1, rfl, e1.fh, n1, fun b H2 e2 hb => ⟨_, rfl, ?_⟩⟩
  have bf : b = false := by
    cases b with
    | false => rfl
    | true =>
      have := hb.mp rfl
      rw [List.length_append] at this
      exact absurd this (beside_apart pm nn.rok nn.pos)
  subst bf
  have E2 := e1.trans e2
  refine iteF (r_tst (r_op (r_call (r_cons (two F1 H2 _ e2.fh (nn.up e1.ff) fun z2 rs2 F3 H3 pm3 e3 n3 => ?_)))))
  refine ⟨z2, sg ++ sg, rs2, F3, rfl, e3.fh, n3, fun H4 e4 => ⟨_, h6, .ref y, sg, rs, F3, rfl, e4.fh, nn.up (Same.trans e1.ff e3.ff), fun H5 e5 => ⟨rfl, _, rfl, ?_⟩⟩⟩
  rw [beside_two_way pm3 nn.rok]
  exact iteF' (by simp) (r_next (rest F3 H5 (E2.trans (e3.trans (e4.trans e5)))))
theorem make_net {sa ra : Addr} {svs rvs : List V} {sg : List W} {rs : List Rd} {F H : Hp} {Q : VK} {σ : L2.St} {i j : Nat} (hi : σ[i]? = some (some (.ref sa))) (hj : σ[j]? = some (some (.ref ra))) (hF : Same F H) (hsa : F sa = some (.lst svs)) (hsg : Wks F sg svs) (hok : ∀ k ∈ sg, Wok k) (h0 : 0 < sg.length) (h1 : sg.length < 100000) (hra : F ra = some (.lst rvs)) (hrs : Rds F rs rvs)
    (hro : ∀ r ∈ rs, r.OkN sg.length) (h2 : rs.length < 100000) (kk : ∀ x rs' F' H', rs'.Perm rs → Ex [] F H F' H' → NetF (He.ga K "Net") F' sg rs' (.ref x) → Q (.ref x) H') : tMake (He.ga K "Net") (spInit K) [] E0 (tCons (tVar i) (tCons (tVar j) tNil)) σ H Q :=
  ⟨_, hi, _, hj, mk_net hF hsa hsg hok h0 h1 hra hrs hro h2 kk⟩
theorem fn_law (T : Top K mg) {fd : FuncData} (hF : FunD K "law" "law" (defArgs s_law) (defBody s_law) (defScope s_law) [] [] (He.fAd K ("law", none)) fd) : FnOk P w K mg base CX0 17 (He.fAd K ("law", none)) fd ["_law_script"] (spLaw K) := by
  have G_start : Ok P w K mg base "_law_start" 1 ["_law_script"] (spStart K) := ok_law_start T
  have G_draw : Ok P w K mg base "_law_draw" 1 ["_law_stream", "_law_many"] spDraw := ok_law_draw T
  have G_NNet : Ok P w K mg base "_law_n_net" 4 ["_law_stream", "_law_most"] spNNet := ok_n_net T
  have G_NDoors : Ok P w K mg base "_law_n_doors" 3 ["_law_stream", "_law_many", "_law_halves"] spNDoors := ok_n_doors T
  have G_Near : Ok P w K mg base "_law_near" 3 ["_law_stream", "_law_signs", "_law_roads"] spNear := ok_near T
  have G_all_right : Ok P w K mg base "_law_all_right" 4 ["_law_net", "_law_signs", "_law_roads"] (spAllRight K) := ok_all_right T
  have G_is_two_way : Ok P w K mg base "is_two_way" 1 ["net"] (spIsTwoWay K) := ok_is_two_way T
  have G_is_joined : Ok P w K mg base "is_joined" 3 ["net"] (spIsJoined K) := ok_is_joined T
  have G_is_strong : Ok P w K mg base "is_strong" 3 ["net"] (spIsStrong K) := ok_is_strong T
  have G_backward : Ok P w K mg base "backward" 16 ["net"] (spBackward K) := ok_backward T
  have G_beside : Ok P w K mg base "beside" 16 ["nets"] (spBeside K) := ok_beside T
  have M_init : OkM P w K mg base (He.ma K (He.ga K "Net") "__init__") 14 ["self", "signs", "roads"] (spInit K) := ok_init T
  refine hF.ok sc_law (fun vs H Q E h => ?_) fun cdv A outer s H vs Q E hr h => ?_
  · obtain ⟨a, ns, rfl, _⟩ := h
    rfl
  suffices z : ∃ t, PSs (cxOf CX0 P w K mg base N_law "law" (defScope s_law) (He.ga K "law") cdv A outer s H E).nox (defBody s_law) t ∧ t { nx := fun _ H' => Q .non H', rt := Q } (start N_law vs) H by
    obtain ⟨t, h1, h2⟩ := z
    exact ⟨t, h1.nox, h2⟩
  obtain ⟨a, ns, rfl, hS, hl, hO, kk⟩ := h
  refine ⟨_, (pss_cons (ps_set (i := 1) sc_law.nd rfl (Or.inl rfl) (pe_ok G_start hr (pa_cons (pv 0) pa_nil)))
    (pss_cons (ps_for PassesOwn.never rfl (pi_range1 rfl T.b_range (pa_cons pe_int pa_nil)) (pg_name (i := 2) sc_law.nd rfl (Or.inl rfl)) (pss_cons (ps_asg (pe_ok G_NNet hr (pa_cons (pv 1) (pa_cons pe_int pa_nil))) (pg_tup rfl (pgs_cons (pg_name (i := 3) sc_law.nd rfl (Or.inl rfl)) (pgs_cons (pg_name (i := 4) sc_law.nd rfl (Or.inl rfl)) pgs_nil))))
    (pss_cons (ps_if (pt_cmpR op_eq (pe_ok G_draw hr (pa_cons (pv 1) (pa_cons pe_int pa_nil))) pe_int (nomark _)) (pss_one (ps_set (i := 4) sc_law.nd rfl (Or.inl rfl) (pe_ok G_NDoors hr (pa_cons (pv 1) (pa_cons (pe_callB call_len_seq rfl T.b_len (by decide +kernel) (pa_cons (pv 3) pa_nil)) (pa_cons (pe_cmpR op_eq (pe_ok G_draw hr (pa_cons (pv 1) (pa_cons pe_int pa_nil))) pe_int (nomark _)) pa_nil)))))) pss_nil)
    (pss_one (ps_for PassesOwn.never rfl (pi_tup (pe_tup (pa_cons (pv 4) (pa_cons (pe_ok G_Near hr (pa_cons (pv 1) (pa_cons (pv 3) (pa_cons (pv 4) pa_nil)))) (pa_cons (pe_ok G_Near hr (pa_cons (pv 1) (pa_cons (pv 3) (pa_cons (pv 4) pa_nil)))) pa_nil))))) (pg_name (i := 5) sc_law.nd rfl (Or.inl rfl)) (pss_cons (ps_set (i := 6) sc_law.nd rfl (Or.inl rfl) (pe_mkO T.mk_Net M_init hr T.g_Net (pa_cons (pv 3) (pa_cons (pv 5) pa_nil))))
    (pss_cons (ps_if (PW.pt (pw_or (pt_not (pt_val (pe_ok G_all_right hr (pa_cons (pv 6) (pa_cons (pv 3) (pa_cons (pv 5) pa_nil)))))) (pw_or1 (pt_cmpR op_ne (pe_ok G_is_strong hr (pa_cons (pv 6) pa_nil)) (pe_ok G_is_strong hr (pa_cons (pe_ok G_backward hr (pa_cons (pv 6) pa_nil)) pa_nil)) (nomark _))))) (pss_one (ps_ret pe_bl)) pss_nil)
    (pss_cons (ps_if (PW.pt (pw_and (pt_val (pe_ok G_is_two_way hr (pa_cons (pv 6) pa_nil))) (pw_and1 (pt_cmpR op_ne (pe_ok G_is_joined hr (pa_cons (pv 6) pa_nil)) (pe_ok G_is_strong hr (pa_cons (pv 6) pa_nil)) (nomark _))))) (pss_one (ps_ret pe_bl)) pss_nil)
    (pss_one (ps_if (PW.pt (pw_or (pt_val (pe_ok G_is_joined hr (pa_cons (pe_ok G_beside hr (pa_cons (pe_lst (pa_cons (pv 6) (pa_cons (pv 6) pa_nil))) pa_nil)) pa_nil))) (pw_or1 (pt_cmpR op_ne (pe_ok G_is_two_way hr (pa_cons (pe_ok G_beside hr (pa_cons (pe_lst (pa_cons (pv 6) (pa_cons (pv 6) pa_nil))) pa_nil)) pa_nil)) (pe_ok G_is_two_way hr (pa_cons (pv 6) pa_nil)) (nomark _))))) (pss_one (ps_ret pe_bl)) pss_nil))))))))))
    (pss_one (ps_ret pe_bl)))), ?_⟩
  have z1 := sizeLine_eq
  have hF0 : Same (fun _ => none) H := fun b o z => by cases z
  refine r_seq (r_asg (r_call (r_cons ⟨_, rfl, a, ns, fun _ => none, rfl, hS, hF0, fun st q H1 e1 s1 _ _ => ?_⟩)))
  refine r_next ?_
  dsimp only
  refine r_seq (forg_rng (n := 6) [st, q] (fun R h => h) (by omega) e1.fh (fun i σ1 F1 H1 => (∃ u v x y z, σ1 = [some (.ref a), some (.ref st), u, v, x, y, z]) ∧ Strm F1 H1 st q (20000 * (i : Nat))) ⟨⟨_, _, _, _, _, rfl⟩, by simpa using s1⟩ ?_ ?_)
  · rintro i σ1 F1 H2 Nk hi e ⟨⟨u, v, x, y, z, rfl⟩, s2⟩ nk
    refine r_seq (r_asg (r_call (r_cons ⟨_, rfl, r_cons (r_c ?_)⟩)))
    refine ⟨st, q, F1, _, rfl, e.fh, s2, by omega, fun t sp svs rv sg F2 H3 e3 s3 ht hsp hsg hok h0 h9 hrv => ?_⟩
    refine ⟨t, _, rfl, SqT.of (e3.fh _ _ ht), rfl, _, _, rfl, _, _, rfl, rfl, ?_⟩
    dsimp only
    have lsv := hsg.len
    refine r_seq (law_if (n := sg.length) e3.fh s3 (by omega) hsp lsv h0 h9 hrv fun rv F3 H4 e4 s4 hrv => ?_)
    dsimp only
    have hsp3 := e4.ff _ _ hsp
    have hsg3 := hsg.up e4.ff
    refine r_for (r_tup (r_cons ⟨_, rfl, r_cons (r_call (r_cons ⟨_, rfl, r_cons ⟨_, rfl, r_cons ⟨_, rfl, ?_⟩⟩⟩))⟩))
    refine ⟨st, q, sp, rv, svs, sg.length, F3, _, rfl, e4.fh, s4, hsp3, lsv, hrv, h0, h9, by omega, fun v1 F4 H5 e5 s5 r5 => r_cons (r_call (r_cons ⟨_, rfl, r_cons ⟨_, rfl, r_cons ⟨_, rfl, ?_⟩⟩⟩))⟩
    refine ⟨st, q, sp, rv, svs, sg.length, F4, _, rfl, e5.fh, s5, e5.ff _ _ hsp3, lsv, hrv.up e5.ff, h0, h9, by omega, fun v2 F5 H6 e6 s6 r6 => ⟨by show 3 ≤ sizeLine; omega, fun tp htp => ⟨tp, rfl, ⟨_, SqT.of upd_same⟩, ?_⟩⟩⟩
    have e7 : Ex [] F5 H6 (upd F5 tp (.tup [rv, v1, v2])) (upd H6 tp (.tup [rv, v1, v2])) := Ex.newF e6.fh htp
    have d7 : (upd F5 tp (.tup [rv, v1, v2])) tp = some (.tup [rv, v1, v2]) := upd_same
    have s7 := s6.ex0 e7
    have le3 : Same F3 (upd F5 tp (.tup [rv, v1, v2])) := Same.trans e5.ff (Same.trans e6.ff e7.ff)
    have hsp7 := le3 _ _ hsp3
    have hsg7 := hsg3.up le3
    have E7 : Ex [st, q] F1 H2 (upd F5 tp (.tup [rv, v1, v2])) (upd H6 tp (.tup [rv, v1, v2])) := e3.trans (e4.trans (e5.trans (e6.trans (e7.mono (by simp)))))
    have all7 : ∀ w ∈ [rv, v1, v2], RL 300 (upd F5 tp (.tup [rv, v1, v2])) sg.length w := fun w hw => by
      simp only [List.mem_cons, List.not_mem_nil, or_false] at hw
      rcases hw with h | h | h
      · rw [h]; exact (hrv.up le3).le (by decide)
      · rw [h]; exact r5.up (Same.trans e6.ff e7.ff)
      · rw [h]; exact r6.up e7.ff
    generalize upd F5 tp (.tup [rv, v1, v2]) = F7 at e7 d7 s7 hsp7 hsg7 E7 all7
    generalize upd H6 tp (.tup [rv, v1, v2]) = H7 at e7 s7 E7
    refine forg_gen walk_tupF [] E7.fh (fun F' H' g1 g2 => g2 _ _ (g1 _ _ d7)) (fun j σ1 F8 H8 => ∃ x5 x6, σ1 = [some (.ref a), some (.ref st), some (.int (i : Nat)), some (.ref sp), some rv, x5, x6]) ⟨_, _, rfl⟩ ?_ ?_
    · rintro j x σ1 F8 H8 Nk2 hj hx e8 ⟨x5, x6, rfl⟩ nk2
      obtain ⟨ra, xs, rs, rfl, hra, hw, hrok, hrl⟩ := (all7 x (List.mem_of_getElem? hx)).up e8.ff
      refine r_seq (r_asg (make_net (i := 3) (j := 5) rfl rfl e8.fh (e8.ff _ _ hsp7) (hsg7.up e8.ff) hok h0 (by omega) hra hw hrok (by omega) fun y rs' F9 H9 pm e9 nn => ?_))
      have sp9 := e9.ff _ _ (e8.ff _ _ hsp7)
      have ra9 := e9.ff _ _ hra
      have w9 := Wks.up e9.ff hw
      have lrs : rs'.length = rs.length := pm.length_eq
      refine r_next ?_
      dsimp only
      refine r_seq (r_ifS ⟨_, rfl, _, rfl, _, rfl, .ref y, sp, ra, svs, xs, sg, rs', rs, F9, rfl, e9.fh, nn, sp9, lsv, ra9, w9, pm, fun H10 e10 => ⟨_, rfl, iteF ?_⟩⟩)
      refine ⟨_, rfl, .ref y, sg, rs', F9, rfl, e10.fh, nn, fun b1 H11 e11 hb1 => ?_⟩
      refine ⟨_, rfl, .ref y, sg, rs', F9, rfl, e11.fh, nn, fun y2 rs2 F12 H12 pm2 e12 nn2 => ?_⟩
      refine ⟨y2, sg, rs2, F12, rfl, e12.fh, nn2, fun b2 H13 e13 hb2 => ⟨rfl, _, rfl, ?_⟩⟩
      have eb : b1 = b2 := Bool.eq_iff_iff.mpr (hb1.trans ((back_strong pm2).trans hb2.symm))
      have E13 : Ex [] F8 H8 F12 H13 := e9.trans (e10.trans (e11.trans (e12.trans e13)))
      have nn13 := NetF.up e12.ff nn
      refine iteF' (by rw [eb]; simp) (r_next ?_)
      dsimp only
      refine r_seq (r_ifS ⟨_, rfl, .ref y, sg, rs', F12, rfl, e13.fh, nn13, fun H14 e14 => ⟨_, rfl, ?_⟩⟩)
      have E14 := E13.trans e14
      by_cases htw : tw rs' = true
      · rw [htw]
        refine iteT ⟨_, rfl, .ref y, sg, rs', F12, rfl, e14.fh, nn13, fun b3 H15 e15 hb3 => ?_⟩
        refine ⟨_, rfl, .ref y, sg, rs', F12, rfl, e15.fh, nn13, fun b4 H16 e16 hb4 => ⟨rfl, _, rfl, ?_⟩⟩
        have eb2 : b3 = b4 := Bool.eq_iff_iff.mpr (hb3.trans ((two_way_joined htw).trans hb4.symm))
        have E16 := E14.trans (e15.trans e16)
        refine iteF' (by rw [eb2]; simp) (r_next ?_)
        dsimp only
        exact law_third (y := y) (sg := sg) (rs := rs') rfl E16.fh nn13 (by omega) (by omega) fun F' H' e' => nk2 _ F' H' (E16.trans e') ⟨_, _, rfl⟩
      · have htf : tw rs' = false := by simpa using htw
        rw [htf]
        refine iteF (iteF (r_next ?_))
        dsimp only
        exact law_third (y := y) (sg := sg) (rs := rs') rfl E14.fh nn13 (by omega) (by omega) fun F' H' e' => nk2 _ F' H' (E14.trans e') ⟨_, _, rfl⟩
    · rintro σ1 F8 H8 e8 ⟨x5, x6, rfl⟩
      exact nk _ F8 H8 (E7.trans (e8.mono (by simp))) ⟨⟨_, _, _, _, _, rfl⟩, (s7.ex0 e8).le (by omega)⟩
  · rintro σ1 F1 H2 e ⟨⟨u, v, x, y, z, rfl⟩, s2⟩
    dsimp only
    exact kk H2
end
end T3

namespace T3
open PySem PySem.Spec PyProof.Rows L2 Ly
def nm0 : List PySem.Str := ["is_two_way", "reached_from", "is_joined", "is_strong", "NetError", "BadNets", "BadRoads", "BadSigns", "Made", "is_list", "is_integer", "is_number", "is_word", "as_word", "order_key", "ascending", "checked_signs", "is_road", "checked_roads", "Net", "checked_nets", "beside", "backward", "_law_start", "_law_draw", "_law_pick", "_law_mixed", "_law_same", "_law_each_once", "_law_n_signs"]
def nm1 : List PySem.Str := ["_law_n_crowd", "_law_n_doors", "_law_n_row", "_law_n_net", "_law_is_two_way", "_law_reached", "_law_all_right", "_law_near"]
def names : List PySem.Str := nm0 ++ nm1
abbrev R : PySem.W.OpenRow := PySem.W.OpenLaw.row PySem.Challenge.rw_samefromhere_k03_two_way_joined_strong
abbrev hk : PySem.W.Hook := hookX 5 fa fn xs
def ob (s : PySem.W.SharedT) : AlX := obsXG 5 fa fn xs (HandSHeadRun.getT s)
theorem ob_eq (s : PySem.W.SharedT) : ob s = hk.obs s.abs := obsXG_eq (HandSHeadRun.getT_eq s)
theorem run (w : PySem.World) : HandSHeadRun.RunEq R (PySem.W.view R.prog [44]) hk ob 3000 names w := by
  intro os
  kernel_rfl
end T3

open PySem PySem.W PySem.Calls PyProof.Rows
theorem PySem.Challenge.cw_samefromhere_k03_two_way_joined_strong_holds : PySem.Challenge.rw_samefromhere_k03_two_way_joined_strong.Holds := by
  w_on; o_law
  refine HandSHeadRun.head_any (r := OpenLaw.row PySem.Challenge.rw_samefromhere_k03_two_way_joined_strong) (q := view (OpenLaw.row PySem.Challenge.rw_samefromhere_k03_two_way_joined_strong).prog [44]) (H := T3.hk) (ob := T3.ob) (M := 3000) (loose := T3.names) (d := HandSHeadRun.topDef (OpenLaw.row PySem.Challenge.rw_samefromhere_k03_two_way_joined_strong).prog 44) (kwd := []) T3.ob_eq
    (by kernel_rfl) (fun s => by kernel_rfl) T3.run (by kernel_rfl) (by kernel_rfl) (by kernel_rfl) (by rfl) (by first | assumption | decide +kernel) (by decide +kernel) ⟨rfl, rfl, rfl, rfl, rfl, by decide +kernel⟩ ?hw ?hc
  case hw => w_witness2
  case hc =>
    refine L2.walk_ofE (l := PySem.Challenge.rw_samefromhere_k03_two_way_joined_strong) (n := 63) (k := 17) (x := "_law_script") (CX := L2.CX0) rfl (by decide) (by kernel_rfl) ⟨rfl, by decide, by decide⟩ ?F (fun _ _ _ _ z => z)
    intro w mg fa h Y G hmg0
    obtain ⟨K, KX, c, cx⟩ := Y
    have hmg : mg ("law" : PySem.Str) = some (.ref fa) := by
      have e : (HandSHeadRun.topDef (OpenLaw.row PySem.Challenge.rw_samefromhere_k03_two_way_joined_strong).prog 44).name = ("law" : PySem.Str) := by kernel_rfl
      rw [← e]
      exact hmg0
    have T := T3.top_of KX G c cx
    have ef := hmg.symm.trans T.g_law
    cases ef
    obtain ⟨fd, hF⟩ := T.F_law
    exact ⟨K, fd, T3.spLaw K, KX, fun s u => L2.FunD.bindsA (ps := ["_law_script"]) hF (fun _ _ _ _ _ _ us hl => match us, hl with | [_], _ => rfl) s [u] rfl, fun H a ns hl hO hS => ⟨a, ns, rfl, hS, hl, hO, fun _ => rfl⟩, fun base hb hg => T3.fn_law T hF⟩
