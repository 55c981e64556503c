import PyProof.Rows.All
import Wide.All
import OpenK.AllK
import Wide.FinOn
import HandS.ForMost
import HandS.ForExc
import HandS.Walk
import HandS.Flow
import HandS.IsInst
import HandS.More
import HandS.Conv
import HandS.TupAny
import HandS.SortInts
import HandS.DictComp
import HandS.WideBits
import HandS.Zip
import HandS.Deep
import HandS.Style
import KE.GoesEnum
import KE.KExcSuper
import HandS.ExcInit
import HandS.ExcOwn
import HandS.ExcField
import HandS.ExcIs
import HandS.ExcBuiltin
import HandS.TryMany
import HandS.WordsExc
import KE.KExcIs
import HandS.Text
import PySem.Challenge.RW_eatenorders_k16_whole_balanced_and_answe
section
set_option Elab.async false
set_option linter.all false
set_option maxRecDepth 100000
set_option maxHeartbeats 4000000
/-! EaA: pure data over frozen heaps; environments; the functional judgements of expressions -/
namespace Ea
open PySem PySem.Spec L2
open PyProof.Rows hiding St

mutual
inductive Rp (F : Hp) : V → PyData → Prop
  | non : Rp F .non .none
  | bl (b : Bool) : Rp F (.bl b) (.bool b)
  | int (i : Int) : Rp F (.int i) (.int i)
  | str (x : Str) : Rp F (.str x) (.str x)
  | lst {a : Addr} {xs : List V} {ds : List PyData} : F a = some (.lst xs) → RpL F xs ds → Rp F (.ref a) (.list ds)
  | tup {a : Addr} {xs : List V} {ds : List PyData} : F a = some (.tup xs) → RpL F xs ds → Rp F (.ref a) (.tuple ds)
  | dic {a : Addr} {ps : List (Key × V)} {kvs : List (PyData × PyData)} : F a = some (.dK ps) → RpK F ps kvs → Rp F (.ref a) (.dict kvs)
inductive RpL (F : Hp) : List V → List PyData → Prop
  | nil : RpL F [] []
  | cons {v : V} {vs : List V} {d : PyData} {ds : List PyData} : Rp F v d → RpL F vs ds → RpL F (v :: vs) (d :: ds)
inductive RpK (F : Hp) : List (Key × V) → List (PyData × PyData) → Prop
  | nil : RpK F [] []
  | cons {k : Int} {v : V} {ps : List (Key × V)} {d : PyData} {kvs : List (PyData × PyData)} : Rp F v d → RpK F ps kvs → RpK F ((.inl k, v) :: ps) ((.int k, d) :: kvs)
end

mutual
theorem Rp.mono {F F' : Hp} (s : Same F F') : ∀ {d : PyData} {v : V}, Rp F v d → Rp F' v d
  | .none, _, h => by cases h; exact .non
  | .bool b, _, h => by cases h; exact .bl b
  | .int i, _, h => by cases h; exact .int i
  | .str x, _, h => by cases h; exact .str x
  | .list ds, _, h => by cases h with | lst e r => exact .lst (s _ _ e) (RpL.mono s r)
  | .tuple ds, _, h => by cases h with | tup e r => exact .tup (s _ _ e) (RpL.mono s r)
  | .dict kvs, _, h => by cases h with | dic e r => exact .dic (s _ _ e) (RpK.mono s r)
theorem RpL.mono {F F' : Hp} (s : Same F F') : ∀ {ds : List PyData} {vs : List V}, RpL F vs ds → RpL F' vs ds
  | [], _, h => by cases h; exact .nil
  | d :: ds, _, h => by cases h with | cons r t => exact .cons (Rp.mono s r) (RpL.mono s t)
theorem RpK.mono {F F' : Hp} (s : Same F F') : ∀ {ds : List (PyData × PyData)} {ps : List (Key × V)}, RpK F ps ds → RpK F' ps ds
  | [], _, h => by cases h; exact .nil
  | (_, d) :: ds, _, h => by cases h with | cons r t => exact .cons (Rp.mono s r) (RpK.mono s t)
end

theorem RpL.length {F : Hp} : ∀ {ds : List PyData} {vs : List V}, RpL F vs ds → vs.length = ds.length
  | [], _, h => by cases h; rfl
  | d :: ds, _, h => by cases h with | cons r t => simp [RpL.length t]
theorem RpL.get {F : Hp} : ∀ {ds : List PyData} {vs : List V} {i : Nat} {d : PyData}, RpL F vs ds → ds[i]? = some d → ∃ v, vs[i]? = some v ∧ Rp F v d
  | [], _, _, _, _, e => by simp at e
  | x :: ds, _, 0, d, h, e => by
    cases h with | cons r t =>
    simp at e; subst e; exact ⟨_, rfl, r⟩
  | x :: ds, _, i + 1, d, h, e => by
    cases h with | cons r t =>
    obtain ⟨v, h1, h2⟩ := RpL.get (i := i) t (by simpa using e)
    exact ⟨v, by simpa using h1, h2⟩
theorem RpL.getV {F : Hp} : ∀ {ds : List PyData} {vs : List V} {i : Nat} {v : V}, RpL F vs ds → vs[i]? = some v → ∃ d, ds[i]? = some d ∧ Rp F v d
  | [], _, _, _, h, e => by cases h; simp at e
  | x :: ds, _, 0, v, h, e => by
    cases h with | cons r t =>
    simp at e; subst e; exact ⟨_, rfl, r⟩
  | x :: ds, _, i + 1, v, h, e => by
    cases h with | cons r t =>
    obtain ⟨d, h1, h2⟩ := RpL.getV (i := i) t (by simpa using e)
    exact ⟨d, by simpa using h1, h2⟩
theorem RpL.append {F : Hp} : ∀ {ds es : List PyData} {vs ws : List V}, RpL F vs ds → RpL F ws es → RpL F (vs ++ ws) (ds ++ es)
  | [], _, _, _, h, k => by cases h; exact k
  | d :: ds, _, _, _, h, k => by cases h with | cons r t => exact .cons r (RpL.append t k)
theorem RpL.set {F : Hp} {d : PyData} {v : V} (r : Rp F v d) : ∀ {ds : List PyData} {vs : List V} (i : Nat), RpL F vs ds → RpL F (vs.set i v) (ds.set i d)
  | [], _, _, h => by cases h; exact .nil
  | _ :: _, _, 0, h => by cases h with | cons q t => exact .cons r t
  | _ :: _, _, i + 1, h => by cases h with | cons q t => exact .cons q (RpL.set r i t)
theorem RpL.drop {F : Hp} : ∀ {ds : List PyData} {vs : List V} (i : Nat), RpL F vs ds → RpL F (vs.drop i) (ds.drop i)
  | _, _, 0, h => h
  | [], _, i + 1, h => by cases h; exact .nil
  | _ :: _, _, i + 1, h => by cases h with | cons q t => exact RpL.drop i t
theorem RpL.take {F : Hp} : ∀ {ds : List PyData} {vs : List V} (i : Nat), RpL F vs ds → RpL F (vs.take i) (ds.take i)
  | _, _, 0, h => .nil
  | [], _, i + 1, h => by cases h; exact .nil
  | _ :: _, _, i + 1, h => by cases h with | cons q t => exact .cons q (RpL.take i t)
theorem RpL.reverse {F : Hp} : ∀ {ds : List PyData} {vs : List V}, RpL F vs ds → RpL F vs.reverse ds.reverse
  | [], _, h => by cases h; exact .nil
  | _ :: _, _, h => by
    cases h with | cons q t =>
    rw [List.reverse_cons, List.reverse_cons]
    exact (RpL.reverse t).append (.cons q .nil)

/-! ### what an evaluation leaves -/
structure Ext (F H F' H' : Hp) : Prop where
  ff : Same F F'
  fh : Same F' H'
  hh : Same H H'
  nw : ∀ b o, F' b = some o → F b = none → H b = none
theorem Ext.refl {F H : Hp} (s : Same F H) : Ext F H F H := ⟨Same.refl _, s, Same.refl _, fun b o h n => by rw [n] at h; cases h⟩
theorem Ext.trans {F H F1 H1 F2 H2 : Hp} (a : Ext F H F1 H1) (b : Ext F1 H1 F2 H2) : Ext F H F2 H2 :=
  ⟨a.ff.trans b.ff, b.fh, a.hh.trans b.hh, fun c o h n => by
    cases q : F1 c with
    | none => exact a.hh.free (b.nw c o h q)
    | some u => exact a.nw c u q n⟩
theorem same_upd {H : Hp} {p : Addr} {o : HO} (h : H p = none) : Same H (upd H p o) := fun b x e => by
  rw [upd_ne (ne_of_none e h)]; exact e
theorem same_upd2 {F H : Hp} {p : Addr} {o : HO} (s : Same F H) (h : F p = none) : Same F (upd H p o) := fun b x e => by
  rw [upd_ne (ne_of_none e h)]; exact s _ _ e
theorem same_updB {F H : Hp} {p : Addr} {o : HO} (s : Same F H) : Same (upd F p o) (upd H p o) := fun b x e => by
  by_cases hb : b = p
  · subst hb; rw [upd_same] at e ⊢; exact e
  · rw [upd_ne hb] at e ⊢; exact s _ _ e
theorem _root_.L2.Same.noneL {F H : Hp} {p : Addr} (s : Same F H) (h : H p = none) : F p = none := Same.free s h
/-- a new frozen object -/
theorem Ext.alloc {F H : Hp} {p : Addr} {o : HO} (s : Same F H) (h : H p = none) : Ext F H (upd F p o) (upd H p o) :=
  ⟨same_upd (s.noneL h), same_updB s, same_upd h, fun b x e n => by
    by_cases hb : b = p
    · subst hb; exact h
    · rw [upd_ne hb, n] at e; cases e⟩
/-- a new object that is not frozen -/
theorem Ext.fresh {F H : Hp} {p : Addr} {o : HO} (s : Same F H) (h : H p = none) : Ext F H F (upd H p o) :=
  ⟨Same.refl _, same_upd2 s (s.noneL h), same_upd h, fun b x e n => by rw [n] at e; cases e⟩
/-- a fresh object is frozen -/
theorem Ext.frz {F H F' H' : Hp} {p : Addr} {o : HO} (x : Ext F H F' H') (hp : F' p = none) (h : H p = none) (e : H' p = some o) : Ext F H (upd F' p o) H' :=
  ⟨x.ff.trans (same_upd hp), fun b u q => by
    by_cases hb : b = p
    · subst hb; rw [upd_same] at q; rw [e]; exact q
    · rw [upd_ne hb] at q; exact x.fh _ _ q, x.hh, fun b u q n => by
    by_cases hb : b = p
    · subst hb; exact h
    · rw [upd_ne hb] at q; exact x.nw _ _ q n⟩

/-! ### slots -/
inductive Sl where
  | no
  | d (x : PyData)
  | o (x : PyData)
  | oo (xs : List PyData)
abbrev En := List Sl
def Own (F H : Hp) (p : Addr) : PyData → Prop
  | .list ds => ∃ xs, H p = some (.lst xs) ∧ RpL F xs ds
  | .dict kvs => ∃ ps, H p = some (.dK ps) ∧ RpK F ps kvs
  | _ => False
theorem Own.there {F H : Hp} {p : Addr} {x : PyData} (h : Own F H p x) : ∃ o, H p = some o := by
  cases x with
  | list ds => obtain ⟨xs, e, _⟩ := h; exact ⟨_, e⟩
  | dict kvs => obtain ⟨xs, e, _⟩ := h; exact ⟨_, e⟩
  | _ => exact h.elim
theorem Own.mono {F H F' H' : Hp} {p : Addr} {x : PyData} (h : Own F H p x) (s : Same F F') (e : ∀ o, H p = some o → H' p = some o) : Own F' H' p x := by
  cases x with
  | list ds => obtain ⟨xs, q, r⟩ := h; exact ⟨_, e _ q, r.mono s⟩
  | dict kvs => obtain ⟨xs, q, r⟩ := h; exact ⟨_, e _ q, r.mono s⟩
  | _ => exact h.elim
/-- an owned object that is frozen stands for its datum -/
theorem Own.rp {F H F' : Hp} {p : Addr} {x : PyData} (h : Own F H p x) (s : Same F F') (e : ∀ o, H p = some o → F' p = some o) : Rp F' (.ref p) x := by
  cases x with
  | list ds => obtain ⟨xs, q, r⟩ := h; exact .lst (e _ q) (r.mono s)
  | dict kvs => obtain ⟨xs, q, r⟩ := h; exact .dic (e _ q) (r.mono s)
  | _ => exact h.elim
def OwnL (F H : Hp) : List Addr → List PyData → Prop
  | [], [] => True
  | q :: qs, x :: xs => F q = none ∧ Own F H q x ∧ OwnL F H qs xs
  | _, _ => False
def SlR (F H : Hp) (y : Option V) : Sl → Prop
  | .no => True
  | .d x => ∃ v, y = some v ∧ Rp F v x
  | .o x => ∃ p, y = some (.ref p) ∧ F p = none ∧ Own F H p x
  | .oo xs => ∃ p qs, y = some (.ref p) ∧ F p = none ∧ H p = some (.lst (qs.map V.ref)) ∧ OwnL F H qs xs ∧ (p :: qs).Nodup
structure EnvR (F H : Hp) (σ : St) (ρ : En) : Prop where
  len : σ.length = ρ.length
  get : ∀ {i : Nat} {s : Sl}, ρ[i]? = some s → ∃ y, σ[i]? = some y ∧ SlR F H y s
theorem Ext.stays {F H F' H' : Hp} (x : Ext F H F' H') {p : Addr} {o : HO} (n : F p = none) (h : H p = some o) : F' p = none := by
  cases q : F' p with
  | none => rfl
  | some u => rw [x.nw _ _ q n] at h; cases h
theorem OwnL.ext {F H F' H' : Hp} (x : Ext F H F' H') : ∀ {qs : List Addr} {xs : List PyData}, OwnL F H qs xs → OwnL F' H' qs xs
  | [], [], _ => trivial
  | q :: qs, y :: ys, ⟨h1, h2, h3⟩ => ⟨let ⟨o, e⟩ := h2.there; x.stays h1 e, h2.mono x.ff fun o e => x.hh _ _ e, OwnL.ext x h3⟩
  | [], _ :: _, h => h.elim
  | _ :: _, [], h => h.elim
theorem SlR.ext {F H F' H' : Hp} (x : Ext F H F' H') {y : Option V} {s : Sl} (h : SlR F H y s) : SlR F' H' y s := by
  cases s with
  | no => trivial
  | d z => obtain ⟨v, e, r⟩ := h; exact ⟨v, e, r.mono x.ff⟩
  | o z => obtain ⟨p, e, n, r⟩ := h; exact ⟨p, e, let ⟨o, q⟩ := r.there; x.stays n q, r.mono x.ff fun o q => x.hh _ _ q⟩
  | oo zs => obtain ⟨p, qs, e, n, hp, r, nd⟩ := h; exact ⟨p, qs, e, x.stays n hp, x.hh _ _ hp, r.ext x, nd⟩
theorem EnvR.ext {F H F' H' : Hp} {σ : St} {ρ : En} (h : EnvR F H σ ρ) (x : Ext F H F' H') : EnvR F' H' σ ρ :=
  ⟨h.len, fun e => let ⟨y, q, r⟩ := h.get e; ⟨y, q, r.ext x⟩⟩
theorem EnvR.set {F H : Hp} {σ : St} {ρ : En} (h : EnvR F H σ ρ) {i : Nat} {y : Option V} {s : Sl} (r : SlR F H y s) : EnvR F H (σ.set i y) (ρ.set i s) := by
  refine ⟨by simp [h.len], fun {j t} e => ?_⟩
  by_cases hj : i = j
  · subst hj
    by_cases hi : i < ρ.length
    · rw [List.getElem?_set_self hi] at e
      cases e
      exact ⟨y, List.getElem?_set_self (by rw [h.len]; exact hi), r⟩
    · rw [List.getElem?_eq_none (by simpa using hi)] at e; cases e
  · rw [List.getElem?_set_ne hj] at e
    obtain ⟨z, q, k⟩ := h.get e
    exact ⟨z, by rw [List.getElem?_set_ne hj]; exact q, k⟩

/-! ### the judgements of expressions -/
abbrev DE := En → Option PyData
abbrev DT := En → Option Bool
abbrev DA := En → Option (List PyData)
/-- an expression that evaluates to the datum f tells -/
def tE (f : DE) : TE := fun σ H Q => ∃ F ρ d, Same F H ∧ EnvR F H σ ρ ∧ f ρ = some d ∧ ∀ v F' H', Ext F H F' H' → Rp F' v d → Q v H'
/-- .. to a fresh object that is not frozen -/
def tO (f : DE) : TE := fun σ H Q => ∃ F ρ d, Same F H ∧ EnvR F H σ ρ ∧ f ρ = some d ∧ ∀ p F' H', Ext F H F' H' → F' p = none → H p = none → Own F' H' p d → Q (.ref p) H'
def tT (f : DT) : TT := fun σ H Q => ∃ F ρ b, Same F H ∧ EnvR F H σ ρ ∧ f ρ = some b ∧ ∀ F' H', Ext F H F' H' → Q b H'
def tA (f : DA) : TA := fun σ H Q => ∃ F ρ ds, Same F H ∧ EnvR F H σ ρ ∧ f ρ = some ds ∧ ∀ vs F' H', Ext F H F' H' → RpL F' vs ds → Q vs H'
/-- an operator, a call, by data -/
def rD (g : PyData → PyData → Option PyData) : R2 := fun x y H Q => ∃ F a b d, Same F H ∧ Rp F x a ∧ Rp F y b ∧ g a b = some d ∧ ∀ v F' H', Ext F H F' H' → Rp F' v d → Q v H'
def rDs (g : List PyData → Option PyData) : List V → Hp → VK → Prop := fun vs H Q => ∃ F ds d, Same F H ∧ RpL F vs ds ∧ g ds = some d ∧ ∀ v F' H', Ext F H F' H' → Rp F' v d → Q v H'

section
variable {X : Cx} {e a b c : Expr} {pos : Pos}
theorem _root_.L2.PE.imp {t t' : TE} (h : PE X e t) (k : ∀ σ H Q, t' σ H Q → t σ H Q) : PE X e t' := ⟨fun pins s σ H Q I q => h.run pins s σ H Q I (k σ H Q q)⟩
theorem _root_.L2.PT.imp {t t' : TT} (h : PT X e t) (k : ∀ σ H Q, t' σ H Q → t σ H Q) : PT X e t' := ⟨fun pins s σ H Q I q => h.run pins s σ H Q I (k σ H Q q)⟩
theorem _root_.L2.PW.imp {t t' : TT} (h : PW X e t) (k : ∀ σ H Q, t' σ H Q → t σ H Q) : PW X e t' := ⟨fun w pins s σ H Q I q => h.run w pins s σ H Q I (k σ H Q q)⟩
theorem _root_.L2.PA.imp {es : List Expr} {t t' : TA} (h : PA X es t) (k : ∀ σ H Q, t' σ H Q → t σ H Q) : PA X es t' := ⟨fun pos pins s σ H Q I q => h.run pos pins s σ H Q I (k σ H Q q)⟩
theorem _root_.L2.OpR.imp {f : Value → Value → Sem Value} {r r' : R2} (h : OpR X f r) (k : ∀ x y H Q, r' x y H Q → r x y H Q) : OpR X f r' := fun pins s σ H x y v u Q I rx ry q => h pins s σ H x y v u Q I rx ry (k x y H Q q)
theorem _root_.L2.CallR.imp {f : Value} {r r' : List V → Hp → VK → Prop} (h : CallR X f r) (k : ∀ xs H Q, r' xs H Q → r xs H Q) : CallR X f r' := fun pins s σ H xs us Q I rx q => h pins s σ H xs us Q I rx (k xs H Q q)
theorem _root_.L2.IxR.imp {r r' : R2} (h : IxR X r) (k : ∀ x y H Q, r' x y H Q → r x y H Q) : IxR X r' := fun value slice pins s σ H x y v u Q I rx ry q hs => h value slice pins s σ H x y v u Q I rx ry (k x y H Q q) hs

/-- a fresh object, frozen at once -/
theorem frozen {f : DE} (h : PE X e (tO f)) : PE X e (tE f) := h.imp fun σ H Q ⟨F, ρ, d, s, r, q, k⟩ =>
  ⟨F, ρ, d, s, r, q, fun p F' H' x n m o => by
    obtain ⟨u, hu⟩ := o.there
    exact k _ _ _ (x.frz n m hu) (o.rp (same_upd n) fun w hw => by rw [hw] at hu; cases hu; exact upd_same)⟩

/-! constants, names -/
def eC (d : PyData) : DE := fun _ => some d
def eV (i : Nat) : DE := fun ρ => match ρ[i]? with | some (.d x) => some x | _ => none
theorem ofC {v : V} {d : PyData} {t : TE} (h : PE X e (tC v)) (r : ∀ F, Rp F v d) : PE X e (tE (eC d)) := h.imp fun σ H Q ⟨F, ρ, d', s, _, q, k⟩ => by
  cases q
  exact k v F H (Ext.refl s) (r F)
theorem e_int {i : Int} {j : Nat} : PE X (.Constant (.int i) j pos) (tE (eC (.int i))) := ofC (t := tC (.int i)) pe_int fun _ => .int i
theorem e_bl {i : Bool} {j : Nat} : PE X (.Constant (.bool i) j pos) (tE (eC (.bool i))) := ofC (t := tC (.bl i)) pe_bl fun _ => .bl i
theorem e_non {j : Nat} : PE X (.Constant .none j pos) (tE (eC .none)) := ofC (t := tC .non) pe_non fun _ => .non
theorem e_str {x : Str} {j : Nat} : PE X (.Constant (.str x) j pos) (tE (eC (.str x))) := ofC (t := tC (.str x)) pe_str fun _ => .str x
theorem e_var {i : Nat} (h : PE X e (tVar i)) : PE X e (tE (eV i)) := h.imp fun σ H Q ⟨F, ρ, d, s, r, q, k⟩ => by
  unfold eV at q
  split at q
  · rename_i z hz
    cases q
    obtain ⟨y, hy, v, rfl, rv⟩ := r.get hz
    exact ⟨v, hy, k v F H (Ext.refl s) rv⟩
  · cases q
theorem v (i : Nat) {x : Str} {pos : Pos} (hN : X.N[i]? = some x := by rfl) (hv : Vis X.env.scope x := by first | exact Or.inl rfl | exact Or.inr (Or.inl rfl) | exact Or.inr (Or.inr rfl)) (hd : (x == ("__debug__" : Str)) = false := by decide) (hcd : (x == ("__classdict__" : Str)) = false := by decide) : PE X (.Name x pos) (tE (eV i)) :=
  e_var (pe_var hN hv hd hcd)
theorem e_globInt {x : Str} {i : Int} {t : Tok} (hg : Gl X x) (hm : X.mg x = some (.int i t)) (hd : (x == ("__debug__" : Str)) = false := by decide) : PE X (.Name x pos) (tE (eC (.int i))) := ofC (t := tC (.int i)) (pe_glob (v := .int i) hg hm ⟨t, rfl⟩ hd) fun _ => .int i

/-! two operands -/
def e2 (g : PyData → PyData → Option PyData) (fa fb : DE) : DE := fun ρ => (fa ρ).bind fun a => (fb ρ).bind fun b => g a b
theorem tOp_of {g : PyData → PyData → Option PyData} {fa fb : DE} {σ : St} {H : Hp} {Q : VK} (h : tE (e2 g fa fb) σ H Q) : tOp (rD g) (tE fa) (tE fb) σ H Q := by
  obtain ⟨F, ρ, d, s, r, q, k⟩ := h
  unfold e2 at q
  obtain ⟨da, ha, q⟩ := Option.bind_eq_some_iff.mp q
  obtain ⟨db, hb, q⟩ := Option.bind_eq_some_iff.mp q
  exact ⟨F, ρ, da, s, r, ha, fun x F1 H1 x1 r1 => ⟨F1, ρ, db, x1.fh, r.ext x1, hb, fun y F2 H2 x2 r2 =>
    ⟨F2, da, db, d, x2.fh, r1.mono x2.ff, r2, q, fun v F3 H3 x3 r3 => k v F3 H3 (x1.trans (x2.trans x3)) r3⟩⟩⟩
theorem e_op {op : Operator} {g : PyData → PyData → Option PyData} {fa fb : DE} (ho : OpR X (binaryOp op) (rD g)) (ha : PE X a (tE fa)) (hb : PE X b (tE fb)) : PE X (.BinOp a op b pos) (tE (e2 g fa fb)) :=
  (pe_op ho ha hb).imp fun _ _ _ h => tOp_of h
theorem e_cmp {op : CmpOp} {g : PyData → PyData → Option PyData} {fa fb : DE} (ho : OpR X (compareOp op) (rD g)) (ha : PE X a (tE fa)) (hb : PE X b (tE fb)) (hm : behindInMarks op b = false := by first | exact nomark _ | rfl) : PE X (.Compare a [op] [b] pos) (tE (e2 g fa fb)) :=
  (pe_cmpR ho ha hb hm).imp fun _ _ _ h => tOp_of h
/-- a value's bool -/
def bO (f : DE) : DT := fun ρ => match f ρ with | some (.bool b) => some b | _ => none
theorem bO_some {f : DE} {ρ : En} {b : Bool} (h : bO f ρ = some b) : f ρ = some (.bool b) := by
  unfold bO at h; split at h
  · rename_i c hc; cases h; exact hc
  · cases h
theorem tB_of {f : DE} {t : TE} {σ : St} {H : Hp} {Q : Bool → Hp → Prop} (ht : ∀ σ H Q, tE f σ H Q → t σ H Q) (h : tT (bO f) σ H Q) : t σ H fun x H' => ∃ k, x = .bl k ∧ Q k H' := by
  obtain ⟨F, ρ, b, s, r, q, k⟩ := h
  exact ht _ _ _ ⟨F, ρ, _, s, r, bO_some q, fun v F' H' x rv => by cases rv; exact ⟨b, rfl, k F' H' x⟩⟩
theorem t_cmp {op : CmpOp} {g : PyData → PyData → Option PyData} {fa fb : DE} (ho : OpR X (compareOp op) (rD g)) (ha : PE X a (tE fa)) (hb : PE X b (tE fb)) (hm : behindInMarks op b = false := by first | exact nomark _ | rfl) : PT X (.Compare a [op] [b] pos) (tT (bO (e2 g fa fb))) :=
  (pt_cmpR ho ha hb hm).imp fun _ _ _ h => tB_of (fun _ _ _ h => tOp_of h) h
theorem t_val {f : DE} (h : PE X e (tE f)) (he : ∀ whole, isTrue e X.env whole = (do let v ← whole; standAt e.pos; holding [v] (truthy v)) := by intro _; rfl) : PT X e (tT (bO f)) :=
  (pt_val h he).imp fun _ _ _ h => tB_of (fun _ _ _ h => h) h
/-- an int's truth -/
def iO (f : DE) : DT := fun ρ => match f ρ with | some (.int i) => some (i != 0) | _ => none
theorem t_int {f : DE} (h : PE X e (tE f)) (he : ∀ whole, isTrue e X.env whole = (do let v ← whole; standAt e.pos; holding [v] (truthy v)) := by intro _; rfl) : PT X e (tT (iO f)) :=
  (pt_truth h he).imp fun σ H Q ⟨F, ρ, b, s, r, q, k⟩ => by
    unfold iO at q
    split at q
    · rename_i i hi
      cases q
      exact ⟨F, ρ, _, s, r, hi, fun v F' H' x rv => by cases rv; exact ⟨_, rfl, k F' H' x⟩⟩
    · cases q

/-! and, or, not; a if t else b -/
def eAnd (fa fb : DE) : DE := fun ρ => match fa ρ with | some (.bool true) => fb ρ | some (.bool false) => some (.bool false) | _ => none
def eOr (fa fb : DE) : DE := fun ρ => match fa ρ with | some (.bool false) => fb ρ | some (.bool true) => some (.bool true) | _ => none
def eNot (fa : DE) : DE := fun ρ => match fa ρ with | some (.bool b) => some (.bool (!b)) | _ => none
theorem e_one {op : BoolOp} {f : DE} (h : PE X a (tE f)) : PE X (.BoolOp op [a] pos) (tE f) := pe_one h
theorem e_and {rest : List Expr} {fa fb : DE} (ha : PE X a (tE fa)) (hb : PE X (.BoolOp .And (b :: rest) pos) (tE fb)) : PE X (.BoolOp .And (a :: b :: rest) pos) (tE (eAnd fa fb)) :=
  (pe_and ha hb).imp fun σ H Q ⟨F, ρ, d, s, r, q, k⟩ => by
    unfold eAnd at q
    split at q
    · rename_i h
      exact ⟨F, ρ, _, s, r, h, fun v F' H' x rv => by cases rv; exact ⟨true, rfl, iteT ⟨F', ρ, d, x.fh, r.ext x, q, fun v F2 H2 x2 r2 => k v F2 H2 (x.trans x2) r2⟩⟩⟩
    · rename_i h
      cases q
      exact ⟨F, ρ, _, s, r, h, fun v F' H' x rv => by cases rv; exact ⟨false, rfl, iteF (k _ F' H' x (.bl false))⟩⟩
    · cases q
theorem e_or {rest : List Expr} {fa fb : DE} (ha : PE X a (tE fa)) (hb : PE X (.BoolOp .Or (b :: rest) pos) (tE fb)) : PE X (.BoolOp .Or (a :: b :: rest) pos) (tE (eOr fa fb)) :=
  (pe_or ha hb).imp fun σ H Q ⟨F, ρ, d, s, r, q, k⟩ => by
    unfold eOr at q
    split at q
    · rename_i h
      exact ⟨F, ρ, _, s, r, h, fun v F' H' x rv => by cases rv; exact ⟨false, rfl, iteF ⟨F', ρ, d, x.fh, r.ext x, q, fun v F2 H2 x2 r2 => k v F2 H2 (x.trans x2) r2⟩⟩⟩
    · rename_i h
      cases q
      exact ⟨F, ρ, _, s, r, h, fun v F' H' x rv => by cases rv; exact ⟨true, rfl, iteT (k _ F' H' x (.bl true))⟩⟩
    · cases q
theorem e_not {fa : DE} (ha : PE X a (tE fa)) : PE X (.UnaryOp .Not a pos) (tE (eNot fa)) :=
  (pe_not ha).imp fun σ H Q ⟨F, ρ, d, s, r, q, k⟩ => by
    unfold eNot at q
    split at q
    · rename_i b h
      cases q
      exact ⟨F, ρ, _, s, r, h, fun v F' H' x rv => by cases rv; exact ⟨b, rfl, k _ F' H' x (.bl _)⟩⟩
    · cases q
def eIf (t : DT) (fa fb : DE) : DE := fun ρ => match t ρ with | some true => fa ρ | some false => fb ρ | none => none
theorem e_if {t : DT} {fa fb : DE} (hc : PT X c (tT t)) (ha : PE X a (tE fa)) (hb : PE X b (tE fb)) : PE X (.IfExp c a b pos) (tE (eIf t fa fb)) :=
  (pe_ifExp hc ha hb).imp fun σ H Q ⟨F, ρ, d, s, r, q, k⟩ => by
    unfold eIf at q
    split at q
    · rename_i h
      exact ⟨F, ρ, _, s, r, h, fun F' H' x => iteT ⟨F', ρ, d, x.fh, r.ext x, q, fun v F2 H2 x2 r2 => k v F2 H2 (x.trans x2) r2⟩⟩
    · rename_i h
      exact ⟨F, ρ, _, s, r, h, fun F' H' x => iteF ⟨F', ρ, d, x.fh, r.ext x, q, fun v F2 H2 x2 r2 => k v F2 H2 (x.trans x2) r2⟩⟩
    · cases q
/-! tests -/
def tAndD (t u : DT) : DT := fun ρ => match t ρ with | some true => u ρ | some false => some false | none => none
def tOrD (t u : DT) : DT := fun ρ => match t ρ with | some false => u ρ | some true => some true | none => none
def tNotD (t : DT) : DT := fun ρ => (t ρ).map (!·)
theorem w_and1 {t : DT} (h : PT X a (tT t)) : PW X (.BoolOp .And [a] pos) (tT t) := pw_and1 h
theorem w_or1 {t : DT} (h : PT X a (tT t)) : PW X (.BoolOp .Or [a] pos) (tT t) := pw_or1 h
theorem w_and {rest : List Expr} {t u : DT} (ha : PT X a (tT t)) (hb : PW X (.BoolOp .And (b :: rest) pos) (tT u)) : PW X (.BoolOp .And (a :: b :: rest) pos) (tT (tAndD t u)) :=
  (pw_and ha hb).imp fun σ H Q ⟨F, ρ, d, s, r, q, k⟩ => by
    unfold tAndD at q
    split at q
    · rename_i h
      exact ⟨F, ρ, _, s, r, h, fun F' H' x => iteT ⟨F', ρ, d, x.fh, r.ext x, q, fun F2 H2 x2 => k F2 H2 (x.trans x2)⟩⟩
    · rename_i h
      cases q
      exact ⟨F, ρ, _, s, r, h, fun F' H' x => iteF (k F' H' x)⟩
    · cases q
theorem w_or {rest : List Expr} {t u : DT} (ha : PT X a (tT t)) (hb : PW X (.BoolOp .Or (b :: rest) pos) (tT u)) : PW X (.BoolOp .Or (a :: b :: rest) pos) (tT (tOrD t u)) :=
  (pw_or ha hb).imp fun σ H Q ⟨F, ρ, d, s, r, q, k⟩ => by
    unfold tOrD at q
    split at q
    · rename_i h
      exact ⟨F, ρ, _, s, r, h, fun F' H' x => iteF ⟨F', ρ, d, x.fh, r.ext x, q, fun F2 H2 x2 => k F2 H2 (x.trans x2)⟩⟩
    · rename_i h
      cases q
      exact ⟨F, ρ, _, s, r, h, fun F' H' x => iteT (k F' H' x)⟩
    · cases q
theorem t_not {t : DT} (h : PT X a (tT t)) : PT X (.UnaryOp .Not a pos) (tT (tNotD t)) :=
  (pt_not h).imp fun σ H Q ⟨F, ρ, d, s, r, q, k⟩ => by
    unfold tNotD at q
    obtain ⟨b, hb, e⟩ := Option.map_eq_some_iff.mp q
    subst e
    exact ⟨F, ρ, b, s, r, hb, fun F' H' x => k F' H' x⟩

/-! arguments, displays -/
def aNil : DA := fun _ => some []
def aCons (f : DE) (fs : DA) : DA := fun ρ => (f ρ).bind fun d => (fs ρ).bind fun ds => some (d :: ds)
theorem a_nil : PA X [] (tA aNil) := pa_nil.imp fun σ H Q ⟨F, ρ, d, s, r, q, k⟩ => by cases q; exact k [] F H (Ext.refl s) .nil
theorem a_cons {es : List Expr} {f : DE} {fs : DA} (h : PE X e (tE f)) (hr : PA X es (tA fs)) (hs : starEach (e :: es) X.env = (false, eval e X.env) :: starEach es X.env := by rfl) : PA X (e :: es) (tA (aCons f fs)) :=
  (pa_cons h hr hs).imp fun σ H Q ⟨F, ρ, d, s, r, q, k⟩ => by
    unfold aCons at q
    obtain ⟨da, ha, q⟩ := Option.bind_eq_some_iff.mp q
    obtain ⟨db, hb, q⟩ := Option.bind_eq_some_iff.mp q
    cases q
    exact ⟨F, ρ, da, s, r, ha, fun x F1 H1 x1 r1 => ⟨F1, ρ, db, x1.fh, r.ext x1, hb, fun y F2 H2 x2 r2 => k _ F2 H2 (x1.trans x2) (.cons (r1.mono x2.ff) r2)⟩⟩
/-- a list of this length is no longer than the model lets be -/
def okLen (n : Nat) : Bool := Nat.ble n 16777216
theorem okLen_le {n : Nat} (h : okLen n = true) : n ≤ sizeLine := by rw [sizeLine_eq]; exact Nat.le_of_ble_eq_true h
def eTup (fs : DA) : DE := fun ρ => (fs ρ).bind fun ds => if okLen ds.length then some (.tuple ds) else none
def eLst (fs : DA) : DE := fun ρ => (fs ρ).bind fun ds => if okLen ds.length then some (.list ds) else none
theorem e_tup {es : List Expr} {fs : DA} {x1 : Nat} (h : PA X es (tA fs)) : PE X (.Tuple es x1 pos) (tE (eTup fs)) :=
  (pe_tup h).imp fun σ H Q ⟨F, ρ, d, s, r, q, k⟩ => by
    unfold eTup at q
    obtain ⟨ds, hd, q⟩ := Option.bind_eq_some_iff.mp q
    split at q
    · rename_i ok
      cases q
      exact ⟨F, ρ, ds, s, r, hd, fun vs F1 H1 x1 r1 => ⟨by rw [r1.length]; exact okLen_le ok, fun p hp => k _ _ _ (x1.trans (Ext.alloc x1.fh hp)) (.tup upd_same (r1.mono (same_upd (x1.fh.noneL hp))))⟩⟩
    · cases q
theorem o_lst {es : List Expr} {fs : DA} (h : PA X es (tA fs)) : PE X (.List es pos) (tO (eLst fs)) :=
  (pe_lst h).imp fun σ H Q ⟨F, ρ, d, s, r, q, k⟩ => by
    unfold eLst at q
    obtain ⟨ds, hd, q⟩ := Option.bind_eq_some_iff.mp q
    split at q
    · rename_i ok
      cases q
      exact ⟨F, ρ, ds, s, r, hd, fun vs F1 H1 x1 r1 => ⟨by rw [r1.length]; exact okLen_le ok, fun p hp => k _ _ _ (x1.trans (Ext.fresh x1.fh hp)) (x1.fh.noneL hp) (x1.hh.free hp) ⟨vs, upd_same, r1⟩⟩⟩
    · cases q
theorem e_lst {es : List Expr} {fs : DA} (h : PA X es (tA fs)) : PE X (.List es pos) (tE (eLst fs)) := frozen (o_lst h)
theorem o_dnew : PE X (.Dict [] [] pos) (tO (eC (.dict []))) :=
  pe_dnewK.imp fun σ H Q ⟨F, ρ, d, s, r, q, k⟩ => by
    cases q
    exact fun p hp => k p _ _ (Ext.fresh s hp) (s.noneL hp) hp ⟨[], upd_same, .nil⟩
theorem e_dnew : PE X (.Dict [] [] pos) (tE (eC (.dict []))) := frozen o_dnew
end
end Ea
end
section
set_option Elab.async false
set_option linter.all false
set_option maxRecDepth 100000
set_option maxHeartbeats 4000000
/-! EaB: operators, built-ins, subscripts, slices, dicts -/
namespace Ea
open PySem PySem.Spec L2
open PyProof.Rows hiding St

/-! ### from a datum to the layer's own descriptions -/
mutual
theorem Rp.dp {K : PySem.W.Frag} {F H : Hp} (s : Same F H) : ∀ {d : PyData} {v : V}, Rp F v d → d.canLay0 = true → Dp K H v d
  | .none, _, h, _ => by cases h; exact .non
  | .bool b, _, h, _ => by cases h; exact .bl b
  | .int i, _, h, _ => by cases h; exact .int i
  | .str x, _, h, _ => by cases h; exact .str x
  | .list ds, _, h, c => by cases h with | lst e r => exact .lst (SqL.of (s _ _ e)) (RpL.dp s r (by simpa [PyData.canLay0] using c))
  | .tuple ds, _, h, c => by cases h with | tup e r => exact .tup (SqT.of (s _ _ e)) (RpL.dp s r (by simpa [PyData.canLay0] using c))
  | .dict kvs, _, h, c => by simp [PyData.canLay0] at c
theorem RpL.dp {K : PySem.W.Frag} {F H : Hp} (s : Same F H) : ∀ {ds : List PyData} {vs : List V}, RpL F vs ds → PyData.canLayAll0 ds = true → DpAll K H vs ds
  | [], _, h, _ => by cases h; exact .nil
  | d :: ds, _, h, c => by
    cases h with | cons r t =>
    have c' : d.canLay0 = true ∧ PyData.canLayAll0 ds = true := by simpa [PyData.canLayAll0] using c
    exact .cons (Rp.dp s r c'.1) (RpL.dp s t c'.2)
end
/-- a list of ints -/
def ints? : List PyData → Option (List Int)
  | [] => some []
  | .int i :: r => (ints? r).map (i :: ·)
  | _ => none
theorem RpL.ints {F : Hp} : ∀ {ds : List PyData} {vs : List V} {ns : List Int}, RpL F vs ds → ints? ds = some ns → vs = ns.map V.int
  | [], _, _, h, e => by cases h; cases e; rfl
  | d :: ds, _, _, h, e => by
    cases h with | cons r t =>
    cases d with
    | int i =>
      obtain ⟨ms, e1, e2⟩ := Option.map_eq_some_iff.mp (show (ints? ds).map (i :: ·) = _ from e)
      subst e2
      cases r
      rw [RpL.ints t e1]; rfl
    | _ => cases e
theorem RpL.ofInts {F : Hp} : ∀ ns : List Int, RpL F (ns.map V.int) (ns.map PyData.int)
  | [] => .nil
  | i :: r => .cons (.int i) (RpL.ofInts r)
def bls? : List PyData → Option (List Bool)
  | [] => some []
  | .bool i :: r => (bls? r).map (i :: ·)
  | _ => none
theorem RpL.bls {F : Hp} : ∀ {ds : List PyData} {vs : List V} {ns : List Bool}, RpL F vs ds → bls? ds = some ns → vs = ns.map V.bl
  | [], _, _, h, e => by cases h; cases e; rfl
  | d :: ds, _, _, h, e => by
    cases h with | cons r t =>
    cases d with
    | bool i =>
      obtain ⟨ms, e1, e2⟩ := Option.map_eq_some_iff.mp (show (bls? ds).map (i :: ·) = _ from e)
      subst e2
      cases r
      rw [RpL.bls t e1]; rfl
    | _ => cases e

section
variable {X : Cx} {e a b c : Expr} {pos : Pos}
/-! ### operators of ints -/
def intOp (c : Int → Int → Bool) (g : Int → Int → Int) : PyData → PyData → Option PyData
  | .int i, .int j => if c i j then some (.int (g i j)) else none
  | _, _ => none
theorem opInt {f : Value → Value → Sem Value} {C : Int → Int → Prop} {c : Int → Int → Bool} {g : Int → Int → Int} (h : OpR X f (rI C fun i j => .int (g i j))) (hc : ∀ i j, c i j = true → C i j) : OpR X f (rD (intOp c g)) :=
  h.imp fun x y H Q ⟨F, a, b, d, s, ra, rb, q, k⟩ => by
    unfold intOp at q
    split at q
    · rename_i i j
      split at q
      · rename_i hcc
        cases q; cases ra; cases rb
        exact ⟨i, j, rfl, rfl, hc i j hcc, k _ F H (Ext.refl s) (.int _)⟩
      · cases q
    · cases q
def yes2 : Int → Int → Bool := fun _ _ => true
theorem opInt0 {f : Value → Value → Sem Value} {g : Int → Int → Int} (h : OpR X f (rI0 fun i j => .int (g i j))) : OpR X f (rD (intOp yes2 g)) :=
  opInt (C := fun _ _ => True) (h.imp fun x y H Q ⟨i, j, e1, e2, _, q⟩ => ⟨i, j, e1, e2, q⟩) fun _ _ _ => trivial
def gSub := intOp yes2 (· - ·)
def gAnd := intOp yes2 Builtin.bitAnd
def gOr := intOp yes2 Builtin.bitOr
def gXor := intOp yes2 Builtin.bitXor
theorem oSub : OpR X (binaryOp .Sub) (rD gSub) := opInt0 op_sub
theorem oAnd : OpR X (binaryOp .BitAnd) (rD gAnd) := opInt0 op_and
theorem oOr : OpR X (binaryOp .BitOr) (rD gOr) := opInt0 op_or
theorem oXor : OpR X (binaryOp .BitXor) (rD gXor) := opInt0 op_xor
def cSh (i j : Int) : Bool := decide (0 ≤ j) && decide (j ≤ 1000000) && decide (i.natAbs < 18446744073709551616)
def gShl := intOp cSh (fun i j => i * 2 ^ j.toNat)
theorem oShl : OpR X (binaryOp .LShift) (rD gShl) := opInt op_shl fun i j h => by
  unfold cSh at h
  simp only [Bool.and_eq_true, decide_eq_true_eq] at h
  exact ⟨h.1.1, h.1.2, Nat.lt_of_lt_of_le h.2 (by decide)⟩
def gPow := intOp cSh (fun i j => i ^ j.toNat)
theorem oPow : OpR X (binaryOp .Pow) (rD gPow) := opInt op_pow fun i j h => by
  unfold cSh at h
  simp only [Bool.and_eq_true, decide_eq_true_eq] at h
  exact ⟨h.1.1, h.1.2, Nat.lt_of_lt_of_le h.2 (by decide)⟩
def gShr := intOp (fun _ j => decide (0 ≤ j)) (fun i j => i / 2 ^ j.toNat)
theorem oShr : OpR X (binaryOp .RShift) (rD gShr) := opInt op_shr fun i j h => of_decide_eq_true h
def gMod := intOp (fun _ j => decide (0 < j)) (fun i j => i % j)
theorem oMod : OpR X (binaryOp .Mod) (rD gMod) := opInt op_mod fun i j h => of_decide_eq_true h
def gFdiv := intOp (fun _ j => decide (0 < j) && decide (j < 1073741824)) (fun i j => i / j)
theorem oFdiv : OpR X (binaryOp .FloorDiv) (rD gFdiv) := opInt op_fdiv fun i j h => by
  simp only [Bool.and_eq_true, decide_eq_true_eq] at h
  exact h
/-- +: ints, lists, tuples -/
def gAdd : PyData → PyData → Option PyData
  | .int i, .int j => some (.int (i + j))
  | .list xs, .list ys => if okLen (xs.length + ys.length) then some (.list (xs ++ ys)) else none
  | .tuple xs, .tuple ys => if okLen (xs.length + ys.length) then some (.tuple (xs ++ ys)) else none
  | _, _ => none
theorem oAdd : OpR X (binaryOp .Add) (rD gAdd) := ((op_add.or op_cat).or op_catA).imp fun x y H Q ⟨F, a, b, d, s, ra, rb, q, k⟩ => by
  unfold gAdd at q
  split at q
  · rename_i i j
    cases q; cases ra; cases rb
    exact .inl (.inl ⟨i, j, rfl, rfl, k _ F H (Ext.refl s) (.int _)⟩)
  · rename_i xs ys
    split at q
    · rename_i ok
      cases q
      cases ra with | lst e1 r1 =>
      cases rb with | lst e2 r2 =>
      refine .inl (.inr ⟨_, _, _, _, rfl, rfl, s _ _ e1, s _ _ e2, by rw [r1.length, r2.length]; exact okLen_le ok, fun p hp => ?_⟩)
      exact k _ _ _ (Ext.alloc s hp) (.lst upd_same ((r1.append r2).mono (same_upd (s.noneL hp))))
    · cases q
  · rename_i xs ys
    split at q
    · rename_i ok
      cases q
      cases ra with | tup e1 r1 =>
      cases rb with | tup e2 r2 =>
      refine .inr ⟨_, _, _, _, rfl, rfl, SqT.of (s _ _ e1), SqT.of (s _ _ e2), by rw [r1.length, r2.length]; exact okLen_le ok, fun h0 => ?_, fun h1 h0 => ?_, fun _ _ p hp => ?_⟩
      · subst h0
        have hx : xs = [] := by cases r1; rfl
        subst hx
        exact k _ F H (Ext.refl s) (.tup e2 r2)
      · subst h0
        have hy : ys = [] := by cases r2; rfl
        subst hy
        rw [List.append_nil] at k
        exact k _ F H (Ext.refl s) (.tup e1 r1)
      · exact k _ _ _ (Ext.alloc s hp) (.tup upd_same ((r1.append r2).mono (same_upd (s.noneL hp))))
    · cases q
  · cases q
def gCat : PyData → PyData → Option PyData
  | .list xs, .list ys => if okLen (xs.length + ys.length) then some (.list (xs ++ ys)) else none
  | _, _ => none
/-- xs + ys, a fresh list -/
theorem o_cat {fa fb : DE} (ha : PE X a (tE fa)) (hb : PE X b (tE fb)) : PE X (.BinOp a .Add b pos) (tO (e2 gCat fa fb)) :=
  (pe_op op_cat ha hb).imp fun σ H Q ⟨F, ρ, d, s, r, q, k⟩ => by
    unfold e2 at q
    obtain ⟨da, ha, q⟩ := Option.bind_eq_some_iff.mp q
    obtain ⟨db, hb, q⟩ := Option.bind_eq_some_iff.mp q
    refine ⟨F, ρ, da, s, r, ha, fun x F1 H1 x1 r1 => ⟨F1, ρ, db, x1.fh, r.ext x1, hb, fun y F2 H2 x2 r2 => ?_⟩⟩
    unfold gCat at q
    split at q
    · rename_i xs ys
      split at q
      · rename_i ok
        cases q
        have r1' := r1.mono x2.ff
        cases r1' with | lst e1 t1 =>
        cases r2 with | lst e2 t2 =>
        refine ⟨_, _, _, _, rfl, rfl, x2.fh _ _ e1, x2.fh _ _ e2, by rw [t1.length, t2.length]; exact okLen_le ok, fun p hp => ?_⟩
        exact k _ _ _ (x1.trans (x2.trans (Ext.fresh x2.fh hp))) (x2.fh.noneL hp) ((x1.trans x2).hh.free hp) ⟨_, upd_same, t1.append t2⟩
      · cases q
    · cases q
/-- *: ints (one of them below 2^64), a list k times -/
def repD : Nat → List PyData → List PyData
  | 0, _ => []
  | k + 1, xs => xs ++ repD k xs
def gMul : PyData → PyData → Option PyData
  | .int i, .int j => if (decide (-18446744073709551616 < i) && decide (i < 18446744073709551616)) || (decide (-18446744073709551616 < j) && decide (j < 18446744073709551616)) then some (.int (i * j)) else none
  | .list xs, .int k => if decide (0 ≤ k) && decide (k < 1000) && okLen (xs.length * k.toNat) then some (.list (repD k.toNat xs)) else none
  | _, _ => none
theorem RpL.rep {F : Hp} {xs : List PyData} {vs : List V} (r : RpL F vs xs) : ∀ k : Nat, RpL F (List.replicate k vs).flatten (repD k xs)
  | 0 => .nil
  | k + 1 => by rw [List.replicate_succ, List.flatten_cons]; exact r.append (RpL.rep r k)
theorem oMul : OpR X (binaryOp .Mult) (rD gMul) := (op_mul.or op_rep).imp fun x y H Q ⟨F, a, b, d, s, ra, rb, q, k⟩ => by
  unfold gMul at q
  split at q
  · rename_i i j
    split at q
    · rename_i hc
      cases q; cases ra; cases rb
      refine .inl ⟨i, j, rfl, rfl, ?_, k _ F H (Ext.refl s) (.int _)⟩
      simp only [Bool.or_eq_true, Bool.and_eq_true, decide_eq_true_eq] at hc
      exact hc
    · cases q
  · rename_i xs i
    split at q
    · rename_i hc
      cases q
      simp only [Bool.and_eq_true, decide_eq_true_eq] at hc
      cases rb
      cases ra with | lst e1 r1 =>
      refine .inr ⟨_, _, _, rfl, rfl, s _ _ e1, by omega, by omega, by rw [r1.length]; exact okLen_le hc.2, fun p hp => ?_⟩
      exact k _ _ _ (Ext.alloc s hp) (.lst upd_same ((r1.rep _).mono (same_upd (s.noneL hp))))
    · cases q
  · cases q
/-- ~x -/
def gInv : PyData → Option PyData
  | .int i => some (.int (Builtin.bitNot i))
  | _ => none
def e1 (g : PyData → Option PyData) (fa : DE) : DE := fun ρ => (fa ρ).bind g
theorem e_inv {fa : DE} (ha : PE X a (tE fa)) : PE X (.UnaryOp .Invert a pos) (tE (e1 gInv fa)) :=
  (pe_un un_inv ha).imp fun σ H Q ⟨F, ρ, d, s, r, q, k⟩ => by
    obtain ⟨da, ha, q⟩ := Option.bind_eq_some_iff.mp q
    refine ⟨F, ρ, da, s, r, ha, fun x F1 H1 x1 r1 => ?_⟩
    cases da with
    | int i => cases q; cases r1; exact ⟨i, rfl, k _ F1 H1 x1 (.int _)⟩
    | _ => cases q
def gNeg : PyData → Option PyData
  | .int i => some (.int (-i))
  | _ => none
theorem e_neg {fa : DE} (ha : PE X a (tE fa)) : PE X (.UnaryOp .USub a pos) (tE (e1 gNeg fa)) :=
  (pe_un un_neg ha).imp fun σ H Q ⟨F, ρ, d, s, r, q, k⟩ => by
    obtain ⟨da, ha, q⟩ := Option.bind_eq_some_iff.mp q
    refine ⟨F, ρ, da, s, r, ha, fun x F1 H1 x1 r1 => ?_⟩
    cases da with
    | int i => cases q; cases r1; exact ⟨i, rfl, k _ F1 H1 x1 (.int _)⟩
    | _ => cases q

/-! ### comparisons -/
def cmpI (g : Int → Int → Bool) : PyData → PyData → Option PyData
  | .int i, .int j => some (.bool (g i j))
  | _, _ => none
theorem opCmpI {f : Value → Value → Sem Value} {g : Int → Int → Bool} (h : OpR X f (rI0 fun i j => .bl (g i j))) : OpR X f (rD (cmpI g)) :=
  h.imp fun x y H Q ⟨F, a, b, d, s, ra, rb, q, k⟩ => by
    unfold cmpI at q
    split at q
    · cases q; cases ra; cases rb
      exact ⟨_, _, rfl, rfl, k _ F H (Ext.refl s) (.bl _)⟩
    · cases q
def gLt := cmpI fun i j => decide (i < j)
def gLe := cmpI fun i j => decide (i ≤ j)
def gGt := cmpI fun i j => decide (j < i)
def gGe := cmpI fun i j => decide (j ≤ i)
def gEqI := cmpI fun i j => decide (i = j)
def gNeI := cmpI fun i j => !decide (i = j)
theorem oLt : OpR X (compareOp .Lt) (rD gLt) := opCmpI op_lt
theorem oLe : OpR X (compareOp .LtE) (rD gLe) := opCmpI op_le
theorem oGt : OpR X (compareOp .Gt) (rD gGt) := opCmpI op_gt
theorem oGe : OpR X (compareOp .GtE) (rD gGe) := opCmpI op_ge
theorem oEqI : OpR X (compareOp .Eq) (rD gEqI) := op_eq.imp fun x y H Q ⟨F, a, b, d, s, ra, rb, q, k⟩ => by
  unfold gEqI cmpI at q
  split at q
  · rename_i i j
    cases q; cases ra; cases rb
    refine ⟨rfl, ?_⟩
    have e : decide (V.int i = V.int j) = decide (i = j) := by
      by_cases h : i = j
      · subst h; simp
      · rw [decide_eq_false h, decide_eq_false fun z => h (V.int.inj z)]
    rw [e]; exact k _ F H (Ext.refl s) (.bl _)
  · cases q
theorem oNeI : OpR X (compareOp .NotEq) (rD gNeI) := op_ne.imp fun x y H Q ⟨F, a, b, d, s, ra, rb, q, k⟩ => by
  unfold gNeI cmpI at q
  split at q
  · rename_i i j
    cases q; cases ra; cases rb
    refine ⟨rfl, ?_⟩
    have e : decide (V.int i = V.int j) = decide (i = j) := by
      by_cases h : i = j
      · subst h; simp
      · rw [decide_eq_false h, decide_eq_false fun z => h (V.int.inj z)]
    rw [e]; exact k _ F H (Ext.refl s) (.bl _)
  · cases q
/-- == != of bools -/
def cmpB (g : Bool → Bool → Bool) : PyData → PyData → Option PyData
  | .bool i, .bool j => some (.bool (g i j))
  | _, _ => none
def gNeB := cmpB fun i j => i != j
def gEqB := cmpB fun i j => i == j
theorem oNeB : OpR X (compareOp .NotEq) (rD gNeB) := op_ne.imp fun x y H Q ⟨F, a, b, d, s, ra, rb, q, k⟩ => by
  unfold gNeB cmpB at q
  split at q
  · rename_i i j
    cases q; cases ra; cases rb
    refine ⟨rfl, ?_⟩
    have e : (!decide (V.bl i = V.bl j)) = (i != j) := by cases i <;> cases j <;> rfl
    rw [e]; exact k _ F H (Ext.refl s) (.bl _)
  · cases q
theorem oEqB : OpR X (compareOp .Eq) (rD gEqB) := op_eq.imp fun x y H Q ⟨F, a, b, d, s, ra, rb, q, k⟩ => by
  unfold gEqB cmpB at q
  split at q
  · rename_i i j
    cases q; cases ra; cases rb
    refine ⟨rfl, ?_⟩
    have e : (decide (V.bl i = V.bl j)) = (i == j) := by cases i <;> cases j <;> rfl
    rw [e]; exact k _ F H (Ext.refl s) (.bl _)
  · cases q
/-- == of data at any depth -/
def gEqD (a b : PyData) : Option PyData := if SeqAt.shaped a && SeqAt.shaped b then some (.bool (PyData.eqv a b)) else none
theorem oEqD (hu : X.A.units + 64 < cLine) : OpR X (compareOp .Eq) (rD gEqD) := (op_eqD hu).imp fun x y H Q ⟨F, a, b, d, s, ra, rb, q, k⟩ => by
  unfold gEqD at q
  split at q
  · rename_i h
    cases q
    obtain ⟨h1, h2⟩ := Bool.and_eq_true_iff.mp h
    exact ⟨a, b, ra.dp s (SeqAt.canLay_of_shaped h1), rb.dp s (SeqAt.canLay_of_shaped h2), h1, h2, k _ F H (Ext.refl s) (.bl _)⟩
  · cases q
/-- < of tuples of ints -/
def gLtT : PyData → PyData → Option PyData
  | .tuple xs, .tuple ys => (ints? xs).bind fun ns => (ints? ys).bind fun ms => some (.bool (HT.lexLt ns ms))
  | .int i, .int j => some (.bool (decide (i < j)))
  | _, _ => none
theorem oLtT (hu : X.A.units < cLine) : OpR X (compareOp .Lt) (rD gLtT) := ((op_ltT hu).or op_lt).imp fun x y H Q ⟨F, a, b, d, s, ra, rb, q, k⟩ => by
  unfold gLtT at q
  split at q
  · obtain ⟨ns, h1, q⟩ := Option.bind_eq_some_iff.mp q
    obtain ⟨ms, h2, q⟩ := Option.bind_eq_some_iff.mp q
    cases q
    cases ra with | tup e1 r1 =>
    cases rb with | tup e2 r2 =>
    exact .inl ⟨_, _, ns, ms, rfl, rfl, SqT.of (by rw [s _ _ e1, r1.ints h1]), SqT.of (by rw [s _ _ e2, r2.ints h2]), k _ F H (Ext.refl s) (.bl _)⟩
  · cases q; cases ra; cases rb
    exact .inr ⟨_, _, rfl, rfl, k _ F H (Ext.refl s) (.bl _)⟩
  · cases q
/-- an int in a list, a tuple of ints -/
def inI (i : Int) (ns : List Int) : Bool := ns.any fun j => decide (j = i)
def gIn : PyData → PyData → Option PyData
  | .int i, .tuple xs => (ints? xs).map fun ns => .bool (inI i ns)
  | .int i, .list xs => (ints? xs).map fun ns => .bool (inI i ns)
  | _, _ => none
def gNotIn : PyData → PyData → Option PyData
  | .int i, .tuple xs => (ints? xs).map fun ns => .bool (!inI i ns)
  | .int i, .list xs => (ints? xs).map fun ns => .bool (!inI i ns)
  | _, _ => none
theorem flat_ints (ns : List Int) : (ns.map V.int).all flatV = true := by
  rw [List.all_map]; exact List.all_eq_true.mpr fun _ _ => rfl
theorem inV_ints (i : Int) (ns : List Int) : inV (.int i) (ns.map V.int) = inI i ns := by
  unfold inV inI
  rw [List.any_map]
  refine congrArg (List.any ns) (funext fun j => ?_)
  show (j == i) = decide (j = i)
  by_cases h : j = i <;> simp [h]
theorem oIn : OpR X (compareOp .In) (rD gIn) := op_in_seq.imp fun x y H Q ⟨F, a, b, d, s, ra, rb, q, k⟩ => by
  unfold gIn at q
  split at q
  · obtain ⟨ns, h1, q⟩ := Option.map_eq_some_iff.mp q
    subst q
    cases ra
    cases rb with | tup e2 r2 =>
    rw [r2.ints h1] at e2
    refine ⟨_, _, rfl, .inr (SqT.of (s _ _ e2)), rfl, flat_ints ns, ?_⟩
    rw [if_neg (by decide), inV_ints]
    exact k _ F H (Ext.refl s) (.bl _)
  · obtain ⟨ns, h1, q⟩ := Option.map_eq_some_iff.mp q
    subst q
    cases ra
    cases rb with | lst e2 r2 =>
    rw [r2.ints h1] at e2
    refine ⟨_, _, rfl, .inl (SqL.of (s _ _ e2)), rfl, flat_ints ns, ?_⟩
    rw [if_neg (by decide), inV_ints]
    exact k _ F H (Ext.refl s) (.bl _)
  · cases q
theorem oNotIn : OpR X (compareOp .NotIn) (rD gNotIn) := op_notIn_seq.imp fun x y H Q ⟨F, a, b, d, s, ra, rb, q, k⟩ => by
  unfold gNotIn at q
  split at q
  · obtain ⟨ns, h1, q⟩ := Option.map_eq_some_iff.mp q
    subst q
    cases ra
    cases rb with | tup e2 r2 =>
    rw [r2.ints h1] at e2
    refine ⟨_, _, rfl, .inr (SqT.of (s _ _ e2)), rfl, flat_ints ns, ?_⟩
    rw [if_pos rfl, inV_ints]
    exact k _ F H (Ext.refl s) (.bl _)
  · obtain ⟨ns, h1, q⟩ := Option.map_eq_some_iff.mp q
    subst q
    cases ra
    cases rb with | lst e2 r2 =>
    rw [r2.ints h1] at e2
    refine ⟨_, _, rfl, .inl (SqL.of (s _ _ e2)), rfl, flat_ints ns, ?_⟩
    rw [if_pos rfl, inV_ints]
    exact k _ F H (Ext.refl s) (.bl _)
  · cases q
/-- a datum in a tuple of data -/
def gInT : PyData → PyData → Option PyData
  | d, .tuple ds => if SeqAt.shaped d && SeqAt.shaped (.tuple ds) then some (.bool (ds.any fun z => PyData.eqv z d)) else none
  | _, _ => none
theorem oInT (hu : X.A.units + 65 < cLine) : OpR X (compareOp .In) (rD gInT) := by
  intro pins s σ H x y v u Q I rx ry ⟨F, a, b, d, sm, ra, rb, q, k⟩
  unfold gInT at q
  split at q
  · rename_i d ds
    split at q
    · rename_i h
      cases q
      obtain ⟨h1, h2⟩ := Bool.and_eq_true_iff.mp h
      obtain ⟨as, r1⟩ := Dp.reads I _ x v (ra.dp sm (SeqAt.canLay_of_shaped h1)) rx
      obtain ⟨bs, r2⟩ := Dp.reads I (.tuple ds) y u (rb.dp sm (SeqAt.canLay_of_shaped h2)) ry
      refine SeqAt.in_tuple_reads r2 r1 (SeqAt.canLay_of_shaped h2) (SeqAt.canLay_of_shaped h1) ?_ ?_
      · exact room_in_shaped (xs := ds) h1 hu
      · obtain q := k _ F H (Ext.refl sm) (.bl _)
        exact ⟨.bl _, H, I, rfl, q⟩
    · cases q
  · cases q
/-- x is None -/
def isNoneD : PyData → Bool
  | .none => true
  | _ => false
def gIsN : PyData → Option PyData := fun a => some (.bool (isNoneD a))
theorem Rp.none_iff {F : Hp} {x : V} {d : PyData} (r : Rp F x d) : decide (x = .non) = isNoneD d := by
  cases r <;> rfl
theorem e_isN {fa : DE} {j : Nat} {pos' : Pos} (ha : PE X a (tE fa)) : PE X (.Compare a [.Is] [.Constant .none j pos'] pos) (tE (e1 gIsN fa)) :=
  (pe_cmp (pc_isN ha) rfl).imp fun σ H Q ⟨F, ρ, d, s, r, q, k⟩ => by
    obtain ⟨da, ha, q⟩ := Option.bind_eq_some_iff.mp q
    cases q
    refine ⟨F, ρ, da, s, r, ha, fun x F1 H1 x1 r1 => ?_⟩
    show Q (V.bl (decide (x = V.non))) H1
    rw [r1.none_iff]
    exact k _ F1 H1 x1 (.bl _)
theorem t_isN {fa : DE} {j : Nat} {pos' : Pos} (ha : PE X a (tE fa)) : PT X (.Compare a [.Is] [.Constant .none j pos'] pos) (tT (bO (e1 gIsN fa))) :=
  (pt_cmp (pc_isN ha) rfl).imp fun σ H Q h => tB_of (fun σ H Q ⟨F, ρ, d, s, r, q, k⟩ => by
    obtain ⟨da, ha, q⟩ := Option.bind_eq_some_iff.mp q
    cases q
    refine ⟨F, ρ, da, s, r, ha, fun x F1 H1 x1 r1 => ?_⟩
    show Q (V.bl (decide (x = V.non))) H1
    rw [r1.none_iff]
    exact k _ F1 H1 x1 (.bl _)) h
/-! chains -/
def eCh (g g' : PyData → PyData → Option PyData) (fa fb fc : DE) : DE := fun ρ => (fa ρ).bind fun a => (fb ρ).bind fun b => match g a b with
  | some (.bool true) => (fc ρ).bind fun c => g' b c
  | some (.bool false) => some (.bool false)
  | _ => none
theorem tChain_of {g g' : PyData → PyData → Option PyData} {fa fb fc : DE} {σ : St} {H : Hp} {Q : VK} (h : tE (eCh g g' fa fb fc) σ H Q) : tChain (rD g) (rD g') (tE fa) (tE fb) (tE fc) σ H Q := by
  obtain ⟨F, ρ, d, s, r, q, k⟩ := h
  unfold eCh at q
  obtain ⟨da, ha, q⟩ := Option.bind_eq_some_iff.mp q
  obtain ⟨db, hb, q⟩ := Option.bind_eq_some_iff.mp q
  refine ⟨F, ρ, da, s, r, ha, fun x F1 H1 x1 r1 => ⟨F1, ρ, db, x1.fh, r.ext x1, hb, fun y F2 H2 x2 r2 => ?_⟩⟩
  split at q
  · rename_i hg
    obtain ⟨dc, hc, q⟩ := Option.bind_eq_some_iff.mp q
    refine ⟨F2, da, db, _, x2.fh, r1.mono x2.ff, r2, hg, fun z F3 H3 x3 r3 => ?_⟩
    cases r3
    refine ⟨true, rfl, iteT ⟨F3, ρ, dc, x3.fh, ((r.ext x1).ext x2).ext x3, hc, fun w F4 H4 x4 r4 => ?_⟩⟩
    exact ⟨F4, db, dc, d, x4.fh, r2.mono (x3.ff.trans x4.ff), r4, q, fun v F5 H5 x5 r5 => k v F5 H5 (x1.trans (x2.trans (x3.trans (x4.trans x5)))) r5⟩
  · rename_i hg
    cases q
    refine ⟨F2, da, db, _, x2.fh, r1.mono x2.ff, r2, hg, fun z F3 H3 x3 r3 => ?_⟩
    cases r3
    exact ⟨false, rfl, iteF (k _ F3 H3 (x1.trans (x2.trans x3)) (.bl _))⟩
  · cases q
theorem e_chain {op op' : CmpOp} {g g' : PyData → PyData → Option PyData} {fa fb fc : DE} (ho : OpR X (compareOp op) (rD g)) (ho' : OpR X (compareOp op') (rD g')) (ha : PE X a (tE fa)) (hb : PE X b (tE fb)) (hc : PE X c (tE fc))
    (hm : lastMarks [op, op'] [b, c] = false := by with_unfolding_all rfl) : PE X (.Compare a [op, op'] [b, c] pos) (tE (eCh g g' fa fb fc)) := (pe_chain ho ho' ha hb hc hm).imp fun _ _ _ h => tChain_of h
theorem t_chain {op op' : CmpOp} {g g' : PyData → PyData → Option PyData} {fa fb fc : DE} (ho : OpR X (compareOp op) (rD g)) (ho' : OpR X (compareOp op') (rD g')) (ha : PE X a (tE fa)) (hb : PE X b (tE fb)) (hc : PE X c (tE fc))
    (hm : lastMarks [op, op'] [b, c] = false := by with_unfolding_all rfl) : PT X (.Compare a [op, op'] [b, c] pos) (tT (bO (eCh g g' fa fb fc))) := (pt_chain ho ho' ha hb hc hm).imp fun _ _ _ h => tB_of (fun _ _ _ h => tChain_of h) h
/-- a < b < c < d -/
def tCh3 (r r' r'' : R2) (ta tb tc td : TE) : TE := fun σ H Q => ta σ H fun x H1 => tb σ H1 fun y H2 => r x y H2 fun z H3 => ∃ k, z = .bl k ∧
  (if k = true then tc σ H3 fun w' H4 => r' y w' H4 fun z2 H5 => ∃ k2, z2 = .bl k2 ∧ (if k2 = true then td σ H5 fun w2 H6 => r'' w' w2 H6 Q else Q (.bl false) H5) else Q (.bl false) H3)
theorem pe_chain3 {op op' op2 : CmpOp} {r r' r'' : R2} {ta tb tc td : TE} {d : Expr} (ho : OpR X (compareOp op) r) (ho' : OpR X (compareOp op') r') (ho2 : OpR X (compareOp op2) r'') (ha : PE X a ta) (hb : PE X b tb) (hc : PE X c tc) (hd : PE X d td)
    (hm : lastMarks [op, op', op2] [b, c, d] = false := by with_unfolding_all rfl) : PE X (.Compare a [op, op', op2] [b, c, d] pos) (tCh3 r r' r'' ta tb tc td) := by
  refine ⟨fun pins s σ H Q I h => ?_⟩
  refine Compare_chain (thn (ha.run pins s σ H _ I h) fun v s1 ⟨x, H1, I1, r1, q1⟩ => chain_link (thn (hb.run pins s1 σ H1 _ I1 q1) fun u s2 ⟨y, H2, I2, r2, q2⟩ =>
    thn (ho pins s2 σ H2 x y v u _ I2 r1 r2 q2) fun d s3 ⟨z, H3, I3, r3, k, e, q3⟩ => ?_)) hm
  subst e
  cases r3
  refine wpAny_truthy_bool ?_
  cases k with
  | false => exact ite_ff ⟨.bl false, H3, I3, rfl, q3⟩
  | true =>
    refine ite_tt (chain_link (thn (hc.run pins s3 σ H3 _ I3 q3) fun w' s4 ⟨z', H4, I4, r4, q4⟩ => thn (ho' pins s4 σ H4 y z' u w' _ I4 r2 r4 q4) fun d s5 ⟨z5, H5, I5, r5, k5, e5, q5⟩ => ?_))
    subst e5
    cases r5
    refine wpAny_truthy_bool ?_
    cases k5 with
    | false => exact ite_ff ⟨.bl false, H5, I5, rfl, q5⟩
    | true => exact ite_tt (chain_last (thn (hd.run pins s5 σ H5 _ I5 q5) fun w2 s6 ⟨z6, H6, I6, r6, q6⟩ => ho2 pins s6 σ H6 z' z6 w' w2 Q I6 r4 r6 q6))
def eCh3 (g g' g'' : PyData → PyData → Option PyData) (fa fb fc fd : DE) : DE := fun ρ => (fa ρ).bind fun a => (fb ρ).bind fun b => match g a b with
  | some (.bool true) => (fc ρ).bind fun c => match g' b c with
    | some (.bool true) => (fd ρ).bind fun d => g'' c d
    | some (.bool false) => some (.bool false)
    | _ => none
  | some (.bool false) => some (.bool false)
  | _ => none
theorem e_chain3 {op op' op2 : CmpOp} {g g' g'' : PyData → PyData → Option PyData} {fa fb fc fd : DE} {d : Expr} (ho : OpR X (compareOp op) (rD g)) (ho' : OpR X (compareOp op') (rD g')) (ho2 : OpR X (compareOp op2) (rD g'')) (ha : PE X a (tE fa)) (hb : PE X b (tE fb)) (hc : PE X c (tE fc)) (hd : PE X d (tE fd))
    (hm : lastMarks [op, op', op2] [b, c, d] = false := by with_unfolding_all rfl) : PE X (.Compare a [op, op', op2] [b, c, d] pos) (tE (eCh3 g g' g'' fa fb fc fd)) :=
  (pe_chain3 ho ho' ho2 ha hb hc hd hm).imp fun σ H Q ⟨F, ρ, d, s, r, q, k⟩ => by
    unfold eCh3 at q
    obtain ⟨da, ha, q⟩ := Option.bind_eq_some_iff.mp q
    obtain ⟨db, hb, q⟩ := Option.bind_eq_some_iff.mp q
    refine ⟨F, ρ, da, s, r, ha, fun x F1 H1 x1 r1 => ⟨F1, ρ, db, x1.fh, r.ext x1, hb, fun y F2 H2 x2 r2 => ?_⟩⟩
    split at q
    · rename_i hg
      obtain ⟨dc, hc, q⟩ := Option.bind_eq_some_iff.mp q
      refine ⟨F2, da, db, _, x2.fh, r1.mono x2.ff, r2, hg, fun z F3 H3 x3 r3 => ?_⟩
      cases r3
      refine ⟨true, rfl, iteT ⟨F3, ρ, dc, x3.fh, ((r.ext x1).ext x2).ext x3, hc, fun w F4 H4 x4 r4 => ?_⟩⟩
      split at q
      · rename_i hg2
        obtain ⟨dd, hd, q⟩ := Option.bind_eq_some_iff.mp q
        refine ⟨F4, db, dc, _, x4.fh, r2.mono (x3.ff.trans x4.ff), r4, hg2, fun z F5 H5 x5 r5 => ?_⟩
        cases r5
        refine ⟨true, rfl, iteT ⟨F5, ρ, dd, x5.fh, ((((r.ext x1).ext x2).ext x3).ext x4).ext x5, hd, fun w F6 H6 x6 r6 => ?_⟩⟩
        exact ⟨F6, dc, dd, d, x6.fh, r4.mono (x5.ff.trans x6.ff), r6, q, fun v F7 H7 x7 r7 => k v F7 H7 (x1.trans (x2.trans (x3.trans (x4.trans (x5.trans (x6.trans x7)))))) r7⟩
      · rename_i hg2
        cases q
        refine ⟨F4, db, dc, _, x4.fh, r2.mono (x3.ff.trans x4.ff), r4, hg2, fun z F5 H5 x5 r5 => ?_⟩
        cases r5
        exact ⟨false, rfl, iteF (k _ F5 H5 (x1.trans (x2.trans (x3.trans (x4.trans x5)))) (.bl _))⟩
      · cases q
    · rename_i hg
      cases q
      refine ⟨F2, da, db, _, x2.fh, r1.mono x2.ff, r2, hg, fun z F3 H3 x3 r3 => ?_⟩
      cases r3
      exact ⟨false, rfl, iteF (k _ F3 H3 (x1.trans (x2.trans x3)) (.bl _))⟩
    · cases q
end
end Ea
end
section
set_option Elab.async false
set_option linter.all false
set_option maxRecDepth 100000
set_option maxHeartbeats 4000000
/-! EaC: built-in functions, subscripts, slices, dicts, defs called -/
namespace Ea
open PySem PySem.Spec L2
open PyProof.Rows hiding St

/-! ### sorting ints -/
def insI (x : Int) : List Int → List Int
  | [] => [x]
  | y :: r => if x ≤ y then x :: y :: r else y :: insI x r
def sortI : List Int → List Int
  | [] => []
  | x :: r => insI x (sortI r)
theorem insI_perm (x : Int) : ∀ l : List Int, (insI x l).Perm (x :: l)
  | [] => List.Perm.refl _
  | y :: r => by
    unfold insI
    split
    · exact List.Perm.refl _
    · exact ((insI_perm x r).cons y).trans (List.Perm.swap x y r)
theorem sortI_perm : ∀ l : List Int, (sortI l).Perm l
  | [] => List.Perm.refl _
  | x :: r => (insI_perm x (sortI r)).trans ((sortI_perm r).cons x)
theorem insI_sorted (x : Int) : ∀ l : List Int, l.Pairwise (· ≤ ·) → (insI x l).Pairwise (· ≤ ·)
  | [], _ => List.pairwise_singleton _ _
  | y :: r, h => by
    unfold insI
    rw [List.pairwise_cons] at h
    split
    · rename_i hx
      rw [List.pairwise_cons]
      refine ⟨fun z hz => ?_, List.pairwise_cons.mpr h⟩
      rcases List.mem_cons.mp hz with e | hz
      · subst e; exact hx
      · exact Int.le_trans hx (h.1 z hz)
    · rename_i hx
      rw [List.pairwise_cons]
      refine ⟨fun z hz => ?_, insI_sorted x r h.2⟩
      rcases List.mem_cons.mp ((insI_perm x r).mem_iff.mp hz) with e | hz
      · subst e; omega
      · exact h.1 z hz
theorem sortI_sorted : ∀ l : List Int, (sortI l).Pairwise (· ≤ ·)
  | [] => List.Pairwise.nil
  | x :: r => insI_sorted x _ (sortI_sorted r)
theorem sortI_eq {l m : List Int} (p : m.Perm l) (s : m.Pairwise (· ≤ ·)) : m = sortI l := PySem.W.ksm_same (p.trans (sortI_perm l).symm) s (sortI_sorted l)
/-! ### the least -/
def minI : Int → List Int → Int
  | m, [] => m
  | m, x :: r => minI (if x < m then x else m) r
theorem minI_le : ∀ (l : List Int) (m : Int), minI m l ≤ m ∧ ∀ x ∈ l, minI m l ≤ x
  | [], m => ⟨Int.le_refl _, fun x h => absurd h List.not_mem_nil⟩
  | y :: r, m => by
    unfold minI
    obtain ⟨h1, h2⟩ := minI_le r (if y < m then y else m)
    have h3 : (if y < m then y else m) ≤ m ∧ (if y < m then y else m) ≤ y := by split <;> omega
    refine ⟨by omega, fun x h => ?_⟩
    rcases List.mem_cons.mp h with e | h
    · subst e; omega
    · exact h2 x h
theorem minI_mem : ∀ (l : List Int) (m : Int), minI m l = m ∨ minI m l ∈ l
  | [], m => .inl rfl
  | y :: r, m => by
    unfold minI
    rcases minI_mem r (if y < m then y else m) with h | h
    · rw [h]
      split
      · exact .inr List.mem_cons_self
      · exact .inl rfl
    · exact .inr (List.mem_cons_of_mem _ h)
/-! ### dicts with int keys -/
def isK (k : Int) : PyData → Bool
  | .int j => decide (j = k)
  | _ => false
def lookK : List (PyData × PyData) → Int → Option PyData
  | [], _ => none
  | (q, d) :: r, k => if isK k q then some d else lookK r k
def putD (kvs : List (PyData × PyData)) (k : Int) (d : PyData) : List (PyData × PyData) :=
  if (lookK kvs k).isSome then kvs.map (fun p => if isK k p.1 then (p.1, d) else p) else kvs ++ [(.int k, d)]
def mergeD (kvs more : List (PyData × PyData)) : List (PyData × PyData) := more.foldl (fun acc p => match p.1 with | .int k => putD acc k p.2 | _ => acc) kvs
theorem RpK.look {F : Hp} {k : Int} : ∀ {kvs : List (PyData × PyData)} {ps : List (Key × V)}, RpK F ps kvs → (∀ d, lookK kvs k = some d → ∃ v, valV ps (.inl k) = some v ∧ Rp F v d) ∧ (lookK kvs k = none → valV ps (.inl k) = none)
  | [], _, h => by
    cases h
    refine ⟨fun d e => ?_, fun _ => rfl⟩
    cases e
  | (_, d) :: r, _, h => by
    cases h with | @cons j v ps d kvs rv t =>
    obtain ⟨i1, i2⟩ := RpK.look (k := k) t
    by_cases hj : j = k
    · subst hj
      have e : lookK ((PyData.int j, d) :: r) j = some d := by unfold lookK; rw [if_pos (show isK j (.int j) = true from decide_eq_true rfl)]
      rw [e]
      exact ⟨fun d' e' => Option.some.inj e' ▸ ⟨v, valV_pos rfl, rv⟩, fun e' => nomatch e'⟩
    · have e : lookK ((PyData.int j, d) :: r) k = lookK r k := by
        show (if isK k (.int j) then some d else lookK r k) = _
        rw [if_neg (by show ¬ decide (j = k) = true; rw [decide_eq_false hj]; decide)]
      rw [e]
      have e2 : valV ((Sum.inl j, v) :: ps) (Sum.inl k : Key) = valV ps (Sum.inl k) := valV_neg fun z => hj (Sum.inl.inj z)
      rw [e2]
      exact ⟨i1, i2⟩
theorem RpK.isSome {F : Hp} {k : Int} {kvs : List (PyData × PyData)} {ps : List (Key × V)} (h : RpK F ps kvs) : (valV ps (.inl k)).isSome = (lookK kvs k).isSome := by
  cases e : lookK kvs k with
  | none => rw [h.look.2 e]; rfl
  | some d => obtain ⟨v, hv, _⟩ := h.look.1 d e; rw [hv]; rfl
theorem RpK.append {F : Hp} : ∀ {kvs ls : List (PyData × PyData)} {ps qs : List (Key × V)}, RpK F ps kvs → RpK F qs ls → RpK F (ps ++ qs) (kvs ++ ls)
  | [], _, _, _, h, k => by cases h; exact k
  | _ :: _, _, _, _, h, k => by cases h with | cons r t => exact .cons r (RpK.append t k)
theorem RpK.map {F : Hp} {k : Int} {v : V} {d : PyData} (rv : Rp F v d) : ∀ {kvs : List (PyData × PyData)} {ps : List (Key × V)}, RpK F ps kvs → RpK F (ps.map fun kv => if kv.1 = Sum.inl k then (kv.1, v) else kv) (kvs.map fun p => if isK k p.1 then (p.1, d) else p)
  | [], _, h => by cases h; exact .nil
  | (_, d') :: r, _, h => by
    cases h with | @cons j v' ps d' kvs r1 t =>
    rw [List.map_cons, List.map_cons]
    by_cases hj : j = k
    · subst hj
      rw [if_pos rfl, if_pos (show isK j (.int j) = true from decide_eq_true rfl)]
      exact .cons rv (RpK.map rv t)
    · rw [if_neg (fun z => hj (Sum.inl.inj z)), if_neg (by show ¬ decide (j = k) = true; rw [decide_eq_false hj]; decide)]
      exact .cons r1 (RpK.map rv t)
theorem RpK.put {F : Hp} {k : Int} {v : V} {d : PyData} {kvs : List (PyData × PyData)} {ps : List (Key × V)} (h : RpK F ps kvs) (rv : Rp F v d) : RpK F (putK ps (.inl k) v) (putD kvs k d) := by
  unfold putK putD
  rw [valV_any, h.isSome]
  split
  · exact h.map rv
  · exact h.append (.cons rv .nil)
theorem RpK.length {F : Hp} : ∀ {kvs : List (PyData × PyData)} {ps : List (Key × V)}, RpK F ps kvs → ps.length = kvs.length
  | [], _, h => by cases h; rfl
  | _ :: _, _, h => by cases h with | cons r t => simp [RpK.length t]
theorem RpK.merge {F : Hp} : ∀ {more : List (PyData × PyData)} {qs : List (Key × V)} {kvs : List (PyData × PyData)} {ps : List (Key × V)}, RpK F ps kvs → RpK F qs more → RpK F (mergeK ps qs) (mergeD kvs more)
  | [], _, _, _, h, k => by cases k; exact h
  | (_, d) :: r, _, kvs, ps, h, k => by
    cases k with | @cons j v qs d' kvs' r1 t =>
    show RpK F (mergeK (putK ps (Sum.inl j) v) qs) (mergeD (putD kvs j d) r)
    exact RpK.merge (h.put r1) t
def keysI : List (PyData × PyData) → List Int
  | [] => []
  | (.int k, _) :: r => k :: keysI r
  | _ :: r => keysI r
theorem RpK.keys {F : Hp} : ∀ {kvs : List (PyData × PyData)} {ps : List (Key × V)}, RpK F ps kvs → ps.map (·.1) = (keysI kvs).map Sum.inl
  | [], _, h => by cases h; rfl
  | (_, d) :: r, _, h => by
    cases h with | cons r1 t =>
    show Sum.inl _ :: _ = Sum.inl _ :: _
    rw [RpK.keys t]
/-- a list of pairs (int, datum), as tuples -/
def prs? : List PyData → Option (List (PyData × PyData))
  | [] => some []
  | .tuple [.int k, d] :: r => (prs? r).map ((.int k, d) :: ·)
  | _ => none

/-! ### kinds -/
def isiD (T : String) : PyData → Bool
  | .int _ => T == "int"
  | .bool _ => T == "int" || T == "bool"
  | .str _ => T == "str"
  | .list _ => T == "list"
  | .tuple _ => T == "tuple"
  | .dict _ => T == "dict"
  | .none => false
def tyName : PyData → String
  | .int _ => "int"
  | .bool _ => "bool"
  | .str _ => "str"
  | .list _ => "list"
  | .tuple _ => "tuple"
  | .dict _ => "dict"
  | .none => "NoneType"
theorem Rp.ty {K : PySem.W.Frag} {F H : Hp} {x : V} {d : PyData} (s : Same F H) (r : Rp F x d) : TyX K H x (.type (tyName d)) := by
  cases r with
  | non => exact .base .non
  | bl b => exact .base (.bl b)
  | int i => exact .base (.int i)
  | str z => exact .base (.str z)
  | lst e _ => exact .base (.lst (s _ _ e))
  | tup e _ => exact .base (.tup (s _ _ e))
  | dic e _ => exact .base (.dK (s _ _ e))
structure KitT (T : String) : Prop where
  int : kitB "int" T = some (T == "int")
  bool : kitB "bool" T = some (T == "int" || T == "bool")
  str : kitB "str" T = some (T == "str")
  list : kitB "list" T = some (T == "list")
  tuple : kitB "tuple" T = some (T == "tuple")
  dict : kitB "dict" T = some (T == "dict")
  non : kitB "NoneType" T = some false
theorem kit_int : KitT "int" := ⟨by decide +kernel, by decide +kernel, by decide +kernel, by decide +kernel, by decide +kernel, by decide +kernel, by decide +kernel⟩
theorem kit_bool : KitT "bool" := ⟨by decide +kernel, by decide +kernel, by decide +kernel, by decide +kernel, by decide +kernel, by decide +kernel, by decide +kernel⟩
theorem kit_str : KitT "str" := ⟨by decide +kernel, by decide +kernel, by decide +kernel, by decide +kernel, by decide +kernel, by decide +kernel, by decide +kernel⟩
theorem kit_list : KitT "list" := ⟨by decide +kernel, by decide +kernel, by decide +kernel, by decide +kernel, by decide +kernel, by decide +kernel, by decide +kernel⟩
theorem kit_tuple : KitT "tuple" := ⟨by decide +kernel, by decide +kernel, by decide +kernel, by decide +kernel, by decide +kernel, by decide +kernel, by decide +kernel⟩
theorem KitT.of {T : String} (k : KitT T) {K : PySem.W.Frag} : ∀ d : PyData, PySem.W.kitOne K (.type (tyName d)) (.type T) = some (isiD T d)
  | .none => kit_ty k.non
  | .bool _ => kit_ty k.bool
  | .int _ => kit_ty k.int
  | .str _ => kit_ty k.str
  | .list _ => kit_ty k.list
  | .tuple _ => kit_ty k.tuple
  | .dict _ => kit_ty k.dict

section
variable {X : Cx} {e a b c : Expr} {pos : Pos}
/-! ### calls of built-ins -/
def eCall (g : List PyData → Option PyData) (fs : DA) : DE := fun ρ => (fs ρ).bind g
theorem tCB_of {g : List PyData → Option PyData} {fs : DA} {σ : St} {H : Hp} {Q : VK} (h : tE (eCall g fs) σ H Q) : tCB (rDs g) (tA fs) σ H Q := by
  obtain ⟨F, ρ, d, s, r, q, k⟩ := h
  obtain ⟨ds, hd, q⟩ := Option.bind_eq_some_iff.mp q
  exact ⟨F, ρ, ds, s, r, hd, fun vs F1 H1 x1 r1 => ⟨F1, ds, d, x1.fh, r1, q, fun v F2 H2 x2 r2 => k v F2 H2 (x1.trans x2) r2⟩⟩
theorem e_callB {x : Str} {p : Pos} {es : List Expr} {id : String} {g : List PyData → Option PyData} {fs : DA} (hc : CallR X (.builtin id) (rDs g)) (hg : Gl X x) (hm : X.mg x = none) (hv : bootBuiltins x = some (.builtin id)) (ha : PA X (e :: es) (tA fs))
    (hn : x ≠ "__name__" := by decide) (hdb : (x == ("__debug__" : Str)) = false := by decide) (he : starEach (e :: es) X.env = (false, eval e X.env) :: starEach es X.env := by rfl) (hpl : (backTo pos (starEach es X.env)).any (·.1) = false := by rfl) : PE X (.Call (.Name x p) (e :: es) [] pos) (tE (eCall g fs)) :=
  (pe_callB hc hg hm hv ha hn hdb he hpl).imp fun _ _ _ h => tCB_of h
theorem e_callTy {x : Str} {p : Pos} {es : List Expr} {T : String} {g : List PyData → Option PyData} {fs : DA} (hc : CallR X (.type T) (rDs g)) (hg : Gl X x) (hm : X.mg x = none) (hv : bootBuiltins x = some (.type T)) (ha : PA X (e :: es) (tA fs))
    (hn : x ≠ "__name__" := by decide) (hdb : (x == ("__debug__" : Str)) = false := by decide) (he : starEach (e :: es) X.env = (false, eval e X.env) :: starEach es X.env := by rfl) (hpl : (backTo pos (starEach es X.env)).any (·.1) = false := by rfl) : PE X (.Call (.Name x p) (e :: es) [] pos) (tE (eCall g fs)) :=
  (pe_callTy hc hg hm hv ha hn hdb he hpl).imp fun _ _ _ h => tCB_of h
theorem RpL.one {F : Hp} {vs : List V} {d : PyData} (r : RpL F vs [d]) : ∃ v, vs = [v] ∧ Rp F v d := by
  cases r with | cons r t => cases t; exact ⟨_, rfl, r⟩
def gLen : List PyData → Option PyData
  | [.list xs] => some (.int (xs.length : Nat))
  | [.tuple xs] => some (.int (xs.length : Nat))
  | _ => none
theorem cLen : CallR X (.builtin "len") (rDs gLen) := call_len_seq.imp fun vs H Q ⟨F, ds, d, s, r, q, k⟩ => by
  unfold gLen at q
  split at q
  · obtain ⟨v, rfl, rv⟩ := r.one
    cases q
    cases rv with | lst e1 r1 =>
    refine ⟨_, _, rfl, .inl (SqL.of (s _ _ e1)), ?_⟩
    rw [r1.length]; exact k _ F H (Ext.refl s) (.int _)
  · obtain ⟨v, rfl, rv⟩ := r.one
    cases q
    cases rv with | tup e1 r1 =>
    refine ⟨_, _, rfl, .inr (SqT.of (s _ _ e1)), ?_⟩
    rw [r1.length]; exact k _ F H (Ext.refl s) (.int _)
  · cases q
def gAll : List PyData → Option PyData
  | [.list xs] => (bls? xs).map fun bs => .bool (bs.all id)
  | _ => none
theorem cAll (hc : X.calm = true) : CallR X (.builtin "all") (rDs gAll) := (cr_all hc).imp fun vs H Q ⟨F, ds, d, s, r, q, k⟩ => by
  unfold gAll at q
  split at q
  · obtain ⟨v, rfl, rv⟩ := r.one
    obtain ⟨bs, hb, q⟩ := Option.map_eq_some_iff.mp q
    subst q
    cases rv with | lst e1 r1 =>
    exact ⟨_, bs, rfl, SqL.of (by rw [s _ _ e1, r1.bls hb]), k _ F H (Ext.refl s) (.bl _)⟩
  · cases q
def gAny : List PyData → Option PyData
  | [.list xs] => (bls? xs).map fun bs => .bool (bs.any id)
  | _ => none
theorem cAny (hc : X.calm = true) : CallR X (.builtin "any") (rDs gAny) := (cr_any hc).imp fun vs H Q ⟨F, ds, d, s, r, q, k⟩ => by
  unfold gAny at q
  split at q
  · obtain ⟨v, rfl, rv⟩ := r.one
    obtain ⟨bs, hb, q⟩ := Option.map_eq_some_iff.mp q
    subst q
    cases rv with | lst e1 r1 =>
    exact ⟨_, bs, rfl, SqL.of (by rw [s _ _ e1, r1.bls hb]), k _ F H (Ext.refl s) (.bl _)⟩
  · cases q
def gSum : List PyData → Option PyData
  | [.list xs] => (ints? xs).map fun ns => .int ns.sum
  | _ => none
theorem cSum (hc : X.calm = true) : CallR X (.builtin "sum") (rDs gSum) := (cr_sum hc).imp fun vs H Q ⟨F, ds, d, s, r, q, k⟩ => by
  unfold gSum at q
  split at q
  · obtain ⟨v, rfl, rv⟩ := r.one
    obtain ⟨ns, hb, q⟩ := Option.map_eq_some_iff.mp q
    subst q
    cases rv with | lst e1 r1 =>
    exact ⟨_, ns, rfl, SqL.of (by rw [s _ _ e1, r1.ints hb]), k _ F H (Ext.refl s) (.int _)⟩
  · cases q
def gMin : List PyData → Option PyData
  | [.list xs] => (ints? xs).bind fun ns => match ns with | [] => none | m :: r => some (.int (minI m r))
  | _ => none
theorem cMin (hc : X.calm = true) : CallR X (.builtin "min") (rDs gMin) := (cr_min hc).imp fun vs H Q ⟨F, ds, d, s, r, q, k⟩ => by
  unfold gMin at q
  split at q
  · obtain ⟨v, rfl, rv⟩ := r.one
    obtain ⟨ns, hb, q⟩ := Option.bind_eq_some_iff.mp q
    cases ns with
    | nil => cases q
    | cons m t =>
      cases q
      cases rv with | lst e1 r1 =>
      refine ⟨_, m :: t, rfl, SqL.of (by rw [s _ _ e1, r1.ints hb]), Nat.succ_pos _, fun y hy hl => ?_⟩
      have h1 := minI_le t m
      have h2 : minI m t ∈ m :: t := by
        rcases minI_mem t m with h | h
        · rw [h]; exact List.mem_cons_self
        · exact List.mem_cons_of_mem _ h
      have h3 : minI m t ≤ y := by
        rcases List.mem_cons.mp hy with e | h
        · rw [e]; exact h1.1
        · exact h1.2 y h
      have e : y = minI m t := Int.le_antisymm (hl _ h2) h3
      subst e
      exact k _ F H (Ext.refl s) (.int _)
  · cases q
def gSorted : List PyData → Option PyData
  | [.list xs] => (ints? xs).map fun ns => .list ((sortI ns).map .int)
  | [.dict kvs] => if kvs.length < 64 then some (.list ((sortI (keysI kvs)).map .int)) else none
  | _ => none
theorem cSorted (hc : X.calm = true) : CallR X (.builtin "sorted") (rDs gSorted) := (cr_sortedI.or (call_sortedDI hc)).imp fun vs H Q ⟨F, ds, d, s, r, q, k⟩ => by
  unfold gSorted at q
  split at q
  · obtain ⟨v, rfl, rv⟩ := r.one
    obtain ⟨ns, hb, q⟩ := Option.map_eq_some_iff.mp q
    subst q
    cases rv with | lst e1 r1 =>
    refine .inl ⟨_, ns, rfl, SqL.of (by rw [s _ _ e1, r1.ints hb]), fun ns' p pm so np => ?_⟩
    rw [sortI_eq pm so]
    exact k _ _ _ (Ext.alloc s np) (.lst upd_same (RpL.ofInts _))
  · rename_i kvs
    obtain ⟨v, rfl, rv⟩ := r.one
    split at q
    · rename_i h64
      cases q
      cases rv with | dic e1 r1 =>
      have hk := r1.keys
      have hl : (keysI kvs).length < 64 := by
        have := congrArg List.length hk
        rw [List.length_map, List.length_map, r1.length] at this
        rw [← this]; exact h64
      refine .inr ⟨_, _, keysI kvs, rfl, Rd.of (s _ _ e1), hk, hl, fun ns' p pm so np => ?_⟩
      rw [sortI_eq pm so]
      exact k _ _ _ (Ext.alloc s np) (.lst upd_same (RpL.ofInts _))
    · cases q
  · cases q
def gTuple : List PyData → Option PyData
  | [.list xs] => some (.tuple xs)
  | [.tuple xs] => some (.tuple xs)
  | _ => none
theorem cTuple : CallR X (.type "tuple") (rDs gTuple) := call_tuple_of.imp fun vs H Q ⟨F, ds, d, s, r, q, k⟩ => by
  unfold gTuple at q
  split at q
  · obtain ⟨v, rfl, rv⟩ := r.one
    cases q
    cases rv with | lst e1 r1 =>
    exact ⟨_, _, rfl, .inl ⟨SqL.of (s _ _ e1), fun p hp => k _ _ _ (Ext.alloc s hp) (.tup upd_same (r1.mono (same_upd (s.noneL hp))))⟩⟩
  · obtain ⟨v, rfl, rv⟩ := r.one
    cases q
    cases rv with | tup e1 r1 =>
    exact ⟨_, _, rfl, .inr ⟨SqT.of (s _ _ e1), k _ F H (Ext.refl s) (.tup e1 r1)⟩⟩
  · cases q
def gList : List PyData → Option PyData
  | [.list xs] => some (.list xs)
  | [.tuple xs] => some (.list xs)
  | _ => none
theorem cList : CallR X (.type "list") (rDs gList) := call_list_of.imp fun vs H Q ⟨F, ds, d, s, r, q, k⟩ => by
  unfold gList at q
  split at q
  · obtain ⟨v, rfl, rv⟩ := r.one
    cases q
    cases rv with | lst e1 r1 =>
    exact ⟨_, _, rfl, .inl (SqL.of (s _ _ e1)), fun p hp => k _ _ _ (Ext.alloc s hp) (.lst upd_same (r1.mono (same_upd (s.noneL hp))))⟩
  · obtain ⟨v, rfl, rv⟩ := r.one
    cases q
    cases rv with | tup e1 r1 =>
    exact ⟨_, _, rfl, .inr (SqT.of (s _ _ e1)), fun p hp => k _ _ _ (Ext.alloc s hp) (.lst upd_same (r1.mono (same_upd (s.noneL hp))))⟩
  · cases q
theorem RpL.prs {F H : Hp} {K : PySem.W.Frag} (s : Same F H) : ∀ {xs : List PyData} {vs : List V} {kvs : List (PyData × PyData)}, RpL F vs xs → prs? xs = some kvs →
    ∃ (as : List Addr) (ps : List (Key × V)), vs = as.map V.ref ∧ Paired (fun p kv => SqT K H p [kV kv.1, kv.2]) as ps ∧ RpK F ps kvs
  | [], _, _, h, q => by cases h; cases q; exact ⟨[], [], rfl, .nil, .nil⟩
  | x :: xs, _, kvs, h, q => by
    cases h with | cons r t =>
    unfold prs? at q
    split at q
    · rename_i z1 z2; cases z2
    · rename_i r' kk dd rr z
      cases z
      obtain ⟨ls, hl, e⟩ := Option.map_eq_some_iff.mp q
      subst e
      obtain ⟨as, ps, e1, e2, e3⟩ := RpL.prs (K := K) s t hl
      subst e1
      cases r with | tup ea ra =>
      cases ra with | cons r1 t1 =>
      cases t1 with | cons r2 t2 =>
      cases t2
      cases r1
      exact ⟨_ :: as, (.inl kk, _) :: ps, rfl, .cons (SqT.of (s _ _ ea)) e2, .cons r2 e3⟩
    · cases q
def gDict : List PyData → Option PyData
  | [.list xs] => (prs? xs).map fun kvs => .dict (mergeD [] kvs)
  | _ => none
theorem cDict (hc : X.calm = true) : CallR X (.type "dict") (rDs gDict) := (call_dictP hc).imp fun vs H Q ⟨F, ds, d, s, r, q, k⟩ => by
  unfold gDict at q
  split at q
  · obtain ⟨v, rfl, rv⟩ := r.one
    obtain ⟨kvs, hb, q⟩ := Option.map_eq_some_iff.mp q
    subst q
    cases rv with | lst e1 r1 =>
    obtain ⟨as, ps, e2, e3, e4⟩ := RpL.prs (K := X.K) s r1 hb
    subst e2
    exact ⟨_, as, ps, rfl, SqL.of (s _ _ e1), e3, fun p hp => k _ _ _ (Ext.alloc s hp) (.dic upd_same ((RpK.merge .nil e4).mono (same_upd (s.noneL hp))))⟩
  · cases q
def gAbs : List PyData → Option PyData
  | [.int i] => some (.int (if i < 0 then -i else i))
  | _ => none
theorem cAbs : CallR X (.builtin "abs") (rDs gAbs) := call_abs.imp fun vs H Q ⟨F, ds, d, s, r, q, k⟩ => by
  unfold gAbs at q
  split at q
  · obtain ⟨v, rfl, rv⟩ := r.one
    cases q; cases rv
    exact ⟨_, rfl, k _ F H (Ext.refl s) (.int _)⟩
  · cases q
def gInt : List PyData → Option PyData
  | [.int i] => some (.int i)
  | [.bool b] => some (.int (if b then 1 else 0))
  | _ => none
theorem cInt : CallR X (.type "int") (rDs gInt) := call_int1.imp fun vs H Q ⟨F, ds, d, s, r, q, k⟩ => by
  unfold gInt at q
  split at q
  · obtain ⟨v, rfl, rv⟩ := r.one
    cases q; cases rv
    exact .inl ⟨_, rfl, k _ F H (Ext.refl s) (.int _)⟩
  · obtain ⟨v, rfl, rv⟩ := r.one
    cases q; cases rv
    exact .inr ⟨_, rfl, k _ F H (Ext.refl s) (.int _)⟩
  · cases q
/-- isinstance(e, T), isinstance(e, (T, U)) -/
def gIsi (T : String) : PyData → Option PyData := fun a => some (.bool (isiD T a))
def gIsi2 (T U : String) : PyData → Option PyData := fun a => some (.bool (isiD T a || isiD U a))
theorem e_isi {x y : Str} {p p2 : Pos} {T : String} {fa : DE} (kt : KitT T) (hg : Gl X x) (hm : X.mg x = none) (hv : bootBuiltins x = some (.builtin "isinstance")) (ha : PE X a (tE fa)) (hg2 : Gl X y) (hm2 : X.mg y = none) (hv2 : bootBuiltins y = some (.type T))
    (hn : x ≠ "__name__" := by decide) (hdb : (x == ("__debug__" : Str)) = false := by decide) (hn2 : y ≠ "__name__" := by decide) (hdb2 : (y == ("__debug__" : Str)) = false := by decide)
    (he : starEach [a, .Name y p2] X.env = (false, eval a X.env) :: starEach [.Name y p2] X.env := by rfl) (he2 : starEach [.Name y p2] X.env = (false, eval (.Name y p2) X.env) :: starEach [] X.env := by rfl) (hpl : (backTo pos (starEach [.Name y p2] X.env)).any (·.1) = false := by rfl) :
    PE X (.Call (.Name x p) [a, .Name y p2] [] pos) (tE (e1 (gIsi T) fa)) :=
  (pe_callB call_isi hg hm hv (pa_cons ha (pa_cons (pe_bltn (v := .ty T) hg2 hm2 hv2 rfl hn2 hdb2) pa_nil he2) he) hn hdb he hpl).imp fun σ H Q ⟨F, ρ, d, s, r, q, k⟩ => by
    obtain ⟨da, hda, q⟩ := Option.bind_eq_some_iff.mp q
    cases q
    exact ⟨F, ρ, da, s, r, hda, fun x F1 H1 x1 r1 => ⟨x, .ty T, .type (tyName da), .type T, isiD T da, rfl, .ty T, r1.ty x1.fh, kt.of da, k _ F1 H1 x1 (.bl _)⟩⟩
theorem e_isi2 {x y z : Str} {p p2 p3 tp : Pos} {x1 : Nat} {T U : String} {fa : DE} (kt : KitT T) (ku : KitT U) (hg : Gl X x) (hm : X.mg x = none) (hv : bootBuiltins x = some (.builtin "isinstance")) (ha : PE X a (tE fa))
    (hg2 : Gl X y) (hm2 : X.mg y = none) (hv2 : bootBuiltins y = some (.type T)) (hg3 : Gl X z) (hm3 : X.mg z = none) (hv3 : bootBuiltins z = some (.type U))
    (hn : x ≠ "__name__" := by decide) (hdb : (x == ("__debug__" : Str)) = false := by decide) (hn2 : y ≠ "__name__" := by decide) (hdb2 : (y == ("__debug__" : Str)) = false := by decide) (hn3 : z ≠ "__name__" := by decide) (hdb3 : (z == ("__debug__" : Str)) = false := by decide)
    (he : starEach [a, .Tuple [.Name y p2, .Name z p3] x1 tp] X.env = (false, eval a X.env) :: starEach [.Tuple [.Name y p2, .Name z p3] x1 tp] X.env := by rfl)
    (he2 : starEach [.Tuple [.Name y p2, .Name z p3] x1 tp] X.env = (false, eval (.Tuple [.Name y p2, .Name z p3] x1 tp) X.env) :: starEach [] X.env := by rfl) (hpl : (backTo pos (starEach [.Tuple [.Name y p2, .Name z p3] x1 tp] X.env)).any (·.1) = false := by rfl)
    (hb : starEach [.Name y p2, .Name z p3] X.env = (false, eval (.Name y p2) X.env) :: starEach [.Name z p3] X.env := by rfl) (hb2 : starEach [.Name z p3] X.env = (false, eval (.Name z p3) X.env) :: starEach [] X.env := by rfl) :
    PE X (.Call (.Name x p) [a, .Tuple [.Name y p2, .Name z p3] x1 tp] [] pos) (tE (e1 (gIsi2 T U) fa)) :=
  (pe_callB call_isiT hg hm hv (pa_cons ha (pa_cons (pe_tup (pa_cons (pe_bltn (v := .ty T) hg2 hm2 hv2 rfl hn2 hdb2) (pa_cons (pe_bltn (v := .ty U) hg3 hm3 hv3 rfl hn3 hdb3) pa_nil hb2) hb)) pa_nil he2) he) hn hdb he hpl).imp fun σ H Q ⟨F, ρ, d, s, r, q, k⟩ => by
    obtain ⟨da, hda, q⟩ := Option.bind_eq_some_iff.mp q
    cases q
    refine ⟨F, ρ, da, s, r, hda, fun x F1 H1 x1 r1 => ⟨by show 2 ≤ sizeLine; rw [sizeLine_eq]; decide, fun tp htp => ?_⟩⟩
    have x2 := x1.trans (Ext.fresh (o := .tup [.ty T, .ty U]) x1.fh htp)
    refine ⟨x, tp, [.ty T, .ty U], .type (tyName da), [.type T, .type U], isiD T da || isiD U da, rfl, upd_same, .cons (.ty T) (.cons (.ty U) .nil), r1.ty x2.fh, ?_, k _ F1 _ x2 (.bl _)⟩
    refine kitAny_cons (kt.of da) (fun h => ?_) (fun h => by rw [h, Bool.true_or])
    rw [h, Bool.false_or]
    refine kitAny_cons (ku.of da) (fun h => ?_) (fun h => h)
    rw [h]; exact kitAny_nil
/-- tuple(range(n)), tuple(range(a, b)) -/
def rgD (a : Int) : Nat → List PyData
  | 0 => []
  | n + 1 => .int a :: rgD (a + 1) n
theorem rgD_get : ∀ (n : Nat) (a : Int) (i : Nat), i < n → (rgD a n)[i]? = some (.int (a + i))
  | 0, _, _, h => absurd h (Nat.not_lt_zero _)
  | n + 1, a, 0, _ => by simp [rgD]
  | n + 1, a, i + 1, h => by
    show (rgD (a + 1) n)[i]? = _
    rw [rgD_get n (a + 1) i (Nat.lt_of_succ_lt_succ h)]
    have e : a + 1 + (i : Int) = a + ((i + 1 : Nat) : Int) := by omega
    rw [e]
theorem rgD_len : ∀ (n : Nat) (a : Int), (rgD a n).length = n
  | 0, _ => rfl
  | n + 1, a => by show (rgD (a + 1) n).length + 1 = n + 1; rw [rgD_len]
theorem RpL.at {F : Hp} : ∀ {vs : List V} {ds : List PyData}, vs.length = ds.length → (∀ (i : Nat) (v : V) (d : PyData), vs[i]? = some v → ds[i]? = some d → Rp F v d) → RpL F vs ds
  | [], [], _, _ => .nil
  | v :: vs, d :: ds, h, k => .cons (k 0 v d rfl rfl) (RpL.at (by simpa using h) fun i v d h1 h2 => k (i + 1) v d (by simpa using h1) (by simpa using h2))
  | [], _ :: _, h, _ => by simp at h
  | _ :: _, [], h, _ => by simp at h
theorem rg_rp (F : Hp) (a b : Int) : RpL F (rgV a b) (rgD a (b - a).toNat) := by
  refine RpL.at (by rw [rgV_length, rgD_len]) fun i v d h1 h2 => ?_
  have hi : i < (b - a).toNat := by
    have := (List.getElem?_eq_some_iff.mp h2).1
    rw [rgD_len] at this; exact this
  rw [rgD_get _ _ _ hi] at h2
  cases h2
  unfold rgV at h1
  rw [List.getElem?_map, List.getElem?_range hi] at h1
  cases h1
  exact .int _
def gTupRg : PyData → Option PyData
  | .int n => if decide (0 ≤ n) && decide (n ≤ 16777216) then some (.tuple (rgD 0 n.toNat)) else none
  | _ => none
theorem e_tupRg {p p2 pos2 : Pos} {fa : DE} (hc : X.calm = true) (hg : Gl X "tuple") (hm : X.mg "tuple" = none) (hg2 : Gl X "range") (hm2 : X.mg "range" = none) (ha : PE X a (tE fa)) (na : starEach [a] X.env = (false, eval a X.env) :: starEach [] X.env := by rfl)
    (na2 : starEach [.Call (.Name "range" p2) [a] [] pos2] X.env = (false, eval (.Call (.Name "range" p2) [a] [] pos2) X.env) :: starEach [] X.env := by rfl) :
    PE X (.Call (.Name "tuple" p) [.Call (.Name "range" p2) [a] [] pos2] [] pos) (tE (e1 gTupRg fa)) :=
  (pe_tupRg hc hg hm (prg_1 hg2 hm2 ha na) na2).imp fun σ H Q ⟨F, ρ, d, s, r, q, k⟩ => by
    obtain ⟨da, hda, q⟩ := Option.bind_eq_some_iff.mp q
    unfold gTupRg at q
    split at q
    · rename_i n
      split at q
      · rename_i hn
        cases q
        simp only [Bool.and_eq_true, decide_eq_true_eq] at hn
        refine ⟨F, ρ, _, s, r, hda, fun x F1 H1 x1 r1 => ?_⟩
        cases r1
        refine ⟨n, rfl, RgOk.of_le (by decide) hn.2 (by decide) hn.1, fun p hp => ?_⟩
        have e : (n - 0).toNat = n.toNat := by rw [Int.sub_zero]
        exact k _ _ _ (x1.trans (Ext.alloc x1.fh hp)) (.tup upd_same (by rw [← e]; exact rg_rp _ 0 n))
      · cases q
    · cases q
/-- x.bit_length() -/
def gBits : PyData → Option PyData
  | .int i => some (.int (Builtin.Int.intBits i : Nat))
  | _ => none
theorem e_bits {apos : Pos} {fa : DE} (ha : PE X a (tE fa)) (hbase : attributeBase a "bit_length" X.env (eval a X.env) = eval a X.env := by rfl) (hline : (apos.endLine == pos.line) = true := by rfl) : PE X (.Call (.Attribute a "bit_length" apos) [] [] pos) (tE (e1 gBits fa)) :=
  (pe_bits ha hbase hline).imp fun σ H Q ⟨F, ρ, d, s, r, q, k⟩ => by
    obtain ⟨da, hda, q⟩ := Option.bind_eq_some_iff.mp q
    refine ⟨F, ρ, da, s, r, hda, fun x F1 H1 x1 r1 => ?_⟩
    cases da with
    | int i => cases q; cases r1; exact ⟨i, rfl, k _ F1 H1 x1 (.int _)⟩
    | _ => cases q

/-! ### subscripts -/
def gIx : PyData → PyData → Option PyData
  | .list xs, .int i => atI xs i
  | .tuple xs, .int i => atI xs i
  | _, _ => none
theorem atI_rp {F : Hp} {vs : List V} {ds : List PyData} {i : Int} {d : PyData} (r : RpL F vs ds) (h : atI ds i = some d) : ∃ v, atI vs i = some v ∧ Rp F v d := by
  unfold atI at h ⊢
  rw [r.length]
  cases e : ixN ds.length i with
  | none => rw [e] at h; cases h
  | some j =>
    rw [e] at h
    obtain ⟨v, hv, rv⟩ := r.get (show ds[j]? = some d from h)
    exact ⟨v, hv, rv⟩
theorem ixD : IxR X (rD gIx) := (ix_list.or ix_tup).imp fun x y H Q ⟨F, a, b, d, s, ra, rb, q, k⟩ => by
  unfold gIx at q
  split at q
  · cases rb
    cases ra with | lst e1 r1 =>
    obtain ⟨v, hv, rv⟩ := atI_rp r1 q
    exact .inl ⟨_, _, _, v, rfl, rfl, SqL.of (s _ _ e1), hv, k v F H (Ext.refl s) rv⟩
  · cases rb
    cases ra with | tup e1 r1 =>
    obtain ⟨v, hv, rv⟩ := atI_rp r1 q
    exact .inr ⟨_, _, _, v, rfl, rfl, SqT.of (s _ _ e1), hv, k v F H (Ext.refl s) rv⟩
  · cases q
theorem e_ix {fa fb : DE} (ha : PE X a (tE fa)) (hb : PE X b (tE fb)) (hs : PlainIx b := by exact fun _ _ => rfl) : PE X (.Subscript a b pos) (tE (e2 gIx fa fb)) := (pe_ix ixD ha hb hs).imp fun _ _ _ h => tOp_of h
def gDGet : PyData → PyData → Option PyData
  | .dict kvs, .int k => lookK kvs k
  | _, _ => none
theorem e_dget {fa fb : DE} (hu : X.A.units + 1 < cLine) (ha : PE X a (tE fa)) (hb : PE X b (tE fb)) (hs : NoSl b := by exact fun _ _ => rfl) : PE X (.Subscript a b pos) (tE (e2 gDGet fa fb)) :=
  (pe_dget hu ha hb hs).imp fun σ H Q ⟨F, ρ, d, s, r, q, k⟩ => by
    unfold e2 at q
    obtain ⟨da, hda, q⟩ := Option.bind_eq_some_iff.mp q
    obtain ⟨db, hdb, q⟩ := Option.bind_eq_some_iff.mp q
    refine ⟨F, ρ, da, s, r, hda, fun x F1 H1 x1 r1 => ⟨F1, ρ, db, x1.fh, r.ext x1, hdb, fun y F2 H2 x2 r2 => ?_⟩⟩
    unfold gDGet at q
    split at q
    · cases r2
      have r1' := r1.mono x2.ff
      cases r1' with | dic e1 t1 =>
      obtain ⟨v, hv, rv⟩ := t1.look.1 d q
      exact ⟨_, v, rfl, .inl ⟨_, .inl _, Rd.of (x2.fh _ _ e1), rfl, hv.symm⟩, k v F2 H2 (x1.trans x2) rv⟩
    · cases q
def gDIn : PyData → PyData → Option PyData
  | .int k, .dict kvs => some (.bool (lookK kvs k).isSome)
  | _, _ => none
theorem e_din {fa fb : DE} (hu : X.A.units + 1 < cLine) (ha : PE X a (tE fa)) (hb : PE X b (tE fb)) (hm : behindInMarks .In b = false := by rfl) : PE X (.Compare a [.In] [b] pos) (tE (e2 gDIn fa fb)) :=
  (pe_cmp (pc_din hu ha hb) hm).imp fun σ H Q ⟨F, ρ, d, s, r, q, k⟩ => by
    unfold e2 at q
    obtain ⟨da, hda, q⟩ := Option.bind_eq_some_iff.mp q
    obtain ⟨db, hdb, q⟩ := Option.bind_eq_some_iff.mp q
    refine ⟨F, ρ, da, s, r, hda, fun x F1 H1 x1 r1 => ⟨F1, ρ, db, x1.fh, r.ext x1, hdb, fun y F2 H2 x2 r2 => ?_⟩⟩
    unfold gDIn at q
    split at q
    · cases q
      have r1' := r1.mono x2.ff
      cases r1'
      cases r2 with | dic e1 t1 =>
      refine ⟨_, _, rfl, .inl ⟨_, .inl _, Rd.of (x2.fh _ _ e1), rfl, rfl⟩, ?_⟩
      rw [t1.isSome]
      exact k _ F2 H2 (x1.trans x2) (.bl _)
    · cases q
/-! ### an owned slot, read -/
def eIxO (i : Nat) (fb : DE) : DE := fun ρ => match ρ[i]? with
  | some (.o (.list xs)) => (fb ρ).bind fun b => match b with | .int k => atI xs k | _ => none
  | _ => none
theorem slO_list {F H F' H' : Hp} {σ : St} {ρ : En} {i : Nat} {xs : List PyData} (r : EnvR F H σ ρ) (h : ρ[i]? = some (.o (.list xs))) (x : Ext F H F' H') : ∃ p vs, σ[i]? = some (some (.ref p)) ∧ F' p = none ∧ H' p = some (.lst vs) ∧ RpL F' vs xs := by
  obtain ⟨y, hy, sl⟩ := (r.ext x).get h
  obtain ⟨p, e, n, vs, e2, rv⟩ := sl
  subst e
  exact ⟨p, vs, hy, n, e2, rv⟩
theorem slO_dict {F H F' H' : Hp} {σ : St} {ρ : En} {i : Nat} {kvs : List (PyData × PyData)} (r : EnvR F H σ ρ) (h : ρ[i]? = some (.o (.dict kvs))) (x : Ext F H F' H') : ∃ p ps, σ[i]? = some (some (.ref p)) ∧ F' p = none ∧ H' p = some (.dK ps) ∧ RpK F' ps kvs := by
  obtain ⟨y, hy, sl⟩ := (r.ext x).get h
  obtain ⟨p, e, n, vs, e2, rv⟩ := sl
  subst e
  exact ⟨p, vs, hy, n, e2, rv⟩
theorem e_ixO {i : Nat} {fb : DE} (ha : PE X a (tVar i)) (hb : PE X b (tE fb)) (hs : PlainIx b := by exact fun _ _ => rfl) : PE X (.Subscript a b pos) (tE (eIxO i fb)) :=
  (pe_ix ix_list ha hb hs).imp fun σ H Q ⟨F, ρ, d, s, r, q, k⟩ => by
    unfold eIxO at q
    split at q
    · rename_i xs hx
      obtain ⟨db, hdb, q⟩ := Option.bind_eq_some_iff.mp q
      obtain ⟨p, vs, hp, _⟩ := slO_list r hx (Ext.refl s)
      refine ⟨_, hp, F, ρ, db, s, r, hdb, fun y F2 H2 x2 r2 => ?_⟩
      obtain ⟨p', vs', hp', n', e', rv⟩ := slO_list r hx x2
      rw [hp] at hp'; cases hp'
      split at q
      · cases r2
        obtain ⟨w, hw, rw'⟩ := atI_rp rv q
        exact ⟨_, _, _, w, rfl, rfl, SqL.of e', hw, k w F2 H2 x2 rw'⟩
      · cases q
    · cases q
def eDGetO (i : Nat) (fb : DE) : DE := fun ρ => match ρ[i]? with
  | some (.o (.dict kvs)) => (fb ρ).bind fun b => match b with | .int k => lookK kvs k | _ => none
  | _ => none
theorem e_dgetO {i : Nat} {fb : DE} (hu : X.A.units + 1 < cLine) (ha : PE X a (tVar i)) (hb : PE X b (tE fb)) (hs : NoSl b := by exact fun _ _ => rfl) : PE X (.Subscript a b pos) (tE (eDGetO i fb)) :=
  (pe_dget hu ha hb hs).imp fun σ H Q ⟨F, ρ, d, s, r, q, k⟩ => by
    unfold eDGetO at q
    split at q
    · rename_i kvs hx
      obtain ⟨db, hdb, q⟩ := Option.bind_eq_some_iff.mp q
      obtain ⟨p, vs, hp, _⟩ := slO_dict r hx (Ext.refl s)
      refine ⟨_, hp, F, ρ, db, s, r, hdb, fun y F2 H2 x2 r2 => ?_⟩
      obtain ⟨p', ps, hp', n', e', rv⟩ := slO_dict r hx x2
      rw [hp] at hp'; cases hp'
      split at q
      · cases r2
        obtain ⟨w, hw, rw'⟩ := rv.look.1 d q
        exact ⟨_, w, rfl, .inl ⟨_, .inl _, Rd.of e', rfl, hw.symm⟩, k w F2 H2 x2 rw'⟩
      · cases q
    · cases q

/-! ### slices -/
def partD : PyData → Option (Option Int)
  | .int i => some (some i)
  | _ => none
abbrev DP := En → Option (Option Int)
def tPD (f : DP) : TO := fun σ H Q => ∃ F ρ o, Same F H ∧ EnvR F H σ ρ ∧ f ρ = some o ∧ ∀ F' H', Ext F H F' H' → Q o H'
def pNo : DP := fun _ => some none
def pSome (f : DE) : DP := fun ρ => match f ρ with | some (.int i) => some (some i) | _ => none
theorem _root_.L2.PO.imp {e : Option Expr} {t t' : TO} (h : PO X e t) (k : ∀ σ H Q, t' σ H Q → t σ H Q) : PO X e t' := ⟨fun pins s σ H Q I q => h.run pins s σ H Q I (k σ H Q q)⟩
theorem p_no : PO X none (tPD pNo) := po_none.imp fun σ H Q ⟨F, ρ, o, s, r, q, k⟩ => by cases q; exact k F H (Ext.refl s)
theorem p_some {f : DE} (h : PE X e (tE f)) : PO X (some e) (tPD (pSome f)) := (po_some h).imp fun σ H Q ⟨F, ρ, o, s, r, q, k⟩ => by
  unfold pSome at q
  split at q
  · rename_i i hi
    cases q
    exact ⟨F, ρ, _, s, r, hi, fun v F1 H1 x1 r1 => by cases r1; exact ⟨i, rfl, k F1 H1 x1⟩⟩
  · cases q
def cutD (xs : List PyData) (lo hi : Option Int) : List PyData := (xs.drop (HT.sIx xs.length 0 lo)).take (HT.sIx xs.length xs.length hi - HT.sIx xs.length 0 lo)
theorem RpL.cut {F : Hp} {vs : List V} {ds : List PyData} (r : RpL F vs ds) (lo hi : Option Int) : RpL F (cutV vs lo hi) (cutD ds lo hi) := by
  unfold cutV cutD
  rw [r.length]
  exact (r.drop _).take _
def gCut : PyData → Option Int → Option Int → Option PyData
  | .tuple xs, lo, hi => some (.tuple (cutD xs lo hi))
  | .list xs, lo, hi => some (.list (cutD xs lo hi))
  | _, _, _ => none
def eCut (fa : DE) (fl fh : DP) : DE := fun ρ => (fa ρ).bind fun a => (fl ρ).bind fun lo => (fh ρ).bind fun hi => gCut a lo hi
theorem cut_whole {xs : List PyData} {lo hi : Option Int} (h : HT.sIx xs.length 0 lo = 0 ∧ HT.sIx xs.length xs.length hi = xs.length) : cutD xs lo hi = xs := by
  unfold cutD
  rw [h.1, h.2]
  simp
theorem e_cut {lo hi : Option Expr} {p2 : Pos} {fa : DE} {fl fh : DP} (ha : PE X a (tE fa)) (hl : PO X lo (tPD fl)) (hh : PO X hi (tPD fh)) : PE X (.Subscript a (.Slice lo hi none p2) pos) (tE (eCut fa fl fh)) :=
  (pe_slice (sl_tupA.or sl_list) ha hl hh).imp fun σ H Q ⟨F, ρ, d, s, r, q, k⟩ => by
    unfold eCut at q
    obtain ⟨da, hda, q⟩ := Option.bind_eq_some_iff.mp q
    obtain ⟨l, hl, q⟩ := Option.bind_eq_some_iff.mp q
    obtain ⟨h, hh, q⟩ := Option.bind_eq_some_iff.mp q
    refine ⟨F, ρ, da, s, r, hda, fun x F1 H1 x1 r1 => ⟨F1, ρ, l, x1.fh, r.ext x1, hl, fun F2 H2 x2 => ⟨F2, ρ, h, x2.fh, (r.ext x1).ext x2, hh, fun F3 H3 x3 => ?_⟩⟩⟩
    have xx := x1.trans (x2.trans x3)
    have r1' := r1.mono (x2.ff.trans x3.ff)
    unfold gCut at q
    split at q
    · cases q
      cases r1' with | tup e1 t1 =>
      refine .inl ⟨_, _, rfl, SqT.of (x3.fh _ _ e1), fun hw => ?_, fun hw p hp => ?_⟩
      · rw [t1.length] at hw
        rw [cut_whole hw] at k
        exact k _ F3 H3 xx (.tup e1 t1)
      · exact k _ _ _ (xx.trans (Ext.alloc x3.fh hp)) (.tup upd_same ((t1.cut l h).mono (same_upd (x3.fh.noneL hp))))
    · cases q
      cases r1' with | lst e1 t1 =>
      exact .inr ⟨_, _, rfl, SqL.of (x3.fh _ _ e1), fun p hp => k _ _ _ (xx.trans (Ext.alloc x3.fh hp)) (.lst upd_same ((t1.cut l h).mono (same_upd (x3.fh.noneL hp))))⟩
    · cases q

/-! ### defs -/
/-- a def of n names and parameters ps.length, by what its body tells -/
def spP (n : Nat) (f : List PyData → Option PyData) : Sp := fun vs H Q _ => vs.length = n ∧ rDs f vs H Q
theorem e_call {P : Program} {x : Str} {p : Pos} {es : List Expr} {k n : Nat} {f : Addr} {fd : FuncData} {ps : List Str} {g : List PyData → Option PyData} {fs : DA}
    (F : FnOk X.prog X.w X.K X.mg X.base CX0 k f fd ps (spP n g)) (hr : Room k X.A) (hn : ∀ ds d, g ds = some d → ds.length = n) (hg : Gl X x) (hm : X.mg x = some (.ref f)) (hk : PySem.W.keepIn X.K (.ref f) = true) (hb : Binds X.K fd ps [])
    (ha : PA X (e :: es) (tA fs)) (hdb : (x == ("__debug__" : Str)) = false := by decide) (he : starEach (e :: es) X.env = (false, eval e X.env) :: starEach es X.env := by rfl) (hpl : (backTo pos (starEach es X.env)).any (·.1) = false := by rfl) :
    PE X (.Call (.Name x p) (e :: es) [] pos) (tE (eCall g fs)) :=
  (pe_call F hr hg hm hk hb .nil pass0 ha hdb he hpl).imp fun σ H Q ⟨F, ρ, d, s, r, q, k⟩ => by
    obtain ⟨ds, hd, q⟩ := Option.bind_eq_some_iff.mp q
    refine ⟨F, ρ, ds, s, r, hd, fun vs F1 H1 x1 r1 => ?_⟩
    show spP n g (vs ++ []) H1 Q E0
    rw [List.append_nil]
    exact ⟨by rw [r1.length]; exact hn _ _ q, F1, ds, d, x1.fh, r1, q, fun v F2 H2 x2 r2 => k v F2 H2 (x1.trans x2) r2⟩
end
end Ea
end
section
set_option Elab.async false
set_option linter.all false
set_option maxRecDepth 100000
set_option maxHeartbeats 4000000
/-! EaD: enumerate of a tuple (by hand), what is walked, targets, comprehensions -/
namespace PySem
open Sem (wp)
theorem ea_meets_enum1 {v : Value} {o : Obj} {H : Heap → Prop} (B : Begins v o H) :
    Meets (Builtin.«enumerate.__new__» ⟨[.type "enumerate", v], []⟩) (fun _ R s => H s.heap ∧
      R (.ok (.ret (.ref (s.heap.push o).objs.size))) { s with heap := (s.heap.push o).push { cls := .type "enumerate", data := .fields #[.none, .bool false, .ref s.heap.objs.size, rawInt 0, .none, .none] } }) :=
  .of_wp fun prog w A R s h => by
    obtain ⟨hp, g, d, tk, os⟩ := s; obtain ⟨h1, h⟩ := h
    have hsub := sub_enumerate
    have q1 : ∀ {A' : Around} {E : Value → Shared → Prop} {Q : Value → Shared → Prop}, Q (.ref hp.objs.size) ⟨hp.push o, g, d, tk, os⟩ → wpAny (model prog w) A' (pyIter v) Q E ⟨hp, g, d, tk, os⟩ :=
      fun q => B.iter prog w _ _ ⟨hp, g, d, tk, os⟩ _ h1 q
    wp_walk using q1
    refine wpAny_stack_any fun st => wpAny_pure ?_
    split
    · rename_i c _ _ _ _ _
      cases (c == Value.type "enumerate")
      · wp_walk using q1
        exact ⟨_, rfl, h⟩
      · wp_walk using q1
        exact ⟨_, rfl, h⟩
    · wp_walk using q1
      exact ⟨_, rfl, h⟩
section
variable {prog : Program} {w : World} {A : Around} {E : Value → Shared → Prop} {s : Shared}
theorem ea_enum1 {v : Value} {o : Obj} {H : Heap → Prop} {Q : Value → Shared → Prop} (B : Begins v o H) (h1 : H s.heap)
    (h : ∀ h', IsEnum h' (s.heap.objs.size + 1) s.heap.objs.size 0 .none → h'.get? s.heap.objs.size = some o → h'.objs.size = s.heap.objs.size + 2 →
      (∀ b o, s.heap.get? b = some o → h'.get? b = some o) → Q (.ref (s.heap.objs.size + 1)) { s with heap := h' }) :
    wpAny (model prog w) A (call (.type "enumerate") [v]) Q E s := by
  refine callType_new F.called_enumerate (by decide) (F.typeCall_enumerate_1 _) (F.newCall_enumerate_1 _) (fun obj => F.args_object_init_2 obj _) F.entry_enumerate_new
    (ea_meets_enum1 B) ⟨h1, ?_⟩
  have hz : (s.heap.push o).objs.size = s.heap.objs.size + 1 := Heap.size_push ..
  show _ ∧ _
  rw [hz]
  have he : IsEnum ((s.heap.push o).push { cls := .type "enumerate", data := .fields #[.none, .bool false, .ref s.heap.objs.size, rawInt 0, .none, .none] }) (s.heap.objs.size + 1) s.heap.objs.size 0 .none := by
    have := Heap.get?_push_size (s.heap.push o) (o := { cls := .type "enumerate", data := .fields #[.none, .bool false, .ref s.heap.objs.size, rawInt 0, .none, .none] }) rfl
    rw [hz] at this; exact this
  refine ⟨⟨_, he, rfl⟩, h _ he (Heap.get?_push_of_some _ (Heap.get?_push_size _ B.free)) (by rw [Heap.size_push, hz]) fun b o x => Heap.get?_push_of_some _ (Heap.get?_push_of_some _ x)⟩
end
end PySem

namespace Ea
open PySem PySem.Spec L2
open PyProof.Rows hiding St

/-- the tuple at a, each item in a new pair -/
def IteT (K : PySem.W.Frag) (a : Addr) : It :=
  ⟨fun i H => ∃ (xs : List V) (x : V), SqT K H a xs ∧ xs[i]? = some x, fun i H v H' => ∃ T x, v = .ref T ∧ H T = none ∧ H' = upd H T (.tup [.int (i : Nat), x]) ∧ ∀ xs, SqT K H a xs → xs[i]? = some x, fun i H => ∃ xs : List V, SqT K H a xs ∧ xs.length = i⟩
theorem IsTup.isTuple {h : Heap} {a : Addr} {its : Array Value} (p : IsTup h a its) : h.IsTuple a its := p
theorem turn_enumT {P : Program} {w : World} {K : PySem.W.Frag} {elts : List Expr} {kk : Nat} {tpos : Pos} (a e it : Addr) :
    Turn P w K (.Tuple elts kk tpos) (IteT K a) [e, it] e (fun i h => (∃ old, IsEnum h e it ((i : Nat) : Int) old) ∧ h.IsTupleIter it a i ∧ e ≠ it) where
  mem := by simp
  obj := fun i h st b hb => by
    obtain ⟨⟨old, he⟩, ⟨o, ho, hc, hd⟩, _⟩ := st
    have e' : b = e ∨ b = it := by simpa using hb
    rcases e' with z | z
    · rw [z]; exact ⟨_, he, fun v q => nomatch q⟩
    · rw [z]; exact ⟨o, ho, fun v q => by rw [hd] at q; cases q⟩
  keep := fun i h h' st k => let ⟨⟨old, he⟩, hi, hne⟩ := st; ⟨⟨old, k e (by simp) _ he⟩, hi.at fun o q => k it (by simp) o q, hne⟩
  item := by
    intro X hP hw hK hc i pins s σ H E I hf st hg
    subst hP hw hK
    obtain ⟨⟨old, he⟩, hit, hne⟩ := st
    obtain ⟨xs, x, hq, hx⟩ := hg
    obtain ⟨its, rv, p, hz⟩ := I.tuple hq
    obtain ⟨u, hu, ru⟩ := rv.get hx
    have hel : e < s.heap.objs.size := Heap.lt_size he
    have hil : it < s.heap.objs.size := by obtain ⟨_, q, _⟩ := hit; exact Heap.lt_size q
    have hat : a ≠ it := by
      rintro rfl
      obtain ⟨o1, q1, c1, d1⟩ := hit
      obtain ⟨o2, q2, c2, _⟩ := p
      rw [q1] at q2; cases q2; rw [c1] at c2; injection c2 with z; exact absurd z (by decide)
    have hae : e ∉ [it, a] := by
      intro h
      rcases List.mem_cons.mp h with z | h
      · exact hne z
      · have z : e = a := by simpa using h
        subst z
        obtain ⟨o2, q2, c2, _⟩ := p
        rw [he] at q2; cases q2; injection c2 with z; exact absurd z (by decide)
    have hlt : i < its.toArray.size := by
      have h1 := (List.getElem?_eq_some_iff.mp hx).1
      rw [rv.length] at h1
      simpa using h1
    refine wpAny_pyNext_enum_itemD (A := X.A) (Draws.tuple (A := X.A.in1) (I.ok.hd hc) it a hat its.toArray) he ⟨hit, p⟩ hlt hne hae fun y h' tk hy ho hst hT hsz hk => ?_
    have ey : y = u := by
      have : its.toArray[i]? = some u := by simpa using hu
      rw [this] at hy; exact (Option.some.inj hy).symm
    subst ey
    refine ⟨_, rfl, wpAny_letOwnedTupleGo_enum (s := { s with heap := h', toks := tk + 1 }) ho fun h'' he' sb => ?_⟩
    obtain ⟨t, hT⟩ := (show ∃ t, h'.get? s.heap.objs.size = some { cls := .type "tuple", data := .seq #[.int i t, y] } from ⟨_, hT⟩)
    have hT2 : h''.get? s.heap.objs.size = some { cls := .type "tuple", data := .seq #[.int i t, y] } := (sb.2 _ (Nat.ne_of_gt hel)).trans hT
    have new : ObjOk X.prog X.w (upd H s.heap.objs.size (.tup [.int (i : Nat), x])) h'' s.heap.objs.size (.tup [.int (i : Nat), x]) :=
      ⟨by show 2 ≤ sizeLine; decide, [.int i t, y], .cons ⟨_, rfl⟩ (.cons ru .nil), ⟨_, hT2, rfl, _, rfl⟩⟩
    have I1 : Inv X pins σ (upd H s.heap.objs.size (.tup [.int (i : Nat), x])) { s with heap := h'', toks := tk + 1 } :=
      I.turnedNew (ch := [e, it]) (fun b ob hb q => (sb.2 b (fun z => hb (by simp [z]))).trans (hk b ob (fun z => hb (by simp [z])) (fun z => hb (by simp [z])) q)) hf (Nat.le_refl _) new
    refine ⟨.ref s.heap.objs.size, _, I1, rfl, ⟨_, x, rfl, I.hok.fresh (Nat.le_refl _), rfl, fun ys hy => by rw [I.tuple_inj hy hq]; exact hx⟩, ⟨⟨y, ?_⟩, hst.1.at fun o q => (sb.2 it (Ne.symm hne)).trans q, hne⟩, fun b hb => ?_⟩
    · have e1 : ((i + 1 : Nat) : Int) = (i : Int) + 1 := by omega
      rw [e1]; exact he'
    · have hb' : b < s.heap.objs.size := by
        have e' : b = e ∨ b = it := by simpa using hb
        rcases e' with z | z
        · rw [z]; exact hel
        · rw [z]; exact hil
      rw [upd_ne (Nat.ne_of_lt hb')]
      exact (hf b hb).1
  done := by
    intro X hP hw hK hc i pins s σ H E I hf st hg
    subst hP hw hK
    obtain ⟨⟨old, he⟩, hit, hne⟩ := st
    obtain ⟨xs, hq, hx⟩ := hg
    obtain ⟨its, rv, p, hz⟩ := I.tuple hq
    obtain ⟨f0, f1, f2, f3, f4, f5⟩ := hf it (by simp)
    have hl := rv.length
    have hat : a ≠ it := by
      rintro rfl
      obtain ⟨o1, q1, c1, d1⟩ := hit
      obtain ⟨o2, q2, c2, _⟩ := p
      rw [q1] at q2; cases q2; rw [c1] at c2; injection c2 with z; exact absurd z (by decide)
    have hi : i = its.toArray.size := by simp; omega
    exact wpAny_pyNext_enum_endD (A := X.A) (Draws.tuple (A := X.A.in1) (I.ok.hd hc) it a hat its.toArray) he ⟨hi ▸ hit, p⟩ fun h' eb => ⟨rfl, I.turned (t' := s.toks) (fun b o hb q => eb b o hb q) f0 f1 f3 f4 f5⟩
  self := fun A i s Q E st h => let ⟨⟨_, he⟩, _⟩ := st; wpAny_pyIter_enum he h
end Ea
end
section
set_option Elab.async false
set_option linter.all false
set_option maxRecDepth 100000
set_option maxHeartbeats 4000000
/-! EaE: what is walked, targets, comprehensions -/
namespace Ea
open PySem PySem.Spec L2
open PyProof.Rows hiding St

def iEnumT (K : PySem.W.Frag) (ta : TA) : TI := fun σ H R => ta σ H fun vs H1 => ∃ a xs, vs = [.ref a] ∧ SqT K H1 a xs ∧ R (IteT K a) H1
theorem pi_enumT {X : Cx} {e : Expr} {ta : TA} {p pos tpos : Pos} {elts : List Expr} {kk : Nat} (hg : Gl X "enumerate") (hm : X.mg "enumerate" = none) (ha : PA X [e] ta) (hs : starEach [e] X.env = [(false, eval e X.env)] := by rfl) :
    PI X (.Tuple elts kk tpos) (.Call (.Name "enumerate" p) [e] [] pos) (iEnumT X.K ta) := by
  refine ⟨fun pins s σ H R I h => ?_⟩
  refine Call_ (ld_blt I hg hm boot_enumerate (PyProof.Rows.callWith_type1 (thn (ha.run pos pins s σ H _ I h) fun us s1 ⟨vs, H1, I1, r1, q1⟩ => ?_) hs rfl))
  obtain ⟨a, xs, ex, hq, q⟩ := q1
  subst ex
  cases r1 with
  | cons r rr =>
    cases rr
    cases r
    obtain ⟨its, rv, p', hz⟩ := I1.tuple hq
    refine ea_enum1 (begins_tuple a its.toArray) p' fun h' he hit hsz hk => wpAny_pyIter_enum he ?_
    have I2 : Inv X pins σ H1 { s1 with heap := h' } := I1.kept (t' := s1.toks) hk
    refine ⟨s1.heap.objs.size + 1, [s1.heap.objs.size + 1, s1.heap.objs.size], _, _, H1, rfl, I2, turn_enumT a (s1.heap.objs.size + 1) s1.heap.objs.size, ⟨⟨.none, he⟩, ⟨_, hit, rfl, rfl⟩, Nat.succ_ne_self _⟩, fun b hb => ?_, q⟩
    have e' : b = s1.heap.objs.size + 1 ∨ b = s1.heap.objs.size := by simpa using hb
    have hle : s1.heap.objs.size ≤ b := by
      rcases e' with z | z
      · rw [z]; exact Nat.le_add_right _ _
      · rw [z]; exact Nat.le_refl _
    exact I1.fpOk hle (I1.hok.fresh hle)

/-! ### what is walked, by data -/
abbrev DI := En → Option (List PyData)
structure WalkD (J : It) (F1 : Hp) (xs : List PyData) : Prop where
  goes : ∀ i H, i < xs.length → Same F1 H → J.go i H
  stops : ∀ H, Same F1 H → J.stop xs.length H
  yields : ∀ i F H x H', i < xs.length → Same F1 F → Same F H → J.yld i H x H' → ∃ F' d, Ext F H F' H' ∧ xs[i]? = some d ∧ Rp F' x d
def tI (f : DI) : TI := fun σ H R => ∃ F ρ xs, Same F H ∧ EnvR F H σ ρ ∧ f ρ = some xs ∧ ∀ J F1 H1, Ext F H F1 H1 → WalkD J F1 xs → R J H1
section
variable {X : Cx} {e a b c tg iter : Expr} {pos : Pos}
theorem _root_.L2.PI.imp {t t' : TI} (h : PI X tg iter t) (k : ∀ σ H R, t' σ H R → t σ H R) : PI X tg iter t' := ⟨fun pins s σ H R I q => h.run pins s σ H R I (k σ H R q)⟩
theorem _root_.L2.PI.or {t t' : TI} (h : PI X tg iter t) (h' : PI X tg iter t') : PI X tg iter (fun σ H R => t σ H R ∨ t' σ H R) := ⟨fun pins s σ H R I q => q.elim (h.run pins s σ H R I) (h'.run pins s σ H R I)⟩
theorem _root_.L2.PG.imp {t t' : TG} (h : PG X tg t) (k : ∀ v σ H Q, t' v σ H Q → t v σ H Q) : PG X tg t' := ⟨fun pins s σ H v u Q I r q => h.run pins s σ H v u Q I r (k v σ H Q q)⟩
/-! a list, a tuple -/
theorem walkD_list {K : PySem.W.Frag} {F1 : Hp} {a : Addr} {vs : List V} {xs : List PyData} (e : F1 a = some (.lst vs)) (r : RpL F1 vs xs) : WalkD (Itl K a) F1 xs where
  goes := fun i H hi s => ⟨vs, vs[i]'(by rw [r.length]; exact hi), SqL.of (s _ _ e), by simp⟩
  stops := fun H s => ⟨vs, SqL.of (s _ _ e), by rw [r.length]; exact Nat.le_refl _⟩
  yields := fun i F H x H' hi s1 s h => by
    obtain ⟨rfl, h⟩ := h
    obtain ⟨d, hd, rd⟩ := r.getV (h vs (SqL.of (s _ _ (s1 _ _ e))))
    exact ⟨F, d, Ext.refl s, hd, rd.mono s1⟩
theorem walkD_tup {K : PySem.W.Frag} {F1 : Hp} {a : Addr} {vs : List V} {xs : List PyData} (e : F1 a = some (.tup vs)) (r : RpL F1 vs xs) : WalkD (Itt K a) F1 xs where
  goes := fun i H hi s => ⟨vs, vs[i]'(by rw [r.length]; exact hi), SqT.of (s _ _ e), by simp⟩
  stops := fun H s => ⟨vs, SqT.of (s _ _ e), by rw [r.length]; exact Nat.le_refl _⟩
  yields := fun i F H x H' hi s1 s h => by
    obtain ⟨rfl, h⟩ := h
    obtain ⟨d, hd, rd⟩ := r.getV (h vs (SqT.of (s _ _ (s1 _ _ e))))
    exact ⟨F, d, Ext.refl s, hd, rd.mono s1⟩
def seqD : PyData → Option (List PyData)
  | .list xs => some xs
  | .tuple xs => some xs
  | _ => none
def iSeq (f : DE) : DI := fun ρ => (f ρ).bind seqD
theorem i_seq {f : DE} (h : PE X iter (tE f)) : PI X tg iter (tI (iSeq f)) := ((pi_list h).or (pi_tup h)).imp fun σ H R ⟨F, ρ, xs, s, r, q, k⟩ => by
  obtain ⟨d, hd, q⟩ := Option.bind_eq_some_iff.mp q
  unfold seqD at q
  split at q
  · cases q
    refine .inl ⟨F, ρ, _, s, r, hd, fun x F1 H1 x1 r1 => ?_⟩
    cases r1 with | lst e1 t1 =>
    exact ⟨_, rfl, ⟨_, SqL.of (x1.fh _ _ e1)⟩, k _ F1 H1 x1 (walkD_list e1 t1)⟩
  · cases q
    refine .inr ⟨F, ρ, _, s, r, hd, fun x F1 H1 x1 r1 => ?_⟩
    cases r1 with | tup e1 t1 =>
    exact ⟨_, rfl, ⟨_, SqT.of (x1.fh _ _ e1)⟩, k _ F1 H1 x1 (walkD_tup e1 t1)⟩
  · cases q
/-! ranges -/
theorem walkD_rng {F1 : Hp} {lo : Int} {n : Nat} : WalkD (Itr lo n) F1 (rgD lo n) where
  goes := fun i H hi s => by rw [rgD_len] at hi; exact hi
  stops := fun H s => by rw [rgD_len]; exact Nat.le_refl _
  yields := fun i F H x H' hi s1 s h => by
    obtain ⟨rfl, rfl⟩ := h
    rw [rgD_len] at hi
    exact ⟨F, _, Ext.refl s, rgD_get _ _ _ hi, .int _⟩
def small62 (i : Int) : Bool := decide (-4611686018427387904 ≤ i) && decide (i < 4611686018427387904)
theorem small62_ok {i : Int} (h : small62 i = true) : -(2 ^ 62) ≤ i ∧ i < 2 ^ 62 := by
  unfold small62 at h
  simp only [Bool.and_eq_true, decide_eq_true_eq] at h
  exact ⟨by omega, by omega⟩
def iRg1 (f : DE) : DI := fun ρ => (f ρ).bind fun d => match d with | .int n => if small62 n then some (rgD 0 n.toNat) else none | _ => none
theorem i_rg1 {p : Pos} {f : DE} (hg : Gl X "range") (hm : X.mg "range" = none) (ha : PE X a (tE f)) (hs : starEach [a] X.env = [(false, eval a X.env)] := by rfl) : PI X tg (.Call (.Name "range" p) [a] [] pos) (tI (iRg1 f)) :=
  (pi_range1 hg hm (pa_cons ha pa_nil hs) hs).imp fun σ H R ⟨F, ρ, xs, s, r, q, k⟩ => by
    obtain ⟨d, hd, q⟩ := Option.bind_eq_some_iff.mp q
    refine ⟨F, ρ, d, s, r, hd, fun x F1 H1 x1 r1 => ?_⟩
    split at q
    · rename_i n
      split at q
      · rename_i hn
        cases q; cases r1
        obtain ⟨h1, h2⟩ := small62_ok hn
        exact ⟨n, rfl, h1, h2, k _ F1 H1 x1 walkD_rng⟩
      · cases q
    · cases q
def rg2D : PyData → PyData → Option (List PyData)
  | .int i, .int j => if small62 i && small62 j then some (rgD i (j - i).toNat) else none
  | _, _ => none
theorem rg2D_some {d d2 : PyData} {xs : List PyData} (h : rg2D d d2 = some xs) : ∃ i j, d = .int i ∧ d2 = .int j ∧ small62 i = true ∧ small62 j = true ∧ xs = rgD i (j - i).toNat := by
  unfold rg2D at h
  split at h
  · split at h
    · rename_i hn
      obtain ⟨g1, g2⟩ := Bool.and_eq_true_iff.mp hn
      cases h
      exact ⟨_, _, rfl, rfl, g1, g2, rfl⟩
    · cases h
  · cases h
def iRg2 (f g : DE) : DI := fun ρ => (f ρ).bind fun d => (g ρ).bind fun d2 => rg2D d d2
theorem i_rg2 {p : Pos} {f g : DE} (hg : Gl X "range") (hm : X.mg "range" = none) (ha : PE X a (tE f)) (hb : PE X b (tE g)) (hs : starEach [a, b] X.env = [(false, eval a X.env), (false, eval b X.env)] := by rfl) (hs2 : starEach [b] X.env = [(false, eval b X.env)] := by rfl)
    (hs3 : starEach [a, b] X.env = (false, eval a X.env) :: starEach [b] X.env := by rfl) : PI X tg (.Call (.Name "range" p) [a, b] [] pos) (tI (iRg2 f g)) :=
  (pi_range2 hg hm (pa_cons ha (pa_cons hb pa_nil hs2) hs3) hs hs2).imp fun σ H R ⟨F, ρ, xs, s, r, q, k⟩ => by
    obtain ⟨d, hd, q⟩ := Option.bind_eq_some_iff.mp q
    obtain ⟨d2, hd2, q⟩ := Option.bind_eq_some_iff.mp q
    refine ⟨F, ρ, d, s, r, hd, fun x F1 H1 x1 r1 => ⟨F1, ρ, d2, x1.fh, r.ext x1, hd2, fun y F2 H2 x2 r2 => ?_⟩⟩
    obtain ⟨i, j, rfl, rfl, g1, g2, rfl⟩ := rg2D_some q
    cases r1; cases r2
    obtain ⟨h1, h2⟩ := small62_ok g1
    obtain ⟨h3, h4⟩ := small62_ok g2
    exact ⟨i, j, rfl, ⟨h1, h2, h3, h4⟩, k _ F2 H2 (x1.trans x2) walkD_rng⟩
/-- range(n, -1, -1) and its like -/
def rgDn (a : Int) : Nat → List PyData
  | 0 => []
  | n + 1 => .int a :: rgDn (a - 1) n
theorem rgDn_get : ∀ (n : Nat) (a : Int) (i : Nat), i < n → (rgDn a n)[i]? = some (.int (a - i))
  | 0, _, _, h => absurd h (Nat.not_lt_zero _)
  | n + 1, a, 0, _ => by simp [rgDn]
  | n + 1, a, i + 1, h => by
    show (rgDn (a - 1) n)[i]? = _
    rw [rgDn_get n (a - 1) i (Nat.lt_of_succ_lt_succ h)]
    have e : a - 1 - (i : Int) = a - ((i + 1 : Nat) : Int) := by omega
    rw [e]
theorem rgDn_len : ∀ (n : Nat) (a : Int), (rgDn a n).length = n
  | 0, _ => rfl
  | n + 1, a => by show (rgDn (a - 1) n).length + 1 = n + 1; rw [rgDn_len]
theorem walkD_rngC {F1 : Hp} {lo : Int} {n : Nat} : WalkD (Itc lo (-1) n) F1 (rgDn lo n) where
  goes := fun i H hi s => by rw [rgDn_len] at hi; exact walk_rangeC.goes i H hi trivial
  stops := fun H s => by rw [rgDn_len]; exact walk_rangeC.stops H trivial
  yields := fun i F H x H' hi s1 s h => by
    rw [rgDn_len] at hi
    obtain ⟨rfl, rfl⟩ := walk_rangeC.yields i H x H' hi trivial h
    refine ⟨F, _, Ext.refl s, rgDn_get _ _ _ hi, ?_⟩
    have e : lo + (i : Int) * -1 = lo - i := by omega
    show Rp F (V.int (lo + (i : Int) * -1)) _
    rw [e]; exact .int _
def small20 (i : Int) : Bool := decide (-1000000 ≤ i) && decide (i < 1000000)
def rg3D : PyData → PyData → PyData → Option (List PyData)
  | .int i, .int j, .int c => if small20 i && small20 j && decide (c = -1) then some (rgDn i (i - j).toNat) else none
  | _, _, _ => none
theorem rg3D_some {d d2 d3 : PyData} {xs : List PyData} (h : rg3D d d2 d3 = some xs) : ∃ i j, d = .int i ∧ d2 = .int j ∧ d3 = .int (-1) ∧ small20 i = true ∧ small20 j = true ∧ xs = rgDn i (i - j).toNat := by
  unfold rg3D at h
  split at h
  · split at h
    · rename_i hn
      obtain ⟨g1, g3⟩ := Bool.and_eq_true_iff.mp hn
      obtain ⟨g1, g2⟩ := Bool.and_eq_true_iff.mp g1
      cases h
      have e := of_decide_eq_true g3
      exact ⟨_, _, rfl, rfl, by rw [e], g1, g2, rfl⟩
    · cases h
  · cases h
def iRg3 (f g h : DE) : DI := fun ρ => (f ρ).bind fun d => (g ρ).bind fun d2 => (h ρ).bind fun d3 => rg3D d d2 d3
theorem i_rg3 {p : Pos} {f g h : DE} (hg : Gl X "range") (hm : X.mg "range" = none) (ha : PE X a (tE f)) (hb : PE X b (tE g)) (hc : PE X c (tE h))
    (hs : starEach [a, b, c] X.env = (false, eval a X.env) :: starEach [b, c] X.env := by rfl) (hs2 : starEach [b, c] X.env = (false, eval b X.env) :: starEach [c] X.env := by rfl) (hs3 : starEach [c] X.env = (false, eval c X.env) :: starEach [] X.env := by rfl)
    (hpl : (backTo pos (starEach [b, c] X.env)).any (·.1) = false := by rfl) : PI X tg (.Call (.Name "range" p) [a, b, c] [] pos) (tI (iRg3 f g h)) :=
  (pi_range3 hg hm (pa_cons ha (pa_cons hb (pa_cons hc pa_nil hs3) hs2) hs) hs hpl).imp fun σ H R ⟨F, ρ, xs, s, r, q, k⟩ => by
    obtain ⟨d, hd, q⟩ := Option.bind_eq_some_iff.mp q
    obtain ⟨d2, hd2, q⟩ := Option.bind_eq_some_iff.mp q
    obtain ⟨d3, hd3, q⟩ := Option.bind_eq_some_iff.mp q
    refine ⟨F, ρ, d, s, r, hd, fun x F1 H1 x1 r1 => ⟨F1, ρ, d2, x1.fh, r.ext x1, hd2, fun y F2 H2 x2 r2 => ⟨F2, ρ, d3, x2.fh, (r.ext x1).ext x2, hd3, fun z F3 H3 x3 r3 => ?_⟩⟩⟩
    obtain ⟨i, j, rfl, rfl, rfl, g1, g2, rfl⟩ := rg3D_some q
    cases r1; cases r2; cases r3
    unfold small20 at g1 g2
    simp only [Bool.and_eq_true, decide_eq_true_eq] at g1 g2
    exact ⟨i, j, -1, (i - j).toNat, rfl, RgC.neg (by omega) (by omega) (by omega) (by omega), k _ F3 H3 (x1.trans (x2.trans x3)) walkD_rngC⟩
/-! enumerate, zip: each item in a new pair -/
theorem pair_ext {F H : Hp} {T : Addr} {x y : V} {d e : PyData} (s : Same F H) (n : H T = none) (rx : Rp F x d) (ry : Rp F y e) : ∃ F', Ext F H F' (upd H T (.tup [x, y])) ∧ Rp F' (.ref T) (.tuple [d, e]) :=
  ⟨_, Ext.alloc s n, .tup upd_same (.cons (rx.mono (same_upd (s.noneL n))) (.cons (ry.mono (same_upd (s.noneL n))) .nil))⟩
def enumD (i : Int) : List PyData → List PyData
  | [] => []
  | d :: r => .tuple [.int i, d] :: enumD (i + 1) r
theorem enumD_len : ∀ (xs : List PyData) (i : Int), (enumD i xs).length = xs.length
  | [], _ => rfl
  | x :: r, i => by show (enumD (i + 1) r).length + 1 = r.length + 1; rw [enumD_len]
theorem enumD_get : ∀ (xs : List PyData) (a : Int) (i : Nat) (d : PyData), xs[i]? = some d → (enumD a xs)[i]? = some (.tuple [.int (a + i), d])
  | [], _, _, _, h => by simp at h
  | x :: r, a, 0, d, h => by simp at h; subst h; simp [enumD]
  | x :: r, a, i + 1, d, h => by
    show (enumD (a + 1) r)[i]? = _
    rw [enumD_get r (a + 1) i d (by simpa using h)]
    have e : a + 1 + (i : Int) = a + ((i + 1 : Nat) : Int) := by omega
    rw [e]
theorem walkD_enum {K : PySem.W.Frag} {F1 : Hp} {a : Addr} {vs : List V} {xs : List PyData} (e : F1 a = some (.lst vs)) (r : RpL F1 vs xs) : WalkD (Ite K a) F1 (enumD 0 xs) where
  goes := fun i H hi s => by
    rw [enumD_len, ← r.length] at hi
    exact ⟨vs, vs[i], SqL.of (s _ _ e), by simp⟩
  stops := fun H s => ⟨vs, SqL.of (s _ _ e), by rw [enumD_len, r.length]; exact Nat.le_refl _⟩
  yields := fun i F H x H' hi s1 s h => by
    obtain ⟨T, y, rfl, n, rfl, hy⟩ := h
    obtain ⟨d, hd, rd⟩ := r.getV (hy vs (SqL.of (s _ _ (s1 _ _ e))))
    obtain ⟨F', x', rp⟩ := pair_ext s n (.int (i : Nat)) (rd.mono s1)
    refine ⟨F', _, x', enumD_get xs 0 i d hd, ?_⟩
    rw [Int.zero_add]; exact rp
theorem walkD_enumT {K : PySem.W.Frag} {F1 : Hp} {a : Addr} {vs : List V} {xs : List PyData} (e : F1 a = some (.tup vs)) (r : RpL F1 vs xs) : WalkD (IteT K a) F1 (enumD 0 xs) where
  goes := fun i H hi s => by
    rw [enumD_len, ← r.length] at hi
    exact ⟨vs, vs[i], SqT.of (s _ _ e), by simp⟩
  stops := fun H s => ⟨vs, SqT.of (s _ _ e), by rw [enumD_len]; exact r.length⟩
  yields := fun i F H x H' hi s1 s h => by
    obtain ⟨T, y, rfl, n, rfl, hy⟩ := h
    obtain ⟨d, hd, rd⟩ := r.getV (hy vs (SqT.of (s _ _ (s1 _ _ e))))
    obtain ⟨F', x', rp⟩ := pair_ext s n (.int (i : Nat)) (rd.mono s1)
    refine ⟨F', _, x', enumD_get xs 0 i d hd, ?_⟩
    rw [Int.zero_add]; exact rp
def iEnumD (f : DE) : DI := fun ρ => (f ρ).bind fun d => (seqD d).map (enumD 0)
theorem i_enum {p tpos : Pos} {elts : List Expr} {kk : Nat} {f : DE} (hg : Gl X "enumerate") (hm : X.mg "enumerate" = none) (ha : PE X a (tE f)) (hs : starEach [a] X.env = [(false, eval a X.env)] := by rfl) : PI X (.Tuple elts kk tpos) (.Call (.Name "enumerate" p) [a] [] pos) (tI (iEnumD f)) :=
  ((pi_enum hg hm (pa_cons ha pa_nil hs) hs).or (pi_enumT hg hm (pa_cons ha pa_nil hs) hs)).imp fun σ H R ⟨F, ρ, xs, s, r, q, k⟩ => by
    obtain ⟨d, hd, q⟩ := Option.bind_eq_some_iff.mp q
    obtain ⟨ys, hy, q⟩ := Option.map_eq_some_iff.mp q
    subst q
    unfold seqD at hy
    split at hy
    · cases hy
      refine .inl ⟨F, ρ, _, s, r, hd, fun x F1 H1 x1 r1 => ?_⟩
      cases r1 with | lst e1 t1 =>
      exact ⟨_, _, rfl, SqL.of (x1.fh _ _ e1), k _ F1 H1 x1 (walkD_enum e1 t1)⟩
    · cases hy
      refine .inr ⟨F, ρ, _, s, r, hd, fun x F1 H1 x1 r1 => ?_⟩
      cases r1 with | tup e1 t1 =>
      exact ⟨_, _, rfl, SqT.of (x1.fh _ _ e1), k _ F1 H1 x1 (walkD_enumT e1 t1)⟩
    · cases hy
def zipD : List PyData → List PyData → List PyData
  | x :: xs, y :: ys => .tuple [x, y] :: zipD xs ys
  | _, _ => []
theorem zipD_len : ∀ (xs ys : List PyData), (zipD xs ys).length = min xs.length ys.length
  | [], _ => by simp [zipD]
  | _ :: _, [] => by simp [zipD]
  | x :: xs, y :: ys => by
    show (zipD xs ys).length + 1 = min (xs.length + 1) (ys.length + 1)
    rw [zipD_len]; omega
theorem zipD_get : ∀ (xs ys : List PyData) (i : Nat) (d e : PyData), xs[i]? = some d → ys[i]? = some e → (zipD xs ys)[i]? = some (.tuple [d, e])
  | [], _, _, _, _, h, _ => by simp at h
  | _ :: _, [], _, _, _, _, h => by simp at h
  | x :: xs, y :: ys, 0, d, e, h, h' => by simp at h h'; subst h h'; simp [zipD]
  | x :: xs, y :: ys, i + 1, d, e, h, h' => by
    show (zipD xs ys)[i]? = _
    exact zipD_get xs ys i d e (by simpa using h) (by simpa using h')
theorem walkD_zip {K : PySem.W.Frag} {F1 : Hp} {a b : Addr} {vs ws : List V} {xs ys : List PyData} (e : F1 a = some (.lst vs)) (r : RpL F1 vs xs) (e' : F1 b = some (.lst ws)) (r' : RpL F1 ws ys) : WalkD (Itz K a b) F1 (zipD xs ys) where
  goes := fun i H hi s => by
    rw [zipD_len, ← r.length, ← r'.length] at hi
    exact ⟨vs, ws, vs[i]'(by omega), ws[i]'(by omega), SqL.of (s _ _ e), SqL.of (s _ _ e'), by simp, by simp⟩
  stops := fun H s => ⟨vs, ws, SqL.of (s _ _ e), SqL.of (s _ _ e'), by rw [zipD_len, r.length, r'.length]; omega⟩
  yields := fun i F H x H' hi s1 s h => by
    obtain ⟨T, y, z, rfl, n, rfl, hy, hz⟩ := h
    obtain ⟨d, hd, rd⟩ := r.getV (hy vs (SqL.of (s _ _ (s1 _ _ e))))
    obtain ⟨d', hd', rd'⟩ := r'.getV (hz ws (SqL.of (s _ _ (s1 _ _ e'))))
    obtain ⟨F', x', rp⟩ := pair_ext s n (rd.mono s1) (rd'.mono s1)
    exact ⟨F', _, x', zipD_get xs ys i d d' hd hd', rp⟩
theorem walkD_zipT {K : PySem.W.Frag} {F1 : Hp} {a b : Addr} {vs ws : List V} {xs ys : List PyData} (e : F1 a = some (.tup vs)) (r : RpL F1 vs xs) (e' : F1 b = some (.tup ws)) (r' : RpL F1 ws ys) : WalkD (RZ.ItzT K a b) F1 (zipD xs ys) where
  goes := fun i H hi s => by
    rw [zipD_len, ← r.length, ← r'.length] at hi
    exact ⟨vs, ws, vs[i]'(by omega), ws[i]'(by omega), SqT.of (s _ _ e), SqT.of (s _ _ e'), by simp, by simp⟩
  stops := fun H s => ⟨vs, ws, SqT.of (s _ _ e), SqT.of (s _ _ e'), by rw [zipD_len, r.length, r'.length]; omega⟩
  yields := fun i F H x H' hi s1 s h => by
    obtain ⟨T, y, z, rfl, n, rfl, hy, hz⟩ := h
    obtain ⟨d, hd, rd⟩ := r.getV (hy vs (SqT.of (s _ _ (s1 _ _ e))))
    obtain ⟨d', hd', rd'⟩ := r'.getV (hz ws (SqT.of (s _ _ (s1 _ _ e'))))
    obtain ⟨F', x', rp⟩ := pair_ext s n (rd.mono s1) (rd'.mono s1)
    exact ⟨F', _, x', zipD_get xs ys i d d' hd hd', rp⟩
def zipD? : PyData → PyData → Option (List PyData)
  | .list xs, .list ys => some (zipD xs ys)
  | .tuple xs, .tuple ys => some (zipD xs ys)
  | _, _ => none
def iZipD (f g : DE) : DI := fun ρ => (f ρ).bind fun d => (g ρ).bind fun d2 => zipD? d d2
theorem i_zip {p tpos : Pos} {elts : List Expr} {kk : Nat} {f g : DE} (hg : Gl X "zip") (hm : X.mg "zip" = none) (ha : PE X a (tE f)) (hb : PE X b (tE g)) (hs : starEach [a, b] X.env = (false, eval a X.env) :: starEach [b] X.env := by rfl)
    (hs2 : starEach [b] X.env = (false, eval b X.env) :: starEach [] X.env := by rfl) (hpl : (backTo pos (starEach [b] X.env)).any (·.1) = false := by rfl) : PI X (.Tuple elts kk tpos) (.Call (.Name "zip" p) [a, b] [] pos) (tI (iZipD f g)) :=
  (RZ.pi_zipA hg hm (pa_cons ha (pa_cons hb pa_nil hs2) hs) hs hpl).imp fun σ H R ⟨F, ρ, xs, s, r, q, k⟩ => by
    obtain ⟨d, hd, q⟩ := Option.bind_eq_some_iff.mp q
    obtain ⟨d2, hd2, q⟩ := Option.bind_eq_some_iff.mp q
    refine ⟨F, ρ, d, s, r, hd, fun x F1 H1 x1 r1 => ⟨F1, ρ, d2, x1.fh, r.ext x1, hd2, fun y F2 H2 x2 r2 => ?_⟩⟩
    have r1' := r1.mono x2.ff
    unfold zipD? at q
    split at q
    · cases q
      cases r1' with | lst e1 t1 =>
      cases r2 with | lst e2 t2 =>
      exact ⟨_, _, _, _, rfl, .inl ⟨SqL.of (x2.fh _ _ e1), SqL.of (x2.fh _ _ e2), k _ F2 H2 (x1.trans x2) (walkD_zip e1 t1 e2 t2)⟩⟩
    · cases q
      cases r1' with | tup e1 t1 =>
      cases r2 with | tup e2 t2 =>
      exact ⟨_, _, _, _, rfl, .inr ⟨SqT.of (x2.fh _ _ e1), SqT.of (x2.fh _ _ e2), k _ F2 H2 (x1.trans x2) (walkD_zipT e1 t1 e2 t2)⟩⟩
    · cases q

/-! ### targets -/
abbrev DG := PyData → En → Option En
structure Agr (vs : List Nat) (σ σ' : St) (ρ ρ' : En) : Prop where
  len : σ'.length = σ.length
  lenR : ρ'.length = ρ.length
  out : ∀ i, i ∉ vs → σ'[i]? = σ[i]? ∧ ρ'[i]? = ρ[i]?
  is : ∀ i s, i ∈ vs → ρ'[i]? = some s → ∃ d, s = .d d
def tG (vs : List Nat) (g : DG) : TG := fun v σ H Q => ∃ F ρ d ρ', Same F H ∧ EnvR F H σ ρ ∧ Rp F v d ∧ g d ρ = some ρ' ∧ ∀ σ', EnvR F H σ' ρ' → Agr vs σ σ' ρ ρ' → Q σ' H
def gN (i : Nat) : DG := fun d ρ => some (ρ.set i (.d d))
theorem g_name {i : Nat} {x : Str} (hN : X.N.Nodup) (hi : X.N[i]? = some x) (hx : Loc X.env.scope x) (hf : X.fn x = true ∨ X.env.scope.names.lookup x = some .local := by first | exact .inl rfl | exact .inr rfl | assumption) : PG X (.Name x pos) (tG [i] (gN i)) :=
  (pg_name hN hi hx hf).imp fun v σ H Q ⟨F, ρ, d, ρ', s, r, rv, q, k⟩ => by
    cases q
    refine k _ (r.set ⟨v, rfl, rv⟩) ⟨by simp, by simp, fun j hj => ?_, fun j s hj e => ?_⟩
    · have hj : i ≠ j := fun z => hj (by simp [z])
      exact ⟨List.getElem?_set_ne hj, List.getElem?_set_ne hj⟩
    · have z : j = i := by simpa using hj
      subst z
      by_cases hl : j < ρ.length
      · rw [List.getElem?_set_self hl] at e; cases e; exact ⟨d, rfl⟩
      · rw [List.getElem?_eq_none (by simpa using hl)] at e; cases e
abbrev DGs := List PyData → En → Option En
def tGs (vs : List Nat) (g : DGs) : TGs := fun xs σ H Q => ∃ F ρ ds ρ', Same F H ∧ EnvR F H σ ρ ∧ RpL F xs ds ∧ g ds ρ = some ρ' ∧ ∀ σ', EnvR F H σ' ρ' → Agr vs σ σ' ρ ρ' → Q σ' H
theorem _root_.L2.PGs.imp {es : List Expr} {t t' : TGs} (h : PGs X es t) (k : ∀ v σ H Q, t' v σ H Q → t v σ H Q) : PGs X es t' := ⟨fun pins s σ H v u Q I r q => h.run pins s σ H v u Q I r (k v σ H Q q)⟩
def gsNil : DGs := fun ds ρ => match ds with | [] => some ρ | _ => none
def gsCons (g : DG) (gs : DGs) : DGs := fun ds ρ => match ds with | d :: r => (g d ρ).bind (gs r) | [] => none
theorem Agr.refl {σ : St} {ρ : En} : Agr [] σ σ ρ ρ := ⟨rfl, rfl, fun _ _ => ⟨rfl, rfl⟩, fun i s h => absurd h List.not_mem_nil⟩
theorem Agr.trans {vs ws : List Nat} {σ σ1 σ2 : St} {ρ ρ1 ρ2 : En} (a : Agr vs σ σ1 ρ ρ1) (b : Agr ws σ1 σ2 ρ1 ρ2) : Agr (vs ++ ws) σ σ2 ρ ρ2 :=
  ⟨b.len.trans a.len, b.lenR.trans a.lenR, fun i hi => by
    have h1 : i ∉ vs := fun z => hi (List.mem_append_left _ z)
    have h2 : i ∉ ws := fun z => hi (List.mem_append_right _ z)
    exact ⟨(b.out i h2).1.trans (a.out i h1).1, (b.out i h2).2.trans (a.out i h1).2⟩, fun i s hi e => by
    by_cases h2 : i ∈ ws
    · exact b.is i s h2 e
    · rw [(b.out i h2).2] at e
      rcases List.mem_append.mp hi with z | z
      · exact a.is i s z e
      · exact absurd z h2⟩
theorem gs_nil : PGs X [] (tGs [] gsNil) := pgs_nil.imp fun xs σ H Q ⟨F, ρ, ds, ρ', s, r, rv, q, k⟩ => by
  unfold gsNil at q
  split at q
  · cases q; cases rv
    exact ⟨rfl, k σ r Agr.refl⟩
  · cases q
theorem gs_cons {es : List Expr} {vs ws us : List Nat} {g : DG} {gs : DGs} (h1 : PG X e (tG vs g)) (h2 : PGs X es (tGs ws gs)) (hs : (assignEach (e :: es) X.env).map (·.2) = assign e X.env :: (assignEach es X.env).map (·.2) := by rfl) (hv : vs ++ ws = us := by rfl) : PGs X (e :: es) (tGs us (gsCons g gs)) :=
  (pgs_cons h1 h2 hs).imp fun xs σ H Q ⟨F, ρ, ds, ρ', s, r, rv, q, k⟩ => by
    subst hv
    unfold gsCons at q
    split at q
    · rename_i d dr
      obtain ⟨ρ1, h1, q⟩ := Option.bind_eq_some_iff.mp q
      cases rv with | cons r1 rt =>
      exact ⟨_, _, rfl, F, ρ, d, ρ1, s, r, r1, h1, fun σ1 r2 a1 => ⟨F, ρ1, dr, ρ', s, r2, rt, q, fun σ2 r3 a2 => k σ2 r3 (a1.trans a2)⟩⟩
    · cases q
def gTupD (n : Nat) (gs : DGs) : DG := fun d ρ => match d with | .tuple ds => if ds.length == n then gs ds ρ else none | _ => none
theorem g_tup {es : List Expr} {k n : Nat} {vs : List Nat} {gs : DGs} (hc : X.calm = true) (h : PGs X es (tGs vs gs)) (hn : (assignEach es X.env).length = n := by rfl) (hst : (assignEach es X.env).findIdx? (·.1) = none := by rfl) : PG X (.Tuple es k pos) (tG vs (gTupD n gs)) :=
  (pg_tup hc h hn hst).imp fun v σ H Q ⟨F, ρ, d, ρ', s, r, rv, q, kk⟩ => by
    unfold gTupD at q
    split at q
    · rename_i ds
      split at q
      · rename_i hl
        cases rv with | tup e1 t1 =>
        exact ⟨_, _, rfl, SqT.of (s _ _ e1), by rw [t1.length]; exact eq_of_beq hl, F, ρ, ds, ρ', s, r, t1, q, kk⟩
      · cases q
    · cases q

/-! ### comprehensions -/
def wipeE (ρ : En) : List Nat → En
  | [] => ρ
  | v :: vs => (wipeE ρ vs).set v .no
theorem EnvR.wipe {F H : Hp} {σ : St} {ρ : En} (r : EnvR F H σ ρ) : ∀ vs : List Nat, EnvR F H (wipe σ vs) (wipeE ρ vs)
  | [] => r
  | v :: vs => (EnvR.wipe r vs).set (i := v) (y := none) (s := .no) trivial
theorem wipe_get : ∀ (vs : List Nat) (σ : St) (i : Nat), (wipe σ vs)[i]? = if i ∈ vs then (if i < σ.length then some none else none) else σ[i]?
  | [], σ, i => by simp [wipe]
  | v :: vs, σ, i => by
    show ((wipe σ vs).set v none)[i]? = _
    by_cases h : v = i
    · subst h
      rw [if_pos List.mem_cons_self]
      by_cases hl : v < σ.length
      · rw [List.getElem?_set_self (by rw [wipe_length]; exact hl), if_pos hl]
      · rw [List.getElem?_eq_none (by rw [List.length_set, wipe_length]; omega), if_neg hl]
    · rw [List.getElem?_set_ne h, wipe_get vs σ i]
      have : (i ∈ v :: vs) ↔ i ∈ vs := by simp [Ne.symm h]
      simp only [this]
theorem wipe_agr {vs : List Nat} {σ σ2 : St} {ρ ρ2 : En} (a : Agr vs (wipe σ vs) σ2 ρ ρ2) : wipe σ2 vs = wipe σ vs := by
  have hl : σ2.length = σ.length := a.len.trans (wipe_length σ vs)
  apply List.ext_getElem?
  intro i
  rw [wipe_get, wipe_get, hl]
  by_cases h : i ∈ vs
  · rw [if_pos h, if_pos h]
  · rw [if_neg h, if_neg h, (a.out i h).1, wipe_get, if_neg h]
/-- what a comprehension makes, item by item -/
def lcGo (ρ : En) (g : DG) (ft : DT) (fe : DE) : List PyData → Option (List PyData)
  | [] => some []
  | x :: r => match g x ρ with
    | none => none
    | some ρ1 => match ft ρ1 with
      | none => none
      | some true => (match fe ρ1 with | none => none | some y => (lcGo ρ g ft fe r).map (y :: ·))
      | some false => lcGo ρ g ft fe r
theorem lcGo_cons {ρ : En} {g : DG} {ft : DT} {fe : DE} {x : PyData} {r ys : List PyData} (h : lcGo ρ g ft fe (x :: r) = some ys) :
    ∃ ρ1, g x ρ = some ρ1 ∧ ((ft ρ1 = some true ∧ ∃ y zs, fe ρ1 = some y ∧ lcGo ρ g ft fe r = some zs ∧ ys = y :: zs) ∨ (ft ρ1 = some false ∧ lcGo ρ g ft fe r = some ys)) := by
  unfold lcGo at h
  split at h
  · cases h
  · rename_i ρ1 h1
    refine ⟨ρ1, h1, ?_⟩
    split at h
    · cases h
    · rename_i h2
      split at h
      · cases h
      · rename_i y h3
        obtain ⟨zs, h4, e⟩ := Option.map_eq_some_iff.mp h
        exact .inl ⟨h2, y, zs, h3, h4, e.symm⟩
    · rename_i h2
      exact .inr ⟨h2, h⟩
def dYes : DT := fun _ => some true
def eLc (fi : DI) (vs : List Nat) (g : DG) (ft : DT) (fe : DE) : DE := fun ρ => (fi ρ).bind fun xs => if okLen xs.length then (lcGo (wipeE ρ vs) g ft fe xs).map .list else none
def tTs (t : DT) : TT := tT t
theorem _root_.L2.PTs.imp {es : List Expr} {t t' : TT} (h : PTs X es t) (k : ∀ σ H Q, t' σ H Q → t σ H Q) : PTs X es t' := ⟨fun pins s σ H Q I q => h.run pins s σ H Q I (k σ H Q q)⟩
theorem ts_nil : PTs X [] (tT dYes) := pts_nil.imp fun σ H Q ⟨F, ρ, b, s, r, q, k⟩ => by cases q; exact k F H (Ext.refl s)
theorem ts_one {t : DT} (h : PT X a (tT t)) : PTs X [a] (tT t) := pts_one h
theorem tLc_of {fi : DI} {vs : List Nat} {g : DG} {ft : DT} {fe : DE} {σ : St} {H : Hp} {Q : VK} (h : tO (eLc fi vs g ft fe) σ H Q) : tLc (tI fi) (tG vs g) (tT ft) (tE fe) vs σ H Q := by
  obtain ⟨F, ρ, d, s, r, q, k⟩ := h
  unfold eLc at q
  obtain ⟨xs, hx, q⟩ := Option.bind_eq_some_iff.mp q
  split at q
  · rename_i ok
    obtain ⟨ys, hy, q⟩ := Option.map_eq_some_iff.mp q
    subst q
    refine ⟨F, ρ, xs, s, r, hx, fun J F1 H1 x1 W D nD => ?_⟩
    have okl := okLen_le ok
    refine lc_it (J := J) (n := xs.length) (G := fun H => ∃ F2, Same F1 F2 ∧ Same F2 H) (Y := fun i H x H' => ∀ F2, Same F1 F2 → Same F2 H → ∃ F' d, Ext F2 H F' H' ∧ xs[i]? = some d ∧ Rp F' x d)
      ⟨fun i H hi ⟨F2, s1, s2⟩ => W.goes i H hi (s1.trans s2), fun H ⟨F2, s1, s2⟩ => W.stops H (s1.trans s2), fun i H x H' hi _ y F2 s1 s2 => W.yields i F2 H x H' hi s1 s2 y⟩
      (fun i H' => ∃ F2 acc accD zs, Ext F1 H1 F2 H' ∧ F2 D = none ∧ H' D = some (.lst acc) ∧ acc.length ≤ i ∧ RpL F2 acc accD ∧ lcGo (wipeE ρ vs) g ft fe (xs.drop i) = some zs ∧ ys = accD ++ zs)
      ⟨F1, [], [], ys, Ext.fresh x1.fh nD, x1.fh.noneL nD, upd_same, Nat.le_refl _, .nil, hy, rfl⟩ (fun i H' _ ⟨F2, _, _, _, x2, _⟩ => ⟨F2, x2.ff, x2.fh⟩) ?_ ?_
    · rintro i x H2 H3 hi ⟨F2, acc, accD, zs, x2, nF, hD, hl, ra, hz, hys⟩ hY
      obtain ⟨F3, d, x3, hd, rd⟩ := hY F2 x2.ff x2.fh
      have hdr : xs.drop i = d :: xs.drop (i + 1) := by
        rw [List.drop_eq_getElem_cons hi]
        have := List.getElem?_eq_getElem hi
        rw [hd] at this
        cases this; rfl
      rw [hdr] at hz
      obtain ⟨ρ1, hg, hcase⟩ := lcGo_cons hz
      have x13 := x2.trans x3
      have nF3 : F3 D = none := x3.stays nF hD
      have hD3 := x3.hh _ _ hD
      have ra3 := ra.mono x3.ff
      refine ⟨F3, wipeE ρ vs, d, ρ1, x3.fh, ((r.ext x1).ext x13).wipe vs, rd, hg, fun σ2 r2 agr => ⟨wipe_agr agr, ?_⟩⟩
      rcases hcase with ⟨ht, y, zs', hfe, hz', rfl⟩ | ⟨ht, hz'⟩
      · refine ⟨F3, ρ1, true, x3.fh, r2, ht, fun F4 H4 x4 => iteT ⟨F4, ρ1, y, x4.fh, r2.ext x4, hfe, fun w F5 H5 x5 rw5 => ?_⟩⟩
        have x35 := x4.trans x5
        have nF5 : F5 D = none := x35.stays nF3 hD3
        have hD5 := x35.hh _ _ hD3
        refine ⟨acc, hD5, by omega, F5, acc ++ [w], accD ++ [y], zs', ?_, nF5, upd_same, by simp; omega, (ra3.mono x35.ff).append (.cons rw5 .nil), hz', by rw [hys]; simp⟩
        have xx := x13.trans x35
        refine ⟨xx.ff, same_upd2 xx.fh nF5, fun b o e => ?_, xx.nw⟩
        rw [upd_ne (ne_of_none e nD)]
        exact xx.hh _ _ e
      · refine ⟨F3, ρ1, false, x3.fh, r2, ht, fun F4 H4 x4 => iteF ?_⟩
        exact ⟨F4, acc, accD, zs, x13.trans x4, x4.stays nF3 hD3, x4.hh _ _ hD3, by omega, ra3.mono x4.ff, hz', hys⟩
    · rintro H2 ⟨F2, acc, accD, zs, x2, nF, hD, hl, ra, hz, hys⟩
      rw [List.drop_length] at hz
      cases hz
      rw [List.append_nil] at hys
      subst hys
      exact k D F2 H2 (x1.trans x2) nF (x1.hh.free nD) ⟨acc, hD, ra⟩
  · cases q
theorem o_lc {ifs : List Expr} {scope : Scope} {own : List (Str × Nat)} {fi : DI} {g : DG} {ft : DT} {fe : DE} (hc : X.calm = true) (hN : X.N.Nodup) (hi : PI X tg iter (tI fi)) (ok : BlkOk X.N X.env.scope scope own)
    (hg : ∀ (s : Shared) (H : Hp) (C : Addr) (cl : List (Str × Addr)) (fp : List Addr), PG (X.blk s H scope (compEnvC scope cl C X.env) fp) tg (tG (own.map (·.2)) g))
    (ht : ∀ (s : Shared) (H : Hp) (C : Addr) (cl : List (Str × Addr)) (fp : List Addr), PTs (X.blk s H scope (compEnvC scope cl C X.env) fp) ifs (tT ft))
    (he : ∀ (s : Shared) (H : Hp) (C : Addr) (cl : List (Str × Addr)) (fp : List Addr), PE (X.blk s H scope (compEnvC scope cl C X.env) fp) a (tE fe))
    (hs : ∀ x, foldedSetIterable iter X.env x = pure x := by intro _; rfl) : PE X (.ListComp a [⟨tg, iter, ifs, 0⟩] scope pos) (tO (eLc fi (own.map (·.2)) g ft fe)) :=
  (pe_lc hc hN hi ok hg ht he hs).imp fun _ _ _ h => tLc_of h
theorem e_lc {ifs : List Expr} {scope : Scope} {own : List (Str × Nat)} {fi : DI} {g : DG} {ft : DT} {fe : DE} (hc : X.calm = true) (hN : X.N.Nodup) (hi : PI X tg iter (tI fi)) (ok : BlkOk X.N X.env.scope scope own)
    (hg : ∀ (s : Shared) (H : Hp) (C : Addr) (cl : List (Str × Addr)) (fp : List Addr), PG (X.blk s H scope (compEnvC scope cl C X.env) fp) tg (tG (own.map (·.2)) g))
    (ht : ∀ (s : Shared) (H : Hp) (C : Addr) (cl : List (Str × Addr)) (fp : List Addr), PTs (X.blk s H scope (compEnvC scope cl C X.env) fp) ifs (tT ft))
    (he : ∀ (s : Shared) (H : Hp) (C : Addr) (cl : List (Str × Addr)) (fp : List Addr), PE (X.blk s H scope (compEnvC scope cl C X.env) fp) a (tE fe))
    (hs : ∀ x, foldedSetIterable iter X.env x = pure x := by intro _; rfl) : PE X (.ListComp a [⟨tg, iter, ifs, 0⟩] scope pos) (tE (eLc fi (own.map (·.2)) g ft fe)) := frozen (o_lc hc hN hi ok hg ht he hs)
end
end Ea
end
section
set_option Elab.async false
set_option linter.all false
set_option maxRecDepth 100000
set_option maxHeartbeats 4000000
/-! EaF: statements, defs -/
namespace Ea
open PySem PySem.Spec L2
open PyProof.Rows hiding St

def Ads (H : Hp) (y : Option V) (s : Sl) (a : Addr) : Prop :=
  match s, y with
  | .o _, some (.ref p) => a = p
  | .oo _, some (.ref p) => a = p ∨ ∃ vs, H p = some (.lst vs) ∧ V.ref a ∈ vs
  | _, _ => False
theorem OwnL.mem {F H : Hp} {b : Addr} : ∀ {qs : List Addr} {zs : List PyData}, OwnL F H qs zs → b ∈ qs → F b = none ∧ ∃ x, Own F H b x
  | [], _, _, h => by cases h
  | c :: cs, [], o, _ => o.elim
  | c :: cs, z :: zs, ⟨o0, o1, o2⟩, h => by
    rcases List.mem_cons.mp h with e | h
    · subst e; exact ⟨o0, z, o1⟩
    · exact OwnL.mem o2 h
theorem OwnL.mono {F H F' H' : Hp} (s : Same F F') : ∀ {qs : List Addr} {zs : List PyData}, OwnL F H qs zs → (∀ b ∈ qs, (F b = none → F' b = none) ∧ ∀ o, H b = some o → H' b = some o) → OwnL F' H' qs zs
  | [], [], _, _ => trivial
  | [], _ :: _, o, _ => o.elim
  | c :: cs, [], o, _ => o.elim
  | c :: cs, z :: zs, ⟨o0, o1, o2⟩, h => ⟨(h c List.mem_cons_self).1 o0, o1.mono s (h c List.mem_cons_self).2, OwnL.mono s o2 fun b hb => h b (List.mem_cons_of_mem _ hb)⟩
structure StR (F0 H0 : Hp) (ρ : En) (F : Hp) (σ : St) (H : Hp) : Prop where
  env : EnvR F H σ ρ
  fh : Same F H
  ff : Same F0 F
  hh : Same H0 H
  nw : ∀ b o, F b = some o → F0 b = none → H0 b = none
  od : ∀ (i : Nat) (y : Option V) (s : Sl) (a : Addr), σ[i]? = some y → ρ[i]? = some s → Ads H y s a → H0 a = none
  dj : ∀ (i j : Nat) (y z : Option V) (s t : Sl) (a : Addr), i ≠ j → σ[i]? = some y → ρ[i]? = some s → σ[j]? = some z → ρ[j]? = some t → Ads H y s a → Ads H z t a → False
theorem Ads.back {F H F' H' : Hp} (x : Ext F H F' H') {y : Option V} {s : Sl} {a : Addr} (r : SlR F H y s) (h : Ads H' y s a) : Ads H y s a := by
  cases s with
  | no => exact h
  | d z => exact h
  | o z =>
    obtain ⟨p, e, _⟩ := r
    subst e
    exact h
  | oo zs =>
    obtain ⟨p, qs, e, n, hp, _⟩ := r
    subst e
    rcases h with h | ⟨vs, h1, h2⟩
    · exact .inl h
    · rw [x.hh _ _ hp] at h1; cases h1
      exact .inr ⟨_, hp, h2⟩
section
variable {F0 H0 F H F' H' : Hp} {ρ : En} {σ : St}
theorem StR.ext (h : StR F0 H0 ρ F σ H) (x : Ext F H F' H') : StR F0 H0 ρ F' σ H' where
  env := h.env.ext x
  fh := x.fh
  ff := h.ff.trans x.ff
  hh := h.hh.trans x.hh
  nw := fun b o e n => by
    cases q : F b with
    | none => exact h.hh.free (x.nw b o e q)
    | some u => exact h.nw b u q n
  od := fun i y s a e1 e2 ha => by
    obtain ⟨y', e1', r⟩ := h.env.get e2
    rw [e1] at e1'; cases e1'
    exact h.od i y s a e1 e2 (ha.back x r)
  dj := fun i j y z s t a ne e1 e2 e3 e4 h1 h2 => by
    obtain ⟨y', e1', r⟩ := h.env.get e2
    rw [e1] at e1'; cases e1'
    obtain ⟨z', e3', r'⟩ := h.env.get e4
    rw [e3] at e3'; cases e3'
    exact h.dj i j y z s t a ne e1 e2 e3 e4 (h1.back x r) (h2.back x r')
/-- the state behind the evaluation of an expression, as Ext over the def's entry -/
theorem StR.out (h : StR F0 H0 ρ F σ H) : Ext F0 H0 F H := ⟨h.ff, h.fh, h.hh, h.nw⟩
/-- slots agree but for pure ones -/
theorem StR.agr {vs : List Nat} {σ' : St} {ρ' : En} (h : StR F0 H0 ρ F σ H) (r : EnvR F H σ' ρ') (a : Agr vs σ σ' ρ ρ') : StR F0 H0 ρ' F σ' H where
  env := r
  fh := h.fh
  ff := h.ff
  hh := h.hh
  nw := h.nw
  od := fun i y s b e1 e2 ha => by
    by_cases hi : i ∈ vs
    · obtain ⟨d, rfl⟩ := a.is i s hi e2; exact ha.elim
    · rw [(a.out i hi).1] at e1; rw [(a.out i hi).2] at e2
      exact h.od i y s b e1 e2 ha
  dj := fun i j y z s t b ne e1 e2 e3 e4 h1 h2 => by
    by_cases hi : i ∈ vs
    · obtain ⟨d, rfl⟩ := a.is i s hi e2; exact h1.elim
    · by_cases hj : j ∈ vs
      · obtain ⟨d, rfl⟩ := a.is j t hj e4; exact h2.elim
      · rw [(a.out i hi).1] at e1; rw [(a.out i hi).2] at e2
        rw [(a.out j hj).1] at e3; rw [(a.out j hj).2] at e4
        exact h.dj i j y z s t b ne e1 e2 e3 e4 h1 h2
theorem StR.start (s : Same F H) (r : EnvR F H σ ρ) (pure_ : ∀ (i : Nat) (s : Sl), ρ[i]? = some s → (∃ d, s = .d d) ∨ s = .no) : StR F H ρ F σ H where
  env := r
  fh := s
  ff := Same.refl _
  hh := Same.refl _
  nw := fun b o e n => by rw [n] at e; cases e
  od := fun i y s a _ e2 ha => by rcases pure_ i s e2 with ⟨d, rfl⟩ | rfl <;> exact ha.elim
  dj := fun i j y z s t a _ _ e2 _ _ h1 _ => by rcases pure_ i s e2 with ⟨d, rfl⟩ | rfl <;> exact h1.elim
/-- a slot gets a pure datum -/
theorem StR.setD (h : StR F0 H0 ρ F σ H) {i : Nat} {v : V} {d : PyData} (r : Rp F v d) : StR F0 H0 (ρ.set i (.d d)) F (σ.set i (some v)) H :=
  h.agr (vs := [i]) (h.env.set ⟨v, rfl, r⟩) ⟨by simp, by simp, fun j hj => by
    have hj : i ≠ j := fun z => hj (by simp [z])
    exact ⟨List.getElem?_set_ne hj, List.getElem?_set_ne hj⟩, fun j s hj e => by
    have z : j = i := by simpa using hj
    subst z
    by_cases hl : j < ρ.length
    · rw [List.getElem?_set_self hl] at e; cases e; exact ⟨d, rfl⟩
    · rw [List.getElem?_eq_none (by simpa using hl)] at e; cases e⟩
theorem StR.rebase (h : StR F0 H0 ρ F σ H) : StR F H0 ρ F σ H := ⟨h.env, h.fh, Same.refl _, h.hh, fun b o e n => (by rw [n] at e; cases e), h.od, h.dj⟩
theorem StR.back {ρ' : En} {σ' : St} (h : StR F0 H0 ρ F σ H) (k : StR F H0 ρ' F' σ' H') : StR F0 H0 ρ' F' σ' H' := ⟨k.env, k.fh, h.ff.trans k.ff, k.hh, fun b o e n => (by
  cases q : F b with
  | none => exact k.nw b o e q
  | some u => exact h.nw b u q n), k.od, k.dj⟩
theorem set_get {α : Type} {l : List α} {i j : Nat} {x y : α} (h : (l.set i x)[j]? = some y) : (j = i ∧ y = x ∧ i < l.length) ∨ (j ≠ i ∧ l[j]? = some y) := by
  by_cases hj : i = j
  · subst hj
    by_cases hl : i < l.length
    · rw [List.getElem?_set_self hl] at h; cases h; exact .inl ⟨rfl, rfl, hl⟩
    · rw [List.getElem?_eq_none (by simpa using hl)] at h; cases h
  · rw [List.getElem?_set_ne hj] at h
    exact .inr ⟨Ne.symm hj, h⟩
/-- a slot gets a fresh object of its own -/
theorem StR.setO (h : StR F0 H0 ρ F σ H) (x : Ext F H F' H') {i : Nat} {p : Addr} {d : PyData} (nF : F' p = none) (nH : H p = none) (o : Own F' H' p d) : StR F0 H0 (ρ.set i (.o d)) F' (σ.set i (some (.ref p))) H' := by
  have h' := h.ext x
  have old : ∀ j y s a, σ[j]? = some y → ρ[j]? = some s → Ads H' y s a → a ≠ p := fun j y s a e1 e2 ha z => by
    subst z
    obtain ⟨y', e1', r⟩ := h.env.get e2
    rw [e1] at e1'; cases e1'
    have hb := ha.back x r
    cases s with
    | no => exact hb
    | d _ => exact hb
    | o z =>
      obtain ⟨q, e, _, ow⟩ := r
      subst e
      have e : a = q := hb
      subst e
      obtain ⟨u, hu⟩ := ow.there
      rw [nH] at hu; cases hu
    | oo zs =>
      obtain ⟨q, qs, e, n, hp, ow, _⟩ := r
      subst e
      rcases hb with e | ⟨vs, h1, h2⟩
      · subst e; rw [nH] at hp; cases hp
      · rw [hp] at h1; cases h1
        obtain ⟨b, hbm, e⟩ := List.mem_map.mp h2
        cases e
        obtain ⟨_, x, ox⟩ := ow.mem hbm
        obtain ⟨u, hu⟩ := ox.there
        rw [nH] at hu; cases hu
  refine ⟨h'.env.set ⟨p, rfl, nF, o⟩, h'.fh, h'.ff, h'.hh, h'.nw, fun j y s a e1 e2 ha => ?_, fun j k y z s t a ne e1 e2 e3 e4 h1 h2 => ?_⟩
  · rcases set_get e2 with ⟨rfl, rfl, _⟩ | ⟨nj, e2⟩
    · rcases set_get e1 with ⟨_, rfl, _⟩ | ⟨z, _⟩
      · have e : a = p := ha
        subst e
        exact h.hh.free nH
      · exact absurd rfl z
    · rcases set_get e1 with ⟨z, _⟩ | ⟨_, e1⟩
      · exact absurd z nj
      · exact h'.od j y s a e1 e2 ha
  · rcases set_get e2 with ⟨rfl, rfl, _⟩ | ⟨nj, e2⟩
    · rcases set_get e1 with ⟨_, rfl, _⟩ | ⟨z, _⟩
      · have e : a = p := h1
        rcases set_get e4 with ⟨rfl, _, _⟩ | ⟨_, e4⟩
        · exact ne rfl
        · rcases set_get e3 with ⟨z, _⟩ | ⟨_, e3⟩
          · exact ne z.symm
          · exact old k z t a e3 e4 h2 e
      · exact absurd rfl z
    · rcases set_get e1 with ⟨z, _⟩ | ⟨_, e1⟩
      · exact absurd z nj
      · have f1 := e1
        have f2 := e2
        rcases set_get e4 with ⟨rfl, rfl, _⟩ | ⟨nk, e4⟩
        · rcases set_get e3 with ⟨_, rfl, _⟩ | ⟨z, _⟩
          · have e : a = p := h2
            exact old j y s a f1 f2 h1 e
          · exact absurd rfl z
        · rcases set_get e3 with ⟨z, _⟩ | ⟨_, e3⟩
          · exact absurd z nk
          · exact h'.dj j k y z s t a ne e1 e2 e3 e4 h1 h2
/-- an address that no slot owns stands anywhere -/
theorem SlR.upd_out {y : Option V} {s : Sl} {p : Addr} {o : HO} (r : SlR F H y s) (n : ¬ Ads H y s p) : SlR F (upd H p o) y s := by
  cases s with
  | no => trivial
  | d z => exact r
  | o z =>
    obtain ⟨q, e, nq, ow⟩ := r
    subst e
    have hq : q ≠ p := fun z => n (show p = q from z.symm)
    exact ⟨q, rfl, nq, ow.mono (Same.refl _) fun o e => by rw [upd_ne hq]; exact e⟩
  | oo zs =>
    obtain ⟨q, qs, e, nq, hp, ow, nd⟩ := r
    subst e
    have hq : q ≠ p := fun z => n (.inl z.symm)
    have hqs : ∀ b ∈ qs, b ≠ p := fun b hb z => n (.inr ⟨_, hp, by rw [← z]; exact List.mem_map_of_mem hb⟩)
    exact ⟨q, qs, rfl, nq, by rw [upd_ne hq]; exact hp, ow.mono (Same.refl _) fun b hb => ⟨fun z => z, fun o e => by rw [upd_ne (hqs b hb)]; exact e⟩, nd⟩
theorem Ads.upd_out {y : Option V} {s : Sl} {p a : Addr} {o : HO} (r : SlR F H y s) (n : ¬ Ads H y s p) (h : Ads (upd H p o) y s a) : Ads H y s a := by
  cases s with
  | no => exact h
  | d z => exact h
  | o z =>
    obtain ⟨q, e, _⟩ := r
    subst e
    exact h
  | oo zs =>
    obtain ⟨q, qs, e, nq, hp, _⟩ := r
    subst e
    have hq : q ≠ p := fun z => n (.inl z.symm)
    rcases h with h | ⟨vs, h1, h2⟩
    · exact .inl h
    · rw [upd_ne hq] at h1
      exact .inr ⟨vs, h1, h2⟩
/-- an owned object is written -/
theorem StR.write (h : StR F0 H0 ρ F σ H) {i : Nat} {p : Addr} {d d' : PyData} {o : HO} (hi : ρ[i]? = some (.o d)) (hp : σ[i]? = some (some (.ref p))) (ow : Own F (upd H p o) p d') : StR F0 H0 (ρ.set i (.o d')) F σ (upd H p o) := by
  obtain ⟨y, hy, q, e, nF, _⟩ := h.env.get hi
  rw [hp] at hy; cases hy; cases e
  have hil : i < ρ.length := (List.getElem?_eq_some_iff.mp hi).1
  have hn0 : H0 p = none := h.od i _ _ p hp hi rfl
  have out : ∀ j y s, j ≠ i → σ[j]? = some y → ρ[j]? = some s → ¬ Ads H y s p := fun j y s nj e1 e2 ha => h.dj j i y _ s _ p nj e1 e2 hp hi ha rfl
  refine ⟨⟨by rw [List.length_set]; exact h.env.len, fun {j s} e => ?_⟩, same_upd2 h.fh nF, h.ff, same_upd2 h.hh hn0, h.nw, fun j y s a e1 e2 ha => ?_, fun j k y z s t a ne e1 e2 e3 e4 h1 h2 => ?_⟩
  · rcases set_get e with ⟨rfl, rfl, _⟩ | ⟨nj, e2⟩
    · exact ⟨_, hp, p, rfl, nF, ow⟩
    · obtain ⟨y, e1, r⟩ := h.env.get e2
      exact ⟨y, e1, r.upd_out (out j y s nj e1 e2)⟩
  · rcases set_get e2 with ⟨rfl, rfl, _⟩ | ⟨nj, e2⟩
    · rw [hp] at e1; cases e1
      have e : a = p := ha
      subst e; exact hn0
    · obtain ⟨y', e1', r⟩ := h.env.get e2
      rw [e1] at e1'; cases e1'
      exact h.od j y s a e1 e2 (ha.upd_out r (out j y s nj e1 e2))
  · rcases set_get e2 with ⟨rfl, rfl, _⟩ | ⟨nj, e2⟩
    · rw [hp] at e1; cases e1
      have e : a = p := h1
      subst e
      rcases set_get e4 with ⟨rfl, _, _⟩ | ⟨nk, e4⟩
      · exact ne rfl
      · obtain ⟨z', e3', r⟩ := h.env.get e4
        rw [e3] at e3'; cases e3'
        exact out k z t nk e3 e4 (h2.upd_out r (out k z t nk e3 e4))
    · obtain ⟨y', e1', r⟩ := h.env.get e2
      rw [e1] at e1'; cases e1'
      have h1' := h1.upd_out r (out j y s nj e1 e2)
      have f2 := e2
      rcases set_get e4 with ⟨rfl, rfl, _⟩ | ⟨nk, e4⟩
      · rw [hp] at e3; cases e3
        have e : a = p := h2
        subst e
        exact out j y s nj e1 f2 h1'
      · obtain ⟨z', e3', r'⟩ := h.env.get e4
        rw [e3] at e3'; cases e3'
        exact h.dj j k y z s t a ne e1 e2 e3 e4 h1' (h2.upd_out r' (out k z t nk e3 e4))
/-- slots in which objects froze -/
theorem StR.frzAny (h : StR F0 H0 ρ F σ H) {i : Nat} {y : Option V} {s : Sl} {d : PyData} {F' : Hp} (hi : ρ[i]? = some s) (hy : σ[i]? = some y) (hF : ∀ b, F' b = F b ∨ (Ads H y s b ∧ F' b = H b)) (ff : Same F F') (rd : SlR F' H y (.d d)) : StR F0 H0 (ρ.set i (.d d)) F' σ H := by
  have hil : i < ρ.length := (List.getElem?_eq_some_iff.mp hi).1
  have fh : Same F' H := fun b o e => by
    rcases hF b with z | ⟨_, z⟩
    · rw [z] at e; exact h.fh _ _ e
    · rw [z] at e; exact e
  have stay : ∀ j z t, j ≠ i → σ[j]? = some z → ρ[j]? = some t → ∀ b, Ads H z t b → F b = none → F' b = none := fun j z t nj e1 e2 b hb nb => by
    rcases hF b with q | ⟨q, _⟩
    · rw [q]; exact nb
    · exact (h.dj j i z y t s b nj e1 e2 hy hi hb q).elim
  refine ⟨⟨by rw [List.length_set]; exact h.env.len, fun {j t} e => ?_⟩, fh, h.ff.trans ff, h.hh, fun b o e n => ?_, fun j z t a e1 e2 ha => ?_, fun j k z z' t t' a ne e1 e2 e3 e4 h1 h2 => ?_⟩
  · rcases set_get e with ⟨rfl, rfl, _⟩ | ⟨nj, e2⟩
    · exact ⟨y, hy, rd⟩
    · obtain ⟨z, e1, r⟩ := h.env.get e2
      refine ⟨z, e1, ?_⟩
      cases t with
      | no => trivial
      | d w => obtain ⟨v, ev, rv⟩ := r; exact ⟨v, ev, rv.mono ff⟩
      | o w =>
        obtain ⟨q, ev, nq, ow⟩ := r
        subst ev
        exact ⟨q, rfl, stay j _ _ nj e1 e2 q rfl nq, ow.mono ff fun _ e => e⟩
      | oo ws =>
        obtain ⟨q, qs, ev, nq, hp, ow, nd⟩ := r
        subst ev
        exact ⟨q, qs, rfl, stay j _ _ nj e1 e2 q (.inl rfl) nq, hp, ow.mono ff fun b hb => ⟨stay j _ _ nj e1 e2 b (.inr ⟨_, hp, List.mem_map_of_mem hb⟩), fun _ e => e⟩, nd⟩
  · rcases hF b with z | ⟨ha, z⟩
    · rw [z] at e; exact h.nw b o e n
    · exact h.od i y s b hy hi ha
  · rcases set_get e2 with ⟨rfl, rfl, _⟩ | ⟨nj, e2⟩
    · exact ha.elim
    · exact h.od j z t a e1 e2 ha
  · rcases set_get e2 with ⟨rfl, rfl, _⟩ | ⟨nj, e2⟩
    · exact h1.elim
    · rcases set_get e4 with ⟨rfl, rfl, _⟩ | ⟨nk, e4⟩
      · exact h2.elim
      · exact h.dj j k z z' t t' a ne e1 e2 e3 e4 h1 h2
theorem StR.frz (h : StR F0 H0 ρ F σ H) {i : Nat} {d : PyData} (hi : ρ[i]? = some (.o d)) : ∃ F', StR F0 H0 (ρ.set i (.d d)) F' σ H := by
  obtain ⟨y, hy, q, e, nF, ow⟩ := h.env.get hi
  subst e
  obtain ⟨u, hu⟩ := ow.there
  refine ⟨upd F q u, h.frzAny hi hy (fun b => ?_) (same_upd nF) ⟨_, rfl, ow.rp (same_upd nF) fun o e => by rw [hu] at e; cases e; exact upd_same⟩⟩
  by_cases hb : b = q
  · subst hb; exact .inr ⟨rfl, by rw [upd_same, hu]⟩
  · exact .inl (upd_ne hb)
end

/-! ### the judgements of statements -/
inductive Out where
  | nx (ρ : En)
  | rt (d : PyData)
abbrev DS := En → Option Out
def tS (f : DS) : TS := fun D σ H => ∃ F0 H0 F ρ out, StR F0 H0 ρ F σ H ∧ f ρ = some out ∧
  (∀ ρ', out = .nx ρ' → ∀ F' σ' H', StR F0 H0 ρ' F' σ' H' → D.nx σ' H') ∧ (∀ d, out = .rt d → ∀ v F' H', Ext F0 H0 F' H' → Rp F' v d → D.rt v H')
section
variable {X : Cx} {e a b c tg iter : Expr} {st : Stmt} {sts rest : List Stmt} {pos : Pos}
theorem _root_.L2.PS.imp {t t' : TS} (h : PS X st t) (k : ∀ D σ H, t' D σ H → t D σ H) : PS X st t' := ⟨fun pins s σ H D I q => h.run pins s σ H D I (k D σ H q)⟩
theorem _root_.L2.PSs.imp {t t' : TS} (h : PSs X sts t) (k : ∀ D σ H, t' D σ H → t D σ H) : PSs X sts t' := ⟨fun pins s σ H D I q => h.run pins s σ H D I (k D σ H q)⟩
def sSeq (f g : DS) : DS := fun ρ => match f ρ with | some (.nx ρ') => g ρ' | some (.rt d) => some (.rt d) | none => none
def sNil : DS := fun ρ => some (.nx ρ)
theorem ss_nil : PSs X [] (tS sNil) := pss_nil.imp fun D σ H ⟨F0, H0, F, ρ, out, s, q, k, _⟩ => by cases q; exact k ρ rfl F σ H s
theorem ss_cons {f g : DS} (h1 : PS X st (tS f)) (h2 : PSs X rest (tS g)) : PSs X (st :: rest) (tS (sSeq f g)) :=
  (pss_cons h1 h2).imp fun D σ H ⟨F0, H0, F, ρ, out, s, q, k1, k2⟩ => by
    unfold sSeq at q
    split at q
    · rename_i ρ' hf
      refine ⟨F0, H0, F, ρ, _, s, hf, fun ρ2 e F' σ' H' s' => ?_, fun d e => by cases e⟩
      cases e
      exact ⟨F0, H0, F', ρ', out, s', q, k1, k2⟩
    · rename_i d hf
      cases q
      exact ⟨F0, H0, F, ρ, _, s, hf, (fun ρ2 e => nomatch e), k2⟩
    · cases q
theorem ss_one {f : DS} (h : PS X st (tS f)) : PSs X [st] (tS f) := pss_one h
theorem s_never : PS X st (tS fun _ => none) := ps_never.imp fun D σ H ⟨F0, H0, F, ρ, out, s, q, _⟩ => by cases q
theorem ss_never : PSs X sts (tS fun _ => none) := pss_never.imp fun D σ H ⟨F0, H0, F, ρ, out, s, q, _⟩ => by cases q
def sNo : DS := fun _ => none
/-- freezing ahead of a statement -/
def sFrz (i : Nat) (f : DS) : DS := fun ρ => match ρ[i]? with | some (.o d) => f (ρ.set i (.d d)) | _ => none
theorem ss_frz {i : Nat} {f : DS} (h : PSs X sts (tS f)) : PSs X sts (tS (sFrz i f)) := h.imp fun D σ H ⟨F0, H0, F, ρ, out, s, q, k⟩ => by
  unfold sFrz at q
  split at q
  · rename_i d hd
    obtain ⟨F', s'⟩ := s.frz hd
    exact ⟨F0, H0, F', _, out, s', q, k⟩
  · cases q
/-- return e -/
def sRet (f : DE) : DS := fun ρ => (f ρ).map .rt
theorem s_ret {f : DE} (h : PE X e (tE f)) : PS X (.Return (some e) pos) (tS (sRet f)) := (ps_ret h).imp fun D σ H ⟨F0, H0, F, ρ, out, s, q, _, k⟩ => by
  obtain ⟨d, hd, e⟩ := Option.map_eq_some_iff.mp q
  subst e
  exact ⟨F, ρ, d, s.fh, s.env, hd, fun v F' H' x rv => k d rfl v F' H' (s.out.trans x) rv⟩
/-- x = e -/
def sSet (i : Nat) (f : DE) : DS := fun ρ => (f ρ).map fun d => .nx (ρ.set i (.d d))
theorem s_set {i : Nat} {x : Str} {pos' : Pos} {f : DE} (hN : X.N.Nodup) (hi : X.N[i]? = some x) (hx : Loc X.env.scope x) (he : PE X e (tE f)) (hs : swapsWith e (some (.Name x pos')) pos.line X.env = pure false := by rfl) (hf : X.fn x = true ∨ X.env.scope.names.lookup x = some .local := by first | exact .inl rfl | exact .inr rfl | assumption) :
    PS X (.Assign [.Name x pos'] e pos) (tS (sSet i f)) := (ps_set hN hi hx he hs hf).imp fun D σ H ⟨F0, H0, F, ρ, out, s, q, k, _⟩ => by
  obtain ⟨d, hd, e⟩ := Option.map_eq_some_iff.mp q
  subst e
  exact ⟨F, ρ, d, s.fh, s.env, hd, fun v F' H' x rv => k _ rfl F' _ H' ((s.ext x).setD rv)⟩
/-- x = a fresh object -/
def sSetO (i : Nat) (f : DE) : DS := fun ρ => (f ρ).map fun d => .nx (ρ.set i (.o d))
theorem s_setO {i : Nat} {x : Str} {pos' : Pos} {f : DE} (hN : X.N.Nodup) (hi : X.N[i]? = some x) (hx : Loc X.env.scope x) (he : PE X e (tO f)) (hs : swapsWith e (some (.Name x pos')) pos.line X.env = pure false := by rfl) (hf : X.fn x = true ∨ X.env.scope.names.lookup x = some .local := by first | exact .inl rfl | exact .inr rfl | assumption) :
    PS X (.Assign [.Name x pos'] e pos) (tS (sSetO i f)) := (ps_set hN hi hx he hs hf).imp fun D σ H ⟨F0, H0, F, ρ, out, s, q, k, _⟩ => by
  obtain ⟨d, hd, e⟩ := Option.map_eq_some_iff.mp q
  subst e
  exact ⟨F, ρ, d, s.fh, s.env, hd, fun p F' H' x n m o => k _ rfl F' _ H' (s.setO x n m o)⟩
/-- x = [.. for ..], stored within the comprehension -/
theorem s_setLc {i : Nat} {y : Str} {py : Pos} {elt : Expr} {ifs : List Expr} {scope : Scope} {own : List (Str × Nat)} {spos : Pos} {fi : DI} {g : DG} {ft : DT} {fe : DE} (hc : X.calm = true) (hN : X.N.Nodup) (hy : X.N[i]? = some y) (hyl : X.env.scope.names.lookup y = some .local)
    (hsw : swapsWith (.ListComp elt [⟨tg, iter, ifs, 0⟩] scope pos) (some (.Name y py)) spos.line X.env = pure true) (hi : PI X tg iter (tI fi)) (ok : BlkOk X.N X.env.scope scope own)
    (hg : ∀ (s : Shared) (H : Hp) (C : Addr) (cl : List (Str × Addr)) (fp : List Addr), PG (X.blk s H scope (compEnvC scope cl C X.env) fp) tg (tG (own.map (·.2)) g))
    (ht : ∀ (s : Shared) (H : Hp) (C : Addr) (cl : List (Str × Addr)) (fp : List Addr), PTs (X.blk s H scope (compEnvC scope cl C X.env) fp) ifs (tT ft))
    (he : ∀ (s : Shared) (H : Hp) (C : Addr) (cl : List (Str × Addr)) (fp : List Addr), PE (X.blk s H scope (compEnvC scope cl C X.env) fp) elt (tE fe))
    (hs : ∀ x, foldedSetIterable iter X.env x = pure x := by intro _; rfl) : PS X (.Assign [.Name y py] (.ListComp elt [⟨tg, iter, ifs, 0⟩] scope pos) spos) (tS (sSetO i (eLc fi (own.map (·.2)) g ft fe))) :=
  (ps_setLc hc hN hy hyl hsw hi ok hg ht he hs).imp fun D σ H ⟨F0, H0, F, ρ, out, s, q, k, _⟩ => by
    obtain ⟨d, hd, e⟩ := Option.map_eq_some_iff.mp q
    subst e
    show tLc _ _ _ _ _ σ H _
    exact tLc_of ⟨F, ρ, d, s.fh, s.env, hd, fun p F' H' x n m o => k _ rfl F' _ H' (s.setO x n m o)⟩
/-- targets of any kind, a pure datum -/
def sAsg (f : DE) (g : DG) : DS := fun ρ => (f ρ).bind fun d => (g d ρ).map .nx
theorem s_asg {vs : List Nat} {f : DE} {g : DG} (he : PE X e (tE f)) (hg : PG X tg (tG vs g)) (hs : swapsWithSole [tg] e pos.line X.env = pure false := by rfl) (hw : swappedStores [tg] e X.env = pure none := by rfl)
    (h1 : (assignEach [tg] X.env).map (·.2) = [assign tg X.env] := by rfl) : PS X (.Assign [tg] e pos) (tS (sAsg f g)) := (ps_asg he hg hs hw h1).imp fun D σ H ⟨F0, H0, F, ρ, out, s, q, k, _⟩ => by
  obtain ⟨d, hd, q⟩ := Option.bind_eq_some_iff.mp q
  obtain ⟨ρ', hg, q⟩ := Option.map_eq_some_iff.mp q
  subst q
  refine ⟨F, ρ, d, s.fh, s.env, hd, fun v F' H' x rv => ⟨F', ρ, d, ρ', x.fh, s.env.ext x, rv, hg, fun σ' r a => ?_⟩⟩
  exact k ρ' rfl F' σ' H' ((s.ext x).agr r a)
/-- if -/
def sIf (t : DT) (f g : DS) : DS := fun ρ => match t ρ with | some true => f ρ | some false => g ρ | none => none
theorem s_if {t : DT} {f g : DS} {a b : List Stmt} (hc : PT X c (tT t)) (ha : PSs X a (tS f)) (hb : PSs X b (tS g)) : PS X (.If c a b pos) (tS (sIf t f g)) := (ps_if hc ha hb).imp fun D σ H ⟨F0, H0, F, ρ, out, s, q, k⟩ => by
  unfold sIf at q
  split at q
  · rename_i h
    exact ⟨F, ρ, true, s.fh, s.env, h, fun F' H' x => iteT ⟨F0, H0, F', ρ, out, s.ext x, q, k⟩⟩
  · rename_i h
    exact ⟨F, ρ, false, s.fh, s.env, h, fun F' H' x => iteF ⟨F0, H0, F', ρ, out, s.ext x, q, k⟩⟩
  · cases q
/-- for, a body that always goes on -/
def forGo (g : DG) (fb : DS) : List PyData → En → Option En
  | [], ρ => some ρ
  | x :: r, ρ => match g x ρ with
    | none => none
    | some ρ1 => match fb ρ1 with
      | some (.nx ρ2) => forGo g fb r ρ2
      | _ => none
def sFor (fi : DI) (g : DG) (fb : DS) : DS := fun ρ => (fi ρ).bind fun xs => (forGo g fb xs ρ).map .nx
theorem s_for {body : List Stmt} {vs : List Nat} {fi : DI} {g : DG} {fb : DS} (hp : PassesOwn (model X.prog X.w) X.A X.env X.xe) (hc : X.calm = true) (hi : PI X tg iter (tI fi)) (hg : PG X tg (tG vs g)) (hb : PSs X body (tS fb))
    (hs : ∀ x, foldedSetIterable iter X.env x = pure x := by intro _; rfl) : PS X (.For tg iter body [] pos) (tS (sFor fi g fb)) := (ps_for hp hc hi hg hb hs).imp fun D σ H ⟨F0, H0, F, ρ, out, s, q, k, _⟩ => by
  obtain ⟨xs, hx, q⟩ := Option.bind_eq_some_iff.mp q
  obtain ⟨ρ', hg, q⟩ := Option.map_eq_some_iff.mp q
  subst q
  refine ⟨F, ρ, xs, s.fh, s.env, hx, fun J F1 H1 x1 W => ?_⟩
  refine for_it (J := J) (n := xs.length) (G := fun H => ∃ F2, Same F1 F2 ∧ Same F2 H) (Y := fun i H x H' => ∀ F2, Same F1 F2 → Same F2 H → ∃ F' d, Ext F2 H F' H' ∧ xs[i]? = some d ∧ Rp F' x d)
    ⟨fun i H hi ⟨F2, s1, s2⟩ => W.goes i H hi (s1.trans s2), fun H ⟨F2, s1, s2⟩ => W.stops H (s1.trans s2), fun i H x H' hi _ y F2 s1 s2 => W.yields i F2 H x H' hi s1 s2 y⟩
    (fun i σ' H' => ∃ F2 ρ2, StR F0 H0 ρ2 F2 σ' H' ∧ Same F1 F2 ∧ forGo g fb (xs.drop i) ρ2 = some ρ')
    ⟨F1, ρ, s.ext x1, Same.refl _, hg⟩ (fun i σ' H' _ ⟨F2, ρ2, s2, s1, _⟩ => ⟨F2, s1, s2.fh⟩) ?_ ?_
  · rintro i x σ2 H2 H3 hi ⟨F2, ρ2, s2, s12, hgo⟩ hY
    obtain ⟨F3, d, x3, hd, rd⟩ := hY F2 s12 s2.fh
    have hdr : xs.drop i = d :: xs.drop (i + 1) := by
      rw [List.drop_eq_getElem_cons hi]
      have := List.getElem?_eq_getElem hi
      rw [hd] at this
      cases this; rfl
    rw [hdr] at hgo
    unfold forGo at hgo
    split at hgo
    · cases hgo
    · rename_i ρ3 h3
      split at hgo
      · rename_i ρ4 h4
        have s3 := s2.ext x3
        refine ⟨F3, ρ2, d, ρ3, x3.fh, s3.env, rd, h3, fun σ4 r4 agr => ?_⟩
        have s3' := s3.agr r4 agr
        refine ⟨F3, H0, F3, ρ3, _, s3'.rebase, h4, fun ρ5 e F5 σ5 H5 s5 => ?_, fun d e => by cases e⟩
        cases e
        exact ⟨F5, ρ4, s3'.back s5, s12.trans (x3.ff.trans s5.ff), hgo⟩
      · cases hgo
  · rintro σ2 H2 ⟨F2, ρ2, s2, _, hgo⟩
    rw [List.drop_length] at hgo
    cases hgo
    exact k ρ' rfl F2 σ2 H2 s2
end
end Ea
end
section
set_option Elab.async false
set_option linter.all false
set_option maxRecDepth 100000
set_option maxHeartbeats 4000000
/-! EaR: t[::-1] of a tuple; d.update(e) of two dicts -/
namespace EaHT
open PySem PyProof.Rows HT
section
variable {prog : Program} {w : World} {A : Around} {E : Value → Shared → Prop} {s : Shared}
theorem sliceApplied_rev {sl : Addr} {vl vu vs : Value} {n : Nat} {Q : Int × Int × Nat → Shared → Prop} (hs : s.heap.IsSliceOf sl vl vu vs) (pl : IsPart vl none) (pu : IsPart vu none) (ps : IsPart vs (some (-1)))
    (h : Q ((n : Int) - 1, -1, n) s) : wpAny (model prog w) A (Builtin.Slice.sliceApplied (.ref sl) (pure (n : Int))) Q E s := by
  obtain ⟨os, hos, hcs, hds⟩ := id hs
  unfold Builtin.Slice.sliceApplied Builtin.Slice.sliceFields
  refine wpAny_bind (wpAny_bind (wpAny_field hos hds (x := vl) rfl (wpAny_bind (wpAny_field hos hds (x := vu) rfl (wpAny_bind (wpAny_field hos hds (x := vs) rfl (wpAny_pure ?_)))))))
  refine wpAny_bind (slicePart_ ps ?_)
  show wpAny _ _ (if ((-1 : Int) == 0) = true then _ else _) _ _ s
  rw [if_neg (by decide)]
  refine wpAny_bind (slicePart_ pl (wpAny_bind (slicePart_ pu (wpAny_bind (wpAny_pure ?_)))))
  show wpAny _ _ (pure ((n : Int) - 1, (-1 : Int), Builtin.Slice.slicePlaces ((n : Int) - 1) (-1) (-1))) _ _ s
  have e : Builtin.Slice.slicePlaces ((n : Int) - 1) (-1) (-1) = n := by
    unfold Builtin.Slice.slicePlaces
    rw [if_neg (by decide)]
    by_cases hn : (n : Int) - 1 > -1
    · rw [if_pos hn]
      rw [show (-(-1 : Int)) = 1 from rfl, Int.ediv_one]
      omega
    · rw [if_neg hn]; omega
  rw [e]
  exact wpAny_pure h
theorem pick_rev (xs : List Value) : ((List.range xs.length).filterMap fun (k : Nat) => xs.toArray[(((xs.length : Nat) : Int) - 1 + (k : Int) * (-1)).toNat]?) = xs.reverse := by
  have h : ∀ (m : Nat), m ≤ xs.length → ((List.range m).filterMap fun (k : Nat) => xs.toArray[(((xs.length : Nat) : Int) - 1 + (k : Int) * (-1)).toNat]?) = xs.reverse.take m := by
    intro m
    induction m with
    | zero => intro _; rfl
    | succ m ih =>
      intro hm
      rw [List.range_succ, List.filterMap_append, ih (by omega), List.take_add_one]
      congr 1
      have e : (((xs.length : Nat) : Int) - 1 + (m : Int) * (-1)).toNat = xs.length - 1 - m := by omega
      have hl : xs.length - 1 - m < xs.length := by omega
      rw [List.getElem?_reverse (by omega)]
      simp only [List.filterMap_cons, List.filterMap_nil, e, List.getElem?_toArray, List.getElem?_eq_getElem hl, Option.toList]
  rw [h xs.length (Nat.le_refl _), List.take_of_length_le (by simp)]
theorem getItem_tuple_rev {t sl : Addr} {items : List Value} {vl vu vs : Value} {Q : Value → Shared → Prop} (ht : IsTup s.heap t items.toArray) (hs : s.heap.IsSliceOf sl vl vu vs) (pl : IsPart vl none) (pu : IsPart vu none) (ps : IsPart vs (some (-1)))
    (h : Q (.ref s.heap.objs.size) { s with heap := s.heap.push { cls := .type "tuple", data := .seq items.reverse.toArray } })
    (hsz : items.length ≤ sizeLine) : wpAny (model prog w) A (getItem (.ref t) (.ref sl)) Q E s := by
  have htake : sizeOk (.seq items.reverse.toArray) := by
    show items.reverse.toArray.size ≤ sizeLine
    rw [List.size_toArray, List.length_reverse]; exact hsz
  obtain ⟨os, hos, hcs, hds⟩ := id hs
  have hTs : s.TypeIs (.ref sl) "slice" := ⟨os, hos, hcs⟩
  unfold getItem
  try with_reducible refine wpAny_holding ?_
  first | refine wpAny_bind (wpAny_pure ?_) | skip
  refine wpAny_bind (wpAny_sequenceKey ht.typeIs (by decide) ?_)
  refine wpAny_bind (wpAny_callSpecial?_slot (name := Str.ofString "__getitem__") ht.typeIs PyProof.Rows.slot_tuple_getitem
    (wpAny_call_entry PyProof.Rows.slot_tuple_getitem ht.typeIs entry_tuple_getitem ?_ (args_tuple_getitem _ _)))
  show wpAny _ _ (Builtin.Tuple.tupleItemsOf (.ref t) >>= _) _ _ s
  refine wpAny_bind (tupleItemsOf_ ht ?_)
  refine wpAny_bind (wpAny_typeOf hTs ?_)
  rw [if_pos (by decide)]
  rw [List.size_toArray]
  refine wpAny_bind (sliceApplied_rev hs pl pu ps ?_)
  have hno : ¬ ((((items.length : Nat) : Int) - 1 == 0 && (-1 : Int) == 1 && items.length == items.length) = true) := by
    intro q
    rw [Bool.and_eq_true, Bool.and_eq_true] at q
    exact absurd q.1.2 (by decide)
  show wpAny _ _ (if ((((items.length : Nat) : Int) - 1 == 0 && (-1 : Int) == 1 && items.length == items.length) = true) then _ else _) _ _ s
  rw [if_neg hno, pick_rev]
  first
    | exact wpAny_bind (m := Builtin.Tuple.tupleExact _) (wpAny_newObj_type (wpAny_pure ⟨_, rfl, wpAny_pure h⟩) htake)
    | exact wpAny_bind (m := Builtin.Tuple.tupleExact _) (wpAny_newObj_type (wpAny_bind (wpAny_pure (wpAny_pure ⟨_, rfl, wpAny_pure h⟩))) htake)
    | exact wpAny_bind (wpAny_bind (m := Builtin.Tuple.tupleExact _) (wpAny_newObj_type (wpAny_pure (wpAny_pure ⟨_, rfl, wpAny_pure h⟩)) htake))
    | exact wpAny_bind (wpAny_bind (m := Builtin.Tuple.tupleExact _) (wpAny_newObj_type (wpAny_pure ⟨_, rfl, wpAny_pure h⟩) htake))
end
end EaHT
namespace Ea
open PySem PySem.Spec L2
open PyProof.Rows hiding St
section
variable {X : Cx} {e : Expr} {pos : Pos}
def tRevT (K : PySem.W.Frag) (te : TE) : TE := fun σ H Q => te σ H fun x H1 => ∃ a xs, x = .ref a ∧ SqT K H1 a xs ∧ ∀ p, H1 p = none → Q (.ref p) (upd H1 p (.tup xs.reverse))
theorem pe_revT {te : TE} {k : Nat} {p1 p2 p3 : Pos} (he : PE X e te) : PE X (.Subscript e (.Slice none none (some (.UnaryOp .USub (.Constant (.int 1) k p1) p2)) p3) pos) (tRevT X.K te) := by
  refine ⟨fun pins s σ H Q I h => ?_⟩
  refine Subscript_ (thn (he.run pins s σ H _ I h) fun v s1 ⟨x, H1, I1, r1, q1⟩ => ?_)
  obtain ⟨a, xs, ex, hx, q⟩ := q1
  subst ex
  cases r1
  have hst : PO X (some (.UnaryOp .USub (.Constant (.int 1) k p1) p2)) (tPart (tUn (rU fun i => .int (-i)) (tC (.int 1)))) := po_some (pe_un un_neg pe_int)
  refine wpAny_Slice (thn (po_none.run pins s1 σ H1 (fun o H2 => o = none ∧ H2 = H1) I1 ⟨rfl, rfl⟩) fun vl s2 ⟨l, H2, I2, pl, el, e2⟩ => ?_)
  subst el e2
  refine thn (po_none.run pins s2 σ H2 (fun o H3 => o = none ∧ H3 = H2) I2 ⟨rfl, rfl⟩) fun vu s3 ⟨u, H3, I3, pu, eu, e3⟩ => ?_
  subst eu e3
  refine thn (hst.run pins s3 σ H3 (fun o H4 => o = some (-1) ∧ H4 = H3) I3 ⟨1, rfl, -1, rfl, rfl, rfl⟩) fun vs s4 ⟨o, H4, I4, ps, eo, e4⟩ => ?_
  subst eo e4
  have I5 : Inv X pins σ H4 { s4 with heap := s4.heap.push { cls := .type "slice", data := .fields #[vl, vu, vs] } } := I4.kept (t' := s4.toks) fun b ob q => Heap.get?_push_of_some _ q
  obtain ⟨its, r, ht, hz⟩ := I5.tuple hx
  have hlen := r.length
  show wpAny (model X.prog X.w) X.A (subscriptTail e (.Slice none none (some (.UnaryOp .USub (.Constant (.int 1) k p1) p2)) p3) (.ref a) (.ref s4.heap.objs.size)) (EP X pins σ Q) X.xe { s4 with heap := s4.heap.push { cls := .type "slice", data := .fields #[vl, vu, vs] } }
  refine tail_any (ops := [.ref a, .ref s4.heap.objs.size]) ht.typeIs (PyProof.Rows.slot_tuple_getitem.lookup) ?_ (by with_unfolding_all rfl)
  refine EaHT.getItem_tuple_rev (items := its) ht (Heap.IsSliceOf.new _ vl vu vs) pl pu ps ?_ (by omega)
  refine ⟨.ref _, _, I5.laid (t' := s4.toks) (o := .tup xs.reverse) (fun b ob q => Heap.get?_push_of_some _ q) (Nat.le_refl _) ?_, rfl, q _ (I5.hok.fresh (Nat.le_refl _))⟩
  exact ⟨by rw [List.length_reverse]; exact hz, its.reverse, r.reverse, ⟨_, Heap.get?_push_size _ rfl, rfl, _, rfl⟩⟩
def gRev : PyData → Option PyData
  | .tuple xs => some (.tuple xs.reverse)
  | _ => none
theorem e_rev {fa : DE} {k : Nat} {p1 p2 p3 : Pos} (ha : PE X e (tE fa)) : PE X (.Subscript e (.Slice none none (some (.UnaryOp .USub (.Constant (.int 1) k p1) p2)) p3) pos) (tE (e1 gRev fa)) :=
  (pe_revT ha).imp fun σ H Q ⟨F, ρ, d, s, r, q, kk⟩ => by
    obtain ⟨da, hda, q⟩ := Option.bind_eq_some_iff.mp q
    unfold gRev at q
    split at q
    · cases q
      refine ⟨F, ρ, _, s, r, hda, fun x F1 H1 x1 r1 => ?_⟩
      cases r1 with | tup e1 t1 =>
      exact ⟨_, _, rfl, SqT.of (x1.fh _ _ e1), fun p hp => kk _ _ _ (x1.trans (Ext.alloc x1.fh hp)) (.tup upd_same (t1.reverse.mono (same_upd (x1.fh.noneL hp))))⟩
    · cases q
/-! d.update(e) -/
def rUpdate : V → List V → Hp → VK → Prop := fun x vs H Q => ∃ d b ps qs, x = .ref d ∧ vs = [.ref b] ∧ d ≠ b ∧ H d = some (.dK ps) ∧ H b = some (.dK qs) ∧ ps.length + qs.length ≤ sizeLine ∧ Q .non (upd H d (.dK (mergeK ps qs)))
theorem mt_update : MtR X "dict.update" rUpdate := by
  intro pins s σ H x vs v us Q I rx rv h
  obtain ⟨d, b, ps, qs, rfl, rfl, hne, hD, hB, hz, q⟩ := h
  cases rx
  obtain ⟨u, rfl, ru⟩ := rv.one
  cases ru
  obtain ⟨z1, s1, vs1, rel1, dd1⟩ := dk_of I.hok hD
  obtain ⟨z2, s2, vs2, rel2, dd2⟩ := dk_of I.hok hB
  have l1 := rel1.length
  have l2 := rel2.length
  refine call_meetsIn F.slot_dict_update dd1.typeIs F.entry_dict_update (F.args_dict_update_2 _ _) (meets_dict_update (mixKind X.prog X.w) d b hne s2)
    ⟨vs1, vs2, dd1, dd2, by omega, fun h' hd' ho' sb => ?_⟩
  refine ⟨.non, _, ?_, rfl, q⟩
  have hlen : (mergeK ps qs).length ≤ sizeLine := Nat.le_trans (length_mergeK qs ps) hz
  refine I.write (t' := s.toks) (x := d) (e := d) (by rw [hD]; trivial) (.inl rfl) (fun c o hc e => (sb.2 c hc).trans e) (let ⟨o, _, _, ho, _⟩ := hd'; ⟨o, ho⟩) ?_
  exact dk_new hlen s1 (KV.merge rel2 rel1) hd'
end
end Ea
end
section
set_option Elab.async false
set_option linter.all false
set_option maxRecDepth 100000
set_option maxHeartbeats 4000000
/-! EaG: owned objects written, nested ones, dict comprehensions, pairs assigned, while, defs -/
namespace Ea
open PySem PySem.Spec L2
open PyProof.Rows hiding St

theorem nodup_ix' {α : Type} {l : List α} (hN : l.Nodup) {i j : Nat} {x : α} (a : l[i]? = some x) (b : l[j]? = some x) : i = j := nd_ix hN a b
section
variable {F0 H0 F H F' H' : Hp} {ρ : En} {σ : St}
/-- an object that slot i owns is written -/
theorem StR.writeAny (h : StR F0 H0 ρ F σ H) {i : Nat} {y : Option V} {s s' : Sl} {q : Addr} {o : HO} (hi : ρ[i]? = some s) (hy : σ[i]? = some y) (ha : Ads H y s q) (nF : F q = none) (r' : SlR F (upd H q o) y s') (sub : ∀ a, Ads (upd H q o) y s' a → Ads H y s a) : StR F0 H0 (ρ.set i s') F σ (upd H q o) := by
  have hil : i < ρ.length := (List.getElem?_eq_some_iff.mp hi).1
  have hn0 : H0 q = none := h.od i _ _ q hy hi ha
  have out : ∀ j z t, j ≠ i → σ[j]? = some z → ρ[j]? = some t → ¬ Ads H z t q := fun j z t nj e1 e2 hb => h.dj j i z _ t _ q nj e1 e2 hy hi hb ha
  refine ⟨⟨by rw [List.length_set]; exact h.env.len, fun {j t} e => ?_⟩, same_upd2 h.fh nF, h.ff, same_upd2 h.hh hn0, h.nw, fun j z t a e1 e2 hb => ?_, fun j k z z' t t' a ne e1 e2 e3 e4 h1 h2 => ?_⟩
  · rcases set_get e with ⟨rfl, rfl, _⟩ | ⟨nj, e2⟩
    · exact ⟨y, hy, r'⟩
    · obtain ⟨z, e1, r⟩ := h.env.get e2
      exact ⟨z, e1, r.upd_out (out j z t nj e1 e2)⟩
  · rcases set_get e2 with ⟨rfl, rfl, _⟩ | ⟨nj, e2⟩
    · rw [hy] at e1; cases e1
      exact h.od _ _ _ a hy hi (sub a hb)
    · obtain ⟨z', e1', r⟩ := h.env.get e2
      rw [e1] at e1'; cases e1'
      exact h.od j z t a e1 e2 (hb.upd_out r (out j z t nj e1 e2))
  · rcases set_get e2 with ⟨rfl, rfl, _⟩ | ⟨nj, f2⟩
    · rw [hy] at e1; cases e1
      have h1' := sub a h1
      rcases set_get e4 with ⟨rfl, _, _⟩ | ⟨nk, f4⟩
      · exact ne rfl
      · obtain ⟨z', e3', r⟩ := h.env.get f4
        rw [e3] at e3'; cases e3'
        exact h.dj _ k _ _ _ _ a ne hy hi e3 f4 h1' (h2.upd_out r (out k _ t' nk e3 f4))
    · obtain ⟨z1, e1', r⟩ := h.env.get f2
      rw [e1] at e1'; cases e1'
      have h1' := h1.upd_out r (out j z t nj e1 f2)
      rcases set_get e4 with ⟨rfl, rfl, _⟩ | ⟨nk, f4⟩
      · rw [hy] at e3; cases e3
        exact h.dj j _ _ _ _ _ a ne e1 f2 hy hi h1' (sub a h2)
      · obtain ⟨z2, e3', r'⟩ := h.env.get f4
        rw [e3] at e3'; cases e3'
        exact h.dj j k z z' t t' a ne e1 f2 e3 f4 h1' (h2.upd_out r' (out k z' t' nk e3 f4))
/-- a slot gets a list of fresh objects of its own -/
theorem OwnL.at : ∀ {qs : List Addr} {zs : List PyData} {j : Nat} {x : PyData}, OwnL F H qs zs → zs[j]? = some x → ∃ q, qs[j]? = some q ∧ F q = none ∧ Own F H q x
  | [], [], _, _, _, h => by simp at h
  | [], _ :: _, _, _, o, _ => o.elim
  | _ :: _, [], _, _, o, _ => o.elim
  | c :: cs, z :: zs, 0, x, ⟨o0, o1, _⟩, h => by simp at h; subst h; exact ⟨c, rfl, o0, o1⟩
  | c :: cs, z :: zs, j + 1, x, ⟨_, _, o2⟩, h => by
    obtain ⟨q, h1, h2⟩ := OwnL.at (j := j) o2 (by simpa using h)
    exact ⟨q, by simpa using h1, h2⟩
theorem OwnL.len : ∀ {qs : List Addr} {zs : List PyData}, OwnL F H qs zs → qs.length = zs.length
  | [], [], _ => rfl
  | [], _ :: _, o => o.elim
  | _ :: _, [], o => o.elim
  | c :: cs, z :: zs, ⟨_, _, o2⟩ => by simp [OwnL.len o2]
theorem OwnL.set {q : Addr} {o : HO} {x' : PyData} : ∀ {qs : List Addr} {zs : List PyData} {j : Nat}, OwnL F H qs zs → qs.Nodup → qs[j]? = some q → Own F (upd H q o) q x' → OwnL F (upd H q o) qs (zs.set j x')
  | [], _, _, _, _, h, _ => by simp at h
  | _ :: _, [], _, ow, _, _, _ => ow.elim
  | c :: cs, z :: zs, 0, ⟨o0, _, o2⟩, nd, h, ox => by
    simp at h; subst h
    refine ⟨o0, ox, o2.mono (Same.refl _) fun b hb => ⟨fun z => z, fun u e => ?_⟩⟩
    have : b ≠ c := fun z => (List.nodup_cons.mp nd).1 (z ▸ hb)
    rw [upd_ne this]; exact e
  | c :: cs, z :: zs, j + 1, ⟨o0, o1, o2⟩, nd, h, ox => by
    have hm : q ∈ cs := List.mem_of_getElem? (show cs[j]? = some q by simpa using h)
    have : c ≠ q := fun z => (List.nodup_cons.mp nd).1 (z ▸ hm)
    exact ⟨o0, o1.mono (Same.refl _) fun u e => by rw [upd_ne this]; exact e, OwnL.set o2 (List.nodup_cons.mp nd).2 (by simpa using h) ox⟩
theorem StR.setOO (h : StR F0 H0 ρ F σ H) (x : Ext F H F' H') {i : Nat} {p : Addr} {qs : List Addr} {zs : List PyData} (nF : F' p = none) (nH : H p = none) (hp : H' p = some (.lst (qs.map V.ref))) (ow : OwnL F' H' qs zs) (nHs : ∀ b ∈ qs, H b = none) (nd : (p :: qs).Nodup) : StR F0 H0 (ρ.set i (.oo zs)) F' (σ.set i (some (.ref p))) H' := by
  have h' := h.ext x
  have new : ∀ a, Ads H' (some (.ref p)) (.oo zs) a → H a = none := fun a ha => by
    rcases ha with e | ⟨vs, h1, h2⟩
    · subst e; exact nH
    · rw [hp] at h1; cases h1
      obtain ⟨b, hb, e⟩ := List.mem_map.mp h2
      cases e; exact nHs _ hb
  have old : ∀ j y s a, σ[j]? = some y → ρ[j]? = some s → Ads H' y s a → ∃ u, H a = some u := fun j y s a e1 e2 ha => by
    obtain ⟨y', e1', r⟩ := h.env.get e2
    rw [e1] at e1'; cases e1'
    have hb := ha.back x r
    cases s with
    | no => exact hb.elim
    | d _ => exact hb.elim
    | o z =>
      obtain ⟨q, e, _, ow⟩ := r
      subst e
      have e : a = q := hb
      subst e
      exact ow.there
    | oo zs =>
      obtain ⟨q, qs, e, n, hp, ow, _⟩ := r
      subst e
      rcases hb with e | ⟨vs, h1, h2⟩
      · subst e; exact ⟨_, hp⟩
      · rw [hp] at h1; cases h1
        obtain ⟨b, hbm, e⟩ := List.mem_map.mp h2
        cases e
        obtain ⟨_, x, ox⟩ := ow.mem hbm
        exact ox.there
  refine ⟨h'.env.set ⟨p, qs, rfl, nF, hp, ow, nd⟩, h'.fh, h'.ff, h'.hh, h'.nw, fun j y s a e1 e2 ha => ?_, fun j k y z s t a ne e1 e2 e3 e4 h1 h2 => ?_⟩
  · rcases set_get e2 with ⟨rfl, rfl, _⟩ | ⟨nj, f2⟩
    · rcases set_get e1 with ⟨_, rfl, _⟩ | ⟨z, _⟩
      · exact h.hh.free (new a ha)
      · exact absurd rfl z
    · rcases set_get e1 with ⟨z, _⟩ | ⟨_, f1⟩
      · exact absurd z nj
      · exact h'.od j y s a f1 f2 ha
  · rcases set_get e2 with ⟨rfl, rfl, _⟩ | ⟨nj, f2⟩
    · rcases set_get e1 with ⟨_, rfl, _⟩ | ⟨z, _⟩
      · have na := new a h1
        rcases set_get e4 with ⟨rfl, _, _⟩ | ⟨_, f4⟩
        · exact ne rfl
        · rcases set_get e3 with ⟨z, _⟩ | ⟨_, f3⟩
          · exact ne z.symm
          · obtain ⟨u, hu⟩ := old k z t a f3 f4 h2
            rw [na] at hu; cases hu
      · exact absurd rfl z
    · rcases set_get e1 with ⟨z, _⟩ | ⟨_, f1⟩
      · exact absurd z nj
      · rcases set_get e4 with ⟨rfl, rfl, _⟩ | ⟨nk, f4⟩
        · rcases set_get e3 with ⟨_, rfl, _⟩ | ⟨z, _⟩
          · obtain ⟨u, hu⟩ := old j y s a f1 f2 h1
            rw [new a h2] at hu; cases hu
          · exact absurd rfl z
        · rcases set_get e3 with ⟨z, _⟩ | ⟨_, f3⟩
          · exact absurd z nk
          · exact h'.dj j k y z s t a ne f1 f2 f3 f4 h1 h2
/-- .. an item of such a list is written -/
theorem StR.writeOO (h : StR F0 H0 ρ F σ H) {i j : Nat} {p q : Addr} {qs : List Addr} {zs : List PyData} {x' : PyData} {o : HO} (hi : ρ[i]? = some (.oo zs)) (hy : σ[i]? = some (some (.ref p))) (hp : H p = some (.lst (qs.map V.ref))) (hq : qs[j]? = some q) (ox : Own F (upd H q o) q x') : StR F0 H0 (ρ.set i (.oo (zs.set j x'))) F σ (upd H q o) := by
  obtain ⟨y, hy', p', qs', e, nF, hp', ow, nd⟩ := h.env.get hi
  rw [hy] at hy'; cases hy'; cases e
  rw [hp] at hp'
  have eq : qs = qs' := by
    have := Option.some.inj hp'
    injection this with this
    exact List.map_inj_right (fun _ _ z => V.ref.inj z) |>.mp this
  subst eq
  have hm : q ∈ qs := List.mem_of_getElem? hq
  have hpq : p ≠ q := fun z => (List.nodup_cons.mp nd).1 (z ▸ hm)
  refine h.writeAny hi hy (.inr ⟨_, hp, List.mem_map_of_mem hm⟩) (ow.mem hm).1 ⟨p, qs, rfl, nF, by rw [upd_ne hpq]; exact hp, ow.set (List.nodup_cons.mp nd).2 hq ox, nd⟩ fun a ha => ?_
  rcases ha with e | ⟨vs, h1, h2⟩
  · exact .inl e
  · rw [upd_ne hpq] at h1; exact .inr ⟨vs, h1, h2⟩
theorem OwnL.rp {F F' H : Hp} (s : Same F F') : ∀ {qs : List Addr} {zs : List PyData}, OwnL F H qs zs → (∀ b ∈ qs, F' b = H b) → RpL F' (qs.map V.ref) zs
  | [], [], _, _ => .nil
  | [], _ :: _, o, _ => o.elim
  | _ :: _, [], o, _ => o.elim
  | c :: cs, z :: zs, ⟨_, o1, o2⟩, h => .cons (o1.rp s fun o e => (h c List.mem_cons_self).trans e) (OwnL.rp s o2 fun b hb => h b (List.mem_cons_of_mem _ hb))
theorem StR.frzOO (h : StR F0 H0 ρ F σ H) {i : Nat} {zs : List PyData} (hi : ρ[i]? = some (.oo zs)) : ∃ F', StR F0 H0 (ρ.set i (.d (.list zs))) F' σ H := by
  obtain ⟨y, hy, p, qs, e, nF, hp, ow, nd⟩ := h.env.get hi
  subst e
  have ff : Same F (fun b => if b ∈ p :: qs then H b else F b) := fun b o e => by
    show (if b ∈ p :: qs then H b else F b) = some o
    by_cases hb : b ∈ p :: qs
    · rw [if_pos hb]; exact h.fh _ _ e
    · rw [if_neg hb]; exact e
  refine ⟨fun b => if b ∈ p :: qs then H b else F b, h.frzAny hi hy (fun b => ?_) ff ⟨_, rfl, .lst (by show (if p ∈ p :: qs then H p else F p) = _; rw [if_pos List.mem_cons_self]; exact hp) (ow.rp ff fun b hb => by show (if b ∈ p :: qs then H b else F b) = _; rw [if_pos (List.mem_cons_of_mem _ hb)])⟩⟩
  by_cases hb : b ∈ p :: qs
  · refine .inr ⟨?_, if_pos hb⟩
    rcases List.mem_cons.mp hb with e | hb
    · exact .inl e
    · exact .inr ⟨_, hp, List.mem_map_of_mem hb⟩
  · exact .inl (if_neg hb)
end

section
variable {X : Cx} {e a b c tg iter : Expr} {st : Stmt} {sts rest : List Stmt} {pos : Pos}
def sFrzOO (i : Nat) (f : DS) : DS := fun ρ => match ρ[i]? with | some (.oo d) => f (ρ.set i (.d (.list d))) | _ => none
theorem ss_frzOO {i : Nat} {f : DS} (h : PSs X sts (tS f)) : PSs X sts (tS (sFrzOO i f)) := h.imp fun D σ H ⟨F0, H0, F, ρ, out, s, q, k⟩ => by
  unfold sFrzOO at q
  split at q
  · rename_i d hd
    obtain ⟨F', s'⟩ := s.frzOO hd
    exact ⟨F0, H0, F', _, out, s', q, k⟩
  · cases q
/-- x[k] = e, x an owned list -/
def setAt (d : PyData) : PyData → PyData → Option PyData
  | .list xs, .int k => (ixN xs.length k).map fun j => .list (xs.set j d)
  | _, _ => none
theorem setAt_some {d x k x' : PyData} (h : setAt d x k = some x') : ∃ xs kk j, x = .list xs ∧ k = .int kk ∧ ixN xs.length kk = some j ∧ x' = .list (xs.set j d) := by
  unfold setAt at h
  split at h
  · obtain ⟨j, hj, e⟩ := Option.map_eq_some_iff.mp h
    exact ⟨_, _, j, rfl, rfl, hj, e.symm⟩
  · cases h
def intOf : PyData → Option Int
  | .int i => some i
  | _ => none
theorem intOf_some {d : PyData} {i : Int} (h : intOf d = some i) : d = .int i := by
  unfold intOf at h
  split at h
  · cases h; rfl
  · cases h
def ownAt (ρ : En) (i : Nat) : Option PyData := match ρ[i]? with | some (.o x) => some x | _ => none
theorem ownAt_some {ρ : En} {i : Nat} {x : PyData} (h : ownAt ρ i = some x) : ρ[i]? = some (.o x) := by
  unfold ownAt at h
  split at h
  · rename_i y hy; cases h; exact hy
  · cases h
def sSetIx (i : Nat) (fe fk : DE) : DS := fun ρ => (fe ρ).bind fun d => (fk ρ).bind fun k => (ownAt ρ i).bind fun x => (setAt d x k).map fun x' => .nx (ρ.set i (.o x'))
theorem s_setIx {i : Nat} {x : Str} {kx : Expr} {fe fk : DE} {xp p2 : Pos} (hx : PE X (.Name x xp) (tVar i)) (hk : PE X kx (tE fk)) (he : PE X e (tE fe))
    (ha : ∀ v, assign (.Subscript (.Name x xp) kx p2) X.env v = (do
      let ov ← holding [v] (eval (.Name x xp) X.env)
      let iv ← holding [v, ov] (eval kx X.env)
      standAt p2
      holding [v, ov, iv] (setItem ov iv v)
      release [v, ov, iv] []) := by intro _; rfl) (hs : swapsWithSole [.Subscript (.Name x xp) kx p2] e pos.line X.env = pure false := by rfl) (hw : swappedStores [.Subscript (.Name x xp) kx p2] e X.env = pure none := by rfl)
    (h1 : (assignEach [.Subscript (.Name x xp) kx p2] X.env).map (·.2) = [assign (.Subscript (.Name x xp) kx p2) X.env] := by rfl) : PS X (.Assign [.Subscript (.Name x xp) kx p2] e pos) (tS (sSetIx i fe fk)) :=
  (ps_asg he (pg_sub hx hk set_list ha) hs hw h1).imp fun D σ H ⟨F0, H0, F, ρ, out, s, q, k, _⟩ => by
    obtain ⟨d, hd, q⟩ := Option.bind_eq_some_iff.mp q
    obtain ⟨kd, hkd, q⟩ := Option.bind_eq_some_iff.mp q
    obtain ⟨xd, hxd, q⟩ := Option.bind_eq_some_iff.mp q
    obtain ⟨xd', hset, q⟩ := Option.map_eq_some_iff.mp q
    subst q
    have hi := ownAt_some hxd
    refine ⟨F, ρ, d, s.fh, s.env, hd, fun v F1 H1 x1 r1 => ?_⟩
    obtain ⟨xs, kk, j, rfl, rfl, hj, rfl⟩ := setAt_some hset
    obtain ⟨p, vs, hp, _⟩ := slO_list s.env hi x1
    refine ⟨_, hp, F1, ρ, _, x1.fh, s.env.ext x1, hkd, fun y F2 H2 x2 r2 => ?_⟩
    cases r2
    have s2 := (s.ext x1).ext x2
    obtain ⟨p', vs', hp', nF, e', rv⟩ := slO_list s.env hi (x1.trans x2)
    rw [hp] at hp'; cases hp'
    refine ⟨p, vs', kk, j, rfl, rfl, e', by rw [rv.length]; exact hj, ?_⟩
    exact k _ rfl F2 σ _ (s2.write hi hp ⟨_, upd_same, rv.set (r1.mono x2.ff) j⟩)
/-- x[k] = e, x an owned dict -/
def putAt (d : PyData) : PyData → PyData → Option PyData
  | .dict kvs, .int k => if okLen (kvs.length + 1) then some (.dict (putD kvs k d)) else none
  | _, _ => none
theorem putAt_some {d x k x' : PyData} (h : putAt d x k = some x') : ∃ kvs kk, x = .dict kvs ∧ k = .int kk ∧ okLen (kvs.length + 1) = true ∧ x' = .dict (putD kvs kk d) := by
  unfold putAt at h
  split at h
  · split at h
    · rename_i ok; cases h; exact ⟨_, _, rfl, rfl, ok, rfl⟩
    · cases h
  · cases h
def sPut (i : Nat) (fe fk : DE) : DS := fun ρ => (fe ρ).bind fun d => (fk ρ).bind fun k => (ownAt ρ i).bind fun x => (putAt d x k).map fun x' => .nx (ρ.set i (.o x'))
theorem okLen_lt {n : Nat} (h : okLen (n + 1) = true) : n < sizeLine := Nat.lt_of_succ_le (okLen_le h)
theorem s_put {i : Nat} {o kx : Expr} {fe fk : DE} {p2 : Pos} (hu : X.A.units + 1 < cLine) (hx : PE X o (tVar i)) (hk : PE X kx (tE fk)) (he : PE X e (tE fe)) (hs : swapsWith e (some (.Subscript o kx p2)) pos.line X.env = pure false := by rfl) :
    PS X (.Assign [.Subscript o kx p2] e pos) (tS (sPut i fe fk)) :=
  (ps_dput hu hx hk he hs).imp fun D σ H ⟨F0, H0, F, ρ, out, s, q, k, _⟩ => by
    obtain ⟨d, hd, q⟩ := Option.bind_eq_some_iff.mp q
    obtain ⟨kd, hkd, q⟩ := Option.bind_eq_some_iff.mp q
    obtain ⟨xd, hxd, q⟩ := Option.bind_eq_some_iff.mp q
    obtain ⟨xd', hset, q⟩ := Option.map_eq_some_iff.mp q
    subst q
    have hi := ownAt_some hxd
    refine ⟨F, ρ, d, s.fh, s.env, hd, fun v F1 H1 x1 r1 => ?_⟩
    obtain ⟨kvs, kk, rfl, rfl, ok, rfl⟩ := putAt_some hset
    obtain ⟨p, vs, hp, _⟩ := slO_dict s.env hi x1
    refine ⟨_, hp, F1, ρ, _, x1.fh, s.env.ext x1, hkd, fun y F2 H2 x2 r2 => ?_⟩
    cases r2
    have s2 := (s.ext x1).ext x2
    obtain ⟨p', ps, hp', nF, e', rv⟩ := slO_dict s.env hi (x1.trans x2)
    rw [hp] at hp'; cases hp'
    refine ⟨p, _, rfl, DPut.k (k := .inl kk) e' (by rw [rv.length]; exact okLen_lt ok), ?_⟩
    exact k _ rfl F2 σ _ (s2.write hi hp ⟨_, upd_same, rv.put (r1.mono x2.ff)⟩)
/-- x.append(e), x.extend(e), x an owned list -/
def appD (d : PyData) : PyData → Option PyData
  | .list xs => if okLen (xs.length + 1) then some (.list (xs ++ [d])) else none
  | _ => none
theorem appD_some {d x x' : PyData} (h : appD d x = some x') : ∃ xs, x = .list xs ∧ okLen (xs.length + 1) = true ∧ x' = .list (xs ++ [d]) := by
  unfold appD at h
  split at h
  · split at h
    · rename_i ok; cases h; exact ⟨_, rfl, ok, rfl⟩
    · cases h
  · cases h
def extD : PyData → PyData → Option PyData
  | .list ys, .list xs => if okLen (xs.length + ys.length) then some (.list (xs ++ ys)) else none
  | _, _ => none
def sMut (g : PyData → PyData → Option PyData) (i : Nat) (fe : DE) : DS := fun ρ => (fe ρ).bind fun d => (ownAt ρ i).bind fun x => (g d x).map fun x' => .nx (ρ.set i (.o x'))
theorem s_append {i : Nat} {o : Expr} {fe : DE} {apos cpos : Pos} (hx : PE X o (tVar i)) (he : PE X e (tE fe)) (hbase : attributeBase o "append" X.env (eval o X.env) = eval o X.env := by rfl)
    (hfew : ((backTo cpos (starEach [e] X.env)).all (fun x => !x.1) && (backToKw cpos (keywordEach [] X.env)).all (fun x => x.1.isSome) && decide (([e] : List Expr).length + ([] : List Keyword).length + (if ([] : List Keyword).isEmpty then 0 else 1) < 30)) = true := by rfl)
    (hline : (apos.endLine == cpos.line) = true := by rfl) (h1 : starEach [e] X.env = (false, eval e X.env) :: starEach [] X.env := by rfl) (hplain : (backTo cpos (starEach [] X.env)).any (·.1) = false := by rfl) (hs : swapsWith (.Call (.Attribute o "append" apos) [e] [] cpos) none pos.line X.env = pure false := by rfl) :
    PS X (.Expr (.Call (.Attribute o "append" apos) [e] [] cpos) pos) (tS (sMut appD i fe)) :=
  (ps_expr (pe_bm PySem.F.plainAttrs_list PySem.F.slot_list_append PySem.F.type_list_append mt_append hx (pa_cons he pa_nil h1) hbase hfew hline h1 hplain) hs).imp fun D σ H ⟨F0, H0, F, ρ, out, s, q, k, _⟩ => by
    obtain ⟨d, hd, q⟩ := Option.bind_eq_some_iff.mp q
    obtain ⟨xd, hxd, q⟩ := Option.bind_eq_some_iff.mp q
    obtain ⟨xd', hset, q⟩ := Option.map_eq_some_iff.mp q
    subst q
    have hi := ownAt_some hxd
    unfold appD at hset
    split at hset
    · split at hset
      · rename_i ok
        cases hset
        obtain ⟨p, vs, hp, _, e0, _⟩ := slO_list s.env hi (Ext.refl s.fh)
        refine ⟨_, hp, .inl ⟨rfl, _, SqL.of e0⟩, F, ρ, d, s.fh, s.env, hd, fun v F1 H1 x1 r1 => ?_⟩
        obtain ⟨p', vs', hp', nF, e', rv⟩ := slO_list s.env hi x1
        rw [hp] at hp'; cases hp'
        refine ⟨p, vs', v, rfl, rfl, e', by rw [rv.length]; exact okLen_lt ok, ?_⟩
        exact k _ rfl F1 σ _ ((s.ext x1).write hi hp ⟨_, upd_same, rv.append (.cons r1 .nil)⟩)
      · cases hset
    · cases hset
theorem s_extend {i : Nat} {o : Expr} {fe : DE} {apos cpos : Pos} (hx : PE X o (tVar i)) (he : PE X e (tE fe)) (hbase : attributeBase o "extend" X.env (eval o X.env) = eval o X.env := by rfl)
    (hfew : ((backTo cpos (starEach [e] X.env)).all (fun x => !x.1) && (backToKw cpos (keywordEach [] X.env)).all (fun x => x.1.isSome) && decide (([e] : List Expr).length + ([] : List Keyword).length + (if ([] : List Keyword).isEmpty then 0 else 1) < 30)) = true := by rfl)
    (hline : (apos.endLine == cpos.line) = true := by rfl) (h1 : starEach [e] X.env = (false, eval e X.env) :: starEach [] X.env := by rfl) (hplain : (backTo cpos (starEach [] X.env)).any (·.1) = false := by rfl) (hs : swapsWith (.Call (.Attribute o "extend" apos) [e] [] cpos) none pos.line X.env = pure false := by rfl) :
    PS X (.Expr (.Call (.Attribute o "extend" apos) [e] [] cpos) pos) (tS (sMut extD i fe)) :=
  (ps_expr (pe_bm PySem.F.plainAttrs_list PySem.F.slot_list_extend PySem.F.type_list_extend mt_extend hx (pa_cons he pa_nil h1) hbase hfew hline h1 hplain) hs).imp fun D σ H ⟨F0, H0, F, ρ, out, s, q, k, _⟩ => by
    obtain ⟨d, hd, q⟩ := Option.bind_eq_some_iff.mp q
    obtain ⟨xd, hxd, q⟩ := Option.bind_eq_some_iff.mp q
    obtain ⟨xd', hset, q⟩ := Option.map_eq_some_iff.mp q
    subst q
    have hi := ownAt_some hxd
    unfold extD at hset
    split at hset
    · split at hset
      · rename_i ok
        cases hset
        obtain ⟨p, vs, hp, _, e0, _⟩ := slO_list s.env hi (Ext.refl s.fh)
        refine ⟨_, hp, .inl ⟨rfl, _, SqL.of e0⟩, F, ρ, _, s.fh, s.env, hd, fun v F1 H1 x1 r1 => ?_⟩
        obtain ⟨p', vs', hp', nF, e', rv⟩ := slO_list s.env hi x1
        rw [hp] at hp'; cases hp'
        cases r1 with | lst e1 t1 =>
        refine ⟨p, _, vs', _, rfl, rfl, e', x1.fh _ _ e1, by rw [rv.length, t1.length]; exact okLen_le ok, ?_⟩
        exact k _ rfl F1 σ _ ((s.ext x1).write hi hp ⟨_, upd_same, rv.append t1⟩)
      · cases hset
    · cases hset

/-! ### a list of objects of one's own -/
def ooAt (ρ : En) (i : Nat) : Option (List PyData) := match ρ[i]? with | some (.oo x) => some x | _ => none
theorem ooAt_some {ρ : En} {i : Nat} {x : List PyData} (h : ooAt ρ i = some x) : ρ[i]? = some (.oo x) := by
  unfold ooAt at h
  split at h
  · rename_i y hy; cases h; exact hy
  · cases h
theorem slOO {F H F' H' : Hp} {σ : St} {ρ : En} {i : Nat} {zs : List PyData} (r : EnvR F H σ ρ) (h : ρ[i]? = some (.oo zs)) (x : Ext F H F' H') : ∃ p qs, σ[i]? = some (some (.ref p)) ∧ F' p = none ∧ H' p = some (.lst (qs.map V.ref)) ∧ OwnL F' H' qs zs := by
  obtain ⟨y, hy, sl⟩ := (r.ext x).get h
  obtain ⟨p, qs, e, n, e2, ow, _⟩ := sl
  subst e
  exact ⟨p, qs, hy, n, e2, ow⟩
theorem atI_int {α : Type} {xs : List α} {k : Int} {j : Nat} {x : α} (h : ixN xs.length k = some j) (hx : xs[j]? = some x) : atI xs k = some x := by
  unfold atI; rw [h]; exact hx
/-- [new for _ in ..] -/
def tNew (o : HO) : TE := fun _ H Q => ∀ p, H p = none → Q (.ref p) (upd H p o)
theorem n_dict : PE X (.Dict [] [] pos) (tNew (.dK [])) := pe_dnewK
theorem n_list : PE X (.List [] pos) (tNew (.lst [])) := (pe_lst pa_nil).imp fun σ H Q h => ⟨Nat.zero_le _, h⟩
theorem own_new {F H : Hp} {q : Addr} {o : HO} {x : PyData} (h : (o = .dK [] ∧ x = .dict []) ∨ (o = .lst [] ∧ x = .list [])) (e : H q = some o) : Own F H q x := by
  rcases h with ⟨rfl, rfl⟩ | ⟨rfl, rfl⟩
  · exact ⟨[], e, .nil⟩
  · exact ⟨[], e, .nil⟩
def sSetOO (i : Nat) (x : PyData) (fi : DI) : DS := fun ρ => (fi ρ).bind fun xs => if okLen xs.length then some (.nx (ρ.set i (.oo (List.replicate xs.length x)))) else none
theorem tLc_new {fi : DI} {vs : List Nat} {g : DG} {o : HO} {x : PyData} (ho : (o = .dK [] ∧ x = .dict []) ∨ (o = .lst [] ∧ x = .list [])) (hg : ∀ d ρ, ∃ ρ', g d ρ = some ρ') {σ : St} {H : Hp} {Q : VK} {F : Hp} {ρ : En} {xs : List PyData} (s : Same F H) (r : EnvR F H σ ρ) (hx : fi ρ = some xs) (ok : okLen xs.length = true)
    (k : ∀ p qs F' H', Ext F H F' H' → F' p = none → H p = none → H' p = some (.lst (qs.map V.ref)) → OwnL F' H' qs (List.replicate xs.length x) → (∀ b ∈ qs, H b = none) → (p :: qs).Nodup → Q (.ref p) H') : tLc (tI fi) (tG vs g) tYes (tNew o) vs σ H Q := by
  refine ⟨F, ρ, xs, s, r, hx, fun J F1 H1 x1 W D nD => ?_⟩
  have okl := okLen_le ok
  refine lc_it (J := J) (n := xs.length) (G := fun H => ∃ F2, Same F1 F2 ∧ Same F2 H) (Y := fun i H x H' => ∀ F2, Same F1 F2 → Same F2 H → ∃ F' d, Ext F2 H F' H' ∧ xs[i]? = some d ∧ Rp F' x d)
    ⟨fun i H hi ⟨F2, s1, s2⟩ => W.goes i H hi (s1.trans s2), fun H ⟨F2, s1, s2⟩ => W.stops H (s1.trans s2), fun i H x H' hi _ y F2 s1 s2 => W.yields i F2 H x H' hi s1 s2 y⟩
    (fun i H' => ∃ F2 qs, Ext F1 H1 F2 H' ∧ F2 D = none ∧ H' D = some (.lst (qs.map V.ref)) ∧ qs.length = i ∧ OwnL F2 H' qs (List.replicate i x) ∧ (∀ b ∈ qs, H1 b = none) ∧ (D :: qs).Nodup)
    ⟨F1, [], Ext.fresh x1.fh nD, x1.fh.noneL nD, upd_same, rfl, trivial, fun b h => (by cases h), by simp⟩ (fun i H' _ ⟨F2, _, x2, _⟩ => ⟨F2, x2.ff, x2.fh⟩) ?_ ?_
  · rintro i x0 H2 H3 hi ⟨F2, qs, x2, nF, hD, hl, ow, nq, nd⟩ hY
    obtain ⟨F3, d, x3, hd, rd⟩ := hY F2 x2.ff x2.fh
    have x13 := x2.trans x3
    have nF3 : F3 D = none := x3.stays nF hD
    have hD3 := x3.hh _ _ hD
    have ow3 := ow.ext x3
    obtain ⟨ρ1, hg1⟩ := hg d (wipeE ρ vs)
    refine ⟨F3, wipeE ρ vs, d, ρ1, x3.fh, ((r.ext x1).ext x13).wipe vs, rd, hg1, fun σ2 r2 agr => ⟨wipe_agr agr, ?_⟩⟩
    unfold tYes
    dsimp only
    rw [if_pos rfl]
    intro q nq3
    have hDq : D ≠ q := ne_of_none hD3 nq3
    refine ⟨qs.map V.ref, by rw [upd_ne hDq]; exact hD3, by rw [List.length_map]; omega, F3, qs ++ [q], ?_, nF3, by rw [upd_same]; simp, by simp [hl], ?_, ?_, ?_⟩
    · refine ⟨x13.ff, same_upd2 (same_upd2 x13.fh (x13.fh.noneL nq3)) nF3, fun b u e => ?_, x13.nw⟩
      have e3 := x13.hh _ _ e
      rw [upd_ne (ne_of_none e nD), upd_ne (ne_of_none e3 nq3)]
      exact e3
    · have qin : ∀ b ∈ qs, b ≠ q ∧ b ≠ D := fun b hb => by
        obtain ⟨_, z, oz⟩ := ow3.mem hb
        obtain ⟨u, hu⟩ := oz.there
        exact ⟨ne_of_none hu nq3, fun z => (List.nodup_cons.mp nd).1 (z ▸ hb)⟩
      have o1 : OwnL F3 (upd (upd H3 q o) D (.lst (qs.map V.ref ++ [V.ref q]))) qs (List.replicate i x) := ow3.mono (Same.refl _) fun b hb => ⟨fun z => z, fun u e => by
        rw [upd_ne (qin b hb).2, upd_ne (qin b hb).1]; exact e⟩
      have o2 : Own F3 (upd (upd H3 q o) D (.lst (qs.map V.ref ++ [V.ref q]))) q x := own_new ho (by rw [upd_ne (Ne.symm hDq), upd_same])
      have app : ∀ (qs : List Addr) (zs : List PyData), OwnL F3 (upd (upd H3 q o) D (.lst (qs.map V.ref ++ [V.ref q]))) qs zs → True := fun _ _ _ => trivial
      clear app
      rw [List.replicate_succ']
      generalize upd (upd H3 q o) D (.lst (qs.map V.ref ++ [V.ref q])) = HH at o1 o2
      have gen : ∀ (as : List Addr) (zs : List PyData), OwnL F3 HH as zs → OwnL F3 HH (as ++ [q]) (zs ++ [x]) := by
        intro as
        induction as with
        | nil =>
          intro zs h
          cases zs with
          | nil => exact ⟨x3.fh.noneL nq3, o2, trivial⟩
          | cons _ _ => exact h.elim
        | cons c cs ih =>
          intro zs h
          cases zs with
          | nil => exact h.elim
          | cons z zs => exact ⟨h.1, h.2.1, ih zs h.2.2⟩
      exact gen qs _ o1
    · intro b hb
      rcases List.mem_append.mp hb with hb | hb
      · exact nq b hb
      · have e : b = q := by simpa using hb
        subst e
        exact x13.hh.free nq3
    · have hq : q ∉ qs := fun hb => by
        obtain ⟨_, z, oz⟩ := ow3.mem hb
        obtain ⟨u, hu⟩ := oz.there
        rw [nq3] at hu; cases hu
      obtain ⟨n1, n2⟩ := List.nodup_cons.mp nd
      refine List.nodup_cons.mpr ⟨fun hb => ?_, List.nodup_append.mpr ⟨n2, by simp, fun a ha b hb z => ?_⟩⟩
      · rcases List.mem_append.mp hb with hb | hb
        · exact n1 hb
        · exact hDq (by simpa using hb)
      · have e : b = q := by simpa using hb
        subst e; subst z; exact hq ha
  · rintro H2 ⟨F2, qs, x2, nF, hD, hl, ow, nq, nd⟩
    exact k D qs F2 H2 (x1.trans x2) nF (x1.hh.free nD) hD ow (fun b hb => x1.hh.free (nq b hb)) nd
theorem s_setOO {i : Nat} {y : Str} {py : Pos} {elt : Expr} {scope : Scope} {own : List (Str × Nat)} {spos : Pos} {fi : DI} {g : DG} {o : HO} {x : PyData} (ho : (o = .dK [] ∧ x = .dict []) ∨ (o = .lst [] ∧ x = .list [])) (hgt : ∀ d ρ, ∃ ρ', g d ρ = some ρ') (hc : X.calm = true) (hN : X.N.Nodup) (hy : X.N[i]? = some y) (hyl : X.env.scope.names.lookup y = some .local)
    (hsw : swapsWith (.ListComp elt [⟨tg, iter, [], 0⟩] scope pos) (some (.Name y py)) spos.line X.env = pure true) (hi : PI X tg iter (tI fi)) (ok : BlkOk X.N X.env.scope scope own)
    (hg : ∀ (s : Shared) (H : Hp) (C : Addr) (cl : List (Str × Addr)) (fp : List Addr), PG (X.blk s H scope (compEnvC scope cl C X.env) fp) tg (tG (own.map (·.2)) g))
    (he : ∀ (s : Shared) (H : Hp) (C : Addr) (cl : List (Str × Addr)) (fp : List Addr), PE (X.blk s H scope (compEnvC scope cl C X.env) fp) elt (tNew o))
    (hs : ∀ x, foldedSetIterable iter X.env x = pure x := by intro _; rfl) : PS X (.Assign [.Name y py] (.ListComp elt [⟨tg, iter, [], 0⟩] scope pos) spos) (tS (sSetOO i x fi)) :=
  (ps_setLc hc hN hy hyl hsw hi ok hg (fun _ _ _ _ _ => pts_nil) he hs).imp fun D σ H ⟨F0, H0, F, ρ, out, s, q, k, _⟩ => by
    obtain ⟨xs, hx, q⟩ := Option.bind_eq_some_iff.mp q
    split at q
    · rename_i okx
      cases q
      show tLc _ _ _ _ _ σ H _
      exact tLc_new ho hgt s.fh s.env hx okx fun p qs F' H' x nF nH hp ow nHs nd => k _ rfl F' _ H' (s.setOO x nF nH hp ow nHs nd)
    · cases q
/-- x[j][k] = e -/
def sOOPut (i : Nat) (fj fk fe : DE) : DS := fun ρ => (fe ρ).bind fun d => (fj ρ).bind fun jd => (fk ρ).bind fun kd => (ooAt ρ i).bind fun zs => (intOf jd).bind fun jj =>
  (ixN zs.length jj).bind fun j => (zs[j]?).bind fun x => (putAt d x kd).map fun x' => .nx (ρ.set i (.oo (zs.set j x')))
theorem s_ooPut {i : Nat} {o jx kx : Expr} {fj fk fe : DE} {p1 p2 : Pos} (hu : X.A.units + 1 < cLine) (hx : PE X o (tVar i)) (hj : PE X jx (tE fj)) (hk : PE X kx (tE fk)) (he : PE X e (tE fe)) (hix : PlainIx jx := by exact fun _ _ => rfl) (hs : swapsWith e (some (.Subscript (.Subscript o jx p1) kx p2)) pos.line X.env = pure false := by rfl) :
    PS X (.Assign [.Subscript (.Subscript o jx p1) kx p2] e pos) (tS (sOOPut i fj fk fe)) :=
  (ps_dput hu (pe_ix ix_list hx hj hix) hk he hs).imp fun D σ H ⟨F0, H0, F, ρ, out, s, q, k, _⟩ => by
    obtain ⟨d, hd, q_1⟩ := Option.bind_eq_some_iff.mp q
    obtain ⟨jd, hjd, q_2⟩ := Option.bind_eq_some_iff.mp q_1
    obtain ⟨kd, hkd, q_3⟩ := Option.bind_eq_some_iff.mp q_2
    obtain ⟨zs, hzs, q_4⟩ := Option.bind_eq_some_iff.mp q_3
    have hi := ooAt_some hzs
    obtain ⟨jj, hint, q_5⟩ := Option.bind_eq_some_iff.mp q_4
    have eint := intOf_some hint
    subst eint
    obtain ⟨j, hjj, q_6⟩ := Option.bind_eq_some_iff.mp q_5
    obtain ⟨x, hxj, q_7⟩ := Option.bind_eq_some_iff.mp q_6
    obtain ⟨x', hput, q_8⟩ := Option.map_eq_some_iff.mp q_7
    subst q_8
    refine ⟨F, ρ, d, s.fh, s.env, hd, fun v F1 H1 x1 r1 => ?_⟩
    obtain ⟨p, qs, hp, _⟩ := slOO s.env hi (Ext.refl s.fh)
    refine ⟨_, hp, F1, ρ, _, x1.fh, s.env.ext x1, hjd, fun y F2 H2 x2 r2 => ?_⟩
    cases r2
    obtain ⟨p2, qs2, hp2, _, hH2, ow2⟩ := slOO s.env hi (x1.trans x2)
    rw [hp] at hp2; cases hp2
    obtain ⟨q0, hq, nq, oq⟩ := ow2.at hxj
    refine ⟨p, qs2.map V.ref, jj, .ref q0, rfl, rfl, SqL.of hH2, atI_int (j := j) (by rw [List.length_map, ow2.len]; exact hjj) (by rw [List.getElem?_map, hq]; rfl), ?_⟩
    refine ⟨F2, ρ, kd, x2.fh, (s.env.ext x1).ext x2, hkd, fun z F3 H3 x3 r3 => ?_⟩
    obtain ⟨kvs, kk, rfl, rfl, ok, rfl⟩ := putAt_some hput
    cases r3
    have oq3 := oq.mono x3.ff (fun o e => x3.hh _ _ e)
    obtain ⟨ps, e3, rv⟩ := oq3
    have hH3 := x3.hh _ _ hH2
    refine ⟨q0, _, rfl, DPut.k (k := .inl kk) e3 (by rw [rv.length]; exact okLen_lt ok), ?_⟩
    exact k _ rfl F3 σ _ ((((s.ext x1).ext x2).ext x3).writeOO hi hp hH3 hq ⟨_, upd_same, rv.put (r1.mono (x2.ff.trans x3.ff))⟩)
/-- x[j].append(e) -/
def sOOApp (i : Nat) (fj fe : DE) : DS := fun ρ => (fj ρ).bind fun jd => (fe ρ).bind fun d => (ooAt ρ i).bind fun zs => (intOf jd).bind fun jj =>
  (ixN zs.length jj).bind fun j => (zs[j]?).bind fun x => (appD d x).map fun x' => .nx (ρ.set i (.oo (zs.set j x')))
theorem s_ooApp {i : Nat} {o jx : Expr} {fj fe : DE} {p1 apos cpos : Pos} (hx : PE X o (tVar i)) (hj : PE X jx (tE fj)) (he : PE X e (tE fe)) (hix : PlainIx jx := by exact fun _ _ => rfl) (hbase : attributeBase (.Subscript o jx p1) "append" X.env (eval (.Subscript o jx p1) X.env) = eval (.Subscript o jx p1) X.env := by rfl)
    (hfew : ((backTo cpos (starEach [e] X.env)).all (fun x => !x.1) && (backToKw cpos (keywordEach [] X.env)).all (fun x => x.1.isSome) && decide (([e] : List Expr).length + ([] : List Keyword).length + (if ([] : List Keyword).isEmpty then 0 else 1) < 30)) = true := by rfl)
    (hline : (apos.endLine == cpos.line) = true := by rfl) (h1 : starEach [e] X.env = (false, eval e X.env) :: starEach [] X.env := by rfl) (hplain : (backTo cpos (starEach [] X.env)).any (·.1) = false := by rfl) (hs : swapsWith (.Call (.Attribute (.Subscript o jx p1) "append" apos) [e] [] cpos) none pos.line X.env = pure false := by rfl) :
    PS X (.Expr (.Call (.Attribute (.Subscript o jx p1) "append" apos) [e] [] cpos) pos) (tS (sOOApp i fj fe)) :=
  (ps_expr (pe_bm PySem.F.plainAttrs_list PySem.F.slot_list_append PySem.F.type_list_append mt_append (pe_ix ix_list hx hj hix) (pa_cons he pa_nil h1) hbase hfew hline h1 hplain) hs).imp fun D σ H ⟨F0, H0, F, ρ, out, s, q, k, _⟩ => by
    obtain ⟨jd, hjd, q_1⟩ := Option.bind_eq_some_iff.mp q
    obtain ⟨d, hd, q_2⟩ := Option.bind_eq_some_iff.mp q_1
    obtain ⟨zs, hzs, q_3⟩ := Option.bind_eq_some_iff.mp q_2
    have hi := ooAt_some hzs
    obtain ⟨jj, hint, q_4⟩ := Option.bind_eq_some_iff.mp q_3
    have eint := intOf_some hint
    subst eint
    obtain ⟨j, hjj, q_5⟩ := Option.bind_eq_some_iff.mp q_4
    obtain ⟨x, hxj, q_6⟩ := Option.bind_eq_some_iff.mp q_5
    obtain ⟨x', hput, q_7⟩ := Option.map_eq_some_iff.mp q_6
    subst q_7
    obtain ⟨p, qs, hp, _⟩ := slOO s.env hi (Ext.refl s.fh)
    refine ⟨_, hp, F, ρ, _, s.fh, s.env, hjd, fun y F2 H2 x2 r2 => ?_⟩
    cases r2
    obtain ⟨p2, qs2, hp2, _, hH2, ow2⟩ := slOO s.env hi x2
    rw [hp] at hp2; cases hp2
    obtain ⟨q0, hq, nq, oq⟩ := ow2.at hxj
    obtain ⟨xs, rfl, ok, rfl⟩ := appD_some hput
    obtain ⟨vs0, e0, _⟩ := id oq
    refine ⟨p, qs2.map V.ref, jj, .ref q0, rfl, rfl, SqL.of hH2, atI_int (j := j) (by rw [List.length_map, ow2.len]; exact hjj) (by rw [List.getElem?_map, hq]; rfl), .inl ⟨rfl, _, SqL.of e0⟩, ?_⟩
    refine ⟨F2, ρ, d, x2.fh, s.env.ext x2, hd, fun z F3 H3 x3 r3 => ?_⟩
    obtain ⟨vs, e3, rv⟩ := oq.mono x3.ff (fun o e => x3.hh _ _ e)
    have hH3 := x3.hh _ _ hH2
    refine ⟨q0, vs, z, rfl, rfl, e3, by rw [rv.length]; exact okLen_lt ok, ?_⟩
    exact k _ rfl F3 σ _ (((s.ext x2).ext x3).writeOO hi hp hH3 hq ⟨_, upd_same, rv.append (.cons r3 .nil)⟩)
/-- x[j].update(x[k]) -/
def updD : PyData → PyData → Option PyData
  | .dict a, .dict b => if okLen (a.length + b.length) then some (.dict (mergeD a b)) else none
  | _, _ => none
def sOOUpd (i : Nat) (fj fk : DE) : DS := fun ρ => (fj ρ).bind fun jd => (fk ρ).bind fun kd => (ooAt ρ i).bind fun zs => (intOf jd).bind fun jj => (intOf kd).bind fun kk =>
  (ixN zs.length jj).bind fun j => (ixN zs.length kk).bind fun m => if j = m then none else (zs[j]?).bind fun x => (zs[m]?).bind fun y => (updD x y).map fun x' => .nx (ρ.set i (.oo (zs.set j x')))
theorem updD_some {x y x' : PyData} (h : updD x y = some x') : ∃ ka kb, x = .dict ka ∧ y = .dict kb ∧ okLen (ka.length + kb.length) = true ∧ x' = .dict (mergeD ka kb) := by
  unfold updD at h
  split at h
  · split at h
    · rename_i ok; cases h; exact ⟨_, _, rfl, rfl, ok, rfl⟩
    · cases h
  · cases h
theorem s_ooUpd {i : Nat} {o o2 jx kx : Expr} {fj fk : DE} {p1 p2 apos cpos : Pos} (hx : PE X o (tVar i)) (hj : PE X jx (tE fj)) (hx2 : PE X o2 (tVar i)) (hk : PE X kx (tE fk)) (hix : PlainIx jx := by exact fun _ _ => rfl) (hix2 : PlainIx kx := by exact fun _ _ => rfl)
    (hbase : attributeBase (.Subscript o jx p1) "update" X.env (eval (.Subscript o jx p1) X.env) = eval (.Subscript o jx p1) X.env := by rfl)
    (hfew : ((backTo cpos (starEach [.Subscript o2 kx p2] X.env)).all (fun x => !x.1) && (backToKw cpos (keywordEach [] X.env)).all (fun x => x.1.isSome) && decide (([.Subscript o2 kx p2] : List Expr).length + ([] : List Keyword).length + (if ([] : List Keyword).isEmpty then 0 else 1) < 30)) = true := by rfl)
    (hline : (apos.endLine == cpos.line) = true := by rfl) (h1 : starEach [.Subscript o2 kx p2] X.env = (false, eval (.Subscript o2 kx p2) X.env) :: starEach [] X.env := by rfl) (hplain : (backTo cpos (starEach [] X.env)).any (·.1) = false := by rfl) (hs : swapsWith (.Call (.Attribute (.Subscript o jx p1) "update" apos) [.Subscript o2 kx p2] [] cpos) none pos.line X.env = pure false := by rfl) :
    PS X (.Expr (.Call (.Attribute (.Subscript o jx p1) "update" apos) [.Subscript o2 kx p2] [] cpos) pos) (tS (sOOUpd i fj fk)) :=
  (ps_expr (pe_bm PySem.F.plainAttrs_dict PySem.F.slot_dict_update PySem.F.type_dict_update mt_update (pe_ix ix_list hx hj hix) (pa_cons (pe_ix ix_list hx2 hk hix2) pa_nil h1) hbase hfew hline h1 hplain) hs).imp fun D σ H ⟨F0, H0, F, ρ, out, s, q, k, _⟩ => by
    obtain ⟨jd, hjd, q_1⟩ := Option.bind_eq_some_iff.mp q
    obtain ⟨kd, hkd, q_2⟩ := Option.bind_eq_some_iff.mp q_1
    obtain ⟨zs, hzs, q_3⟩ := Option.bind_eq_some_iff.mp q_2
    have hi := ooAt_some hzs
    obtain ⟨jj, hint, q_4⟩ := Option.bind_eq_some_iff.mp q_3
    have eint := intOf_some hint
    subst eint
    obtain ⟨kk, hint2, q_5⟩ := Option.bind_eq_some_iff.mp q_4
    have eint2 := intOf_some hint2
    subst eint2
    obtain ⟨j, hjj, q_6⟩ := Option.bind_eq_some_iff.mp q_5
    obtain ⟨m, hmm, q_7⟩ := Option.bind_eq_some_iff.mp q_6
    split at q_7
    · cases q_7
    · rename_i hne
      obtain ⟨x, hxj, q_8⟩ := Option.bind_eq_some_iff.mp q_7
      obtain ⟨y, hym, q_9⟩ := Option.bind_eq_some_iff.mp q_8
      obtain ⟨x', hput, q_10⟩ := Option.map_eq_some_iff.mp q_9
      subst q_10
      obtain ⟨ka, kb, rfl, rfl, ok, rfl⟩ := updD_some hput
      obtain ⟨p, qs, hp, _⟩ := slOO s.env hi (Ext.refl s.fh)
      refine ⟨_, hp, F, ρ, _, s.fh, s.env, hjd, fun y F2 H2 x2 r2 => ?_⟩
      cases r2
      obtain ⟨p2, qs2, hp2, _, hH2, ow2⟩ := slOO s.env hi x2
      rw [hp] at hp2; cases hp2
      obtain ⟨q0, hq, nq, oq⟩ := ow2.at hxj
      obtain ⟨ps0, e0, _⟩ := id oq
      refine ⟨p, qs2.map V.ref, jj, .ref q0, rfl, rfl, SqL.of hH2, atI_int (j := j) (by rw [List.length_map, ow2.len]; exact hjj) (by rw [List.getElem?_map, hq]; rfl), .inr (.inr (.inl ⟨rfl, .inl ⟨_, e0⟩⟩)), ?_⟩
      refine ⟨_, hp, F2, ρ, _, x2.fh, s.env.ext x2, hkd, fun z F3 H3 x3 r3 => ?_⟩
      cases r3
      have hH3 := x3.hh _ _ hH2
      have ow3 := ow2.ext x3
      obtain ⟨r, hr, nr, orr⟩ := ow3.at hym
      obtain ⟨pa, ea, ra⟩ := oq.mono x3.ff (fun o e => x3.hh _ _ e)
      obtain ⟨pb, eb, rb⟩ := orr
      have hqr : q0 ≠ r := fun z => by
        subst z
        have s3 := (s.ext x2).ext x3
        obtain ⟨y', hy', p', qs', e, _, hp', _, nd⟩ := s3.env.get hi
        rw [hp] at hy'; cases hy'; cases e
        rw [hH3] at hp'
        have eq : qs2 = qs' := by
          have := Option.some.inj hp'
          injection this with this
          exact List.map_inj_right (fun _ _ z => V.ref.inj z) |>.mp this
        subst eq
        exact hne (nodup_ix' (List.nodup_cons.mp nd).2 hq hr)
      refine ⟨p, qs2.map V.ref, kk, .ref r, rfl, rfl, SqL.of hH3, atI_int (j := m) (by rw [List.length_map, ow3.len]; exact hmm) (by rw [List.getElem?_map, hr]; rfl), ?_⟩
      refine ⟨q0, r, pa, pb, rfl, rfl, hqr, ea, eb, by rw [ra.length, rb.length]; exact okLen_le ok, ?_⟩
      exact k _ rfl F3 σ _ (((s.ext x2).ext x3).writeOO hi hp hH3 hq ⟨_, upd_same, RpK.merge ra rb⟩)
end
end Ea
end
section
set_option Elab.async false
set_option linter.all false
set_option maxRecDepth 100000
set_option maxHeartbeats 4000000
/-! EaI: dict comprehensions, pairs assigned, while, calls with keywords, defs -/
namespace Ea
open PySem PySem.Spec L2
open PyProof.Rows hiding St

section
variable {X : Cx} {e a b c tg iter : Expr} {st : Stmt} {sts rest : List Stmt} {pos : Pos}
/-! ### {k: v for ..} -/
def dcGo (ρ : En) (g : DG) (fk fv : DE) : List PyData → List (PyData × PyData) → Option (List (PyData × PyData))
  | [], acc => some acc
  | x :: r, acc => match g x ρ with
    | none => none
    | some ρ1 => match fk ρ1 with
      | some (.int k) => (match fv ρ1 with | none => none | some v => dcGo ρ g fk fv r (putD acc k v))
      | _ => none
theorem dcGo_cons {ρ : En} {g : DG} {fk fv : DE} {x : PyData} {r : List PyData} {acc ys : List (PyData × PyData)} (h : dcGo ρ g fk fv (x :: r) acc = some ys) :
    ∃ ρ1 k v, g x ρ = some ρ1 ∧ fk ρ1 = some (.int k) ∧ fv ρ1 = some v ∧ dcGo ρ g fk fv r (putD acc k v) = some ys := by
  unfold dcGo at h
  split at h
  · cases h
  · rename_i ρ1 h1
    split at h
    · rename_i k h2
      split at h
      · cases h
      · rename_i v h3
        exact ⟨ρ1, k, v, h1, h2, h3, h⟩
    · cases h
def eDc (fi : DI) (vs : List Nat) (g : DG) (fk fv : DE) : DE := fun ρ => (fi ρ).bind fun xs => if okLen xs.length then (dcGo (wipeE ρ vs) g fk fv xs []).map .dict else none
theorem putD_len (kvs : List (PyData × PyData)) (k : Int) (d : PyData) : (putD kvs k d).length ≤ kvs.length + 1 := by
  unfold putD
  split
  · rw [List.length_map]; omega
  · rw [List.length_append]; exact Nat.le_refl _
theorem e_dc {kx vx : Expr} {scope : Scope} {own : List (Str × Nat)} {fi : DI} {g : DG} {fk fv : DE} (hc : X.calm = true) (hN : X.N.Nodup) (hi : PI X tg iter (tI fi)) (ok : BlkOk X.N X.env.scope scope own)
    (hg : ∀ (s : Shared) (H : Hp) (C : Addr) (cl : List (Str × Addr)) (fp : List Addr), PG (X.blk s H scope (compEnvC scope cl C X.env) fp) tg (tG (own.map (·.2)) g))
    (hk : ∀ (s : Shared) (H : Hp) (C : Addr) (cl : List (Str × Addr)) (fp : List Addr), PE (X.blk s H scope (compEnvC scope cl C X.env) fp) kx (tE fk))
    (hv : ∀ (s : Shared) (H : Hp) (C : Addr) (cl : List (Str × Addr)) (fp : List Addr), PE (X.blk s H scope (compEnvC scope cl C X.env) fp) vx (tE fv))
    (hs : ∀ x, foldedSetIterable iter X.env x = pure x := by intro _; rfl) : PE X (.DictComp kx vx [⟨tg, iter, [], 0⟩] scope pos) (tE (eDc fi (own.map (·.2)) g fk fv)) :=
  frozen ((pe_dc hc hN hi ok hg (fun _ _ _ _ _ => pts_nil) hk hv hs).imp fun σ H Q ⟨F, ρ, d, s, r, q, k⟩ => by
    unfold eDc at q
    obtain ⟨xs, hx, q1⟩ := Option.bind_eq_some_iff.mp q
    split at q1
    · rename_i ok
      obtain ⟨ys, hy, q2⟩ := Option.map_eq_some_iff.mp q1
      subst q2
      refine ⟨F, ρ, xs, s, r, hx, fun J F1 H1 x1 W D nD => ?_⟩
      have okl := okLen_le ok
      refine ⟨fun i m H' => m = xs.length - i ∧ i ≤ xs.length ∧ ∃ F2 ps accD, Ext F1 H1 F2 H' ∧ F2 D = none ∧ H' D = some (.dK ps) ∧ ps.length ≤ i ∧ RpK F2 ps accD ∧ dcGo (wipeE ρ (own.map (·.2))) g fk fv (xs.drop i) accD = some ys,
        ⟨xs.length, rfl, Nat.zero_le _, F1, [], [], Ext.fresh x1.fh nD, x1.fh.noneL nD, upd_same, Nat.le_refl _, .nil, hy⟩, ?_⟩
      rintro i m H2 ⟨rfl, hi, F2, ps, accD, x2, nF, hD, hl, ra, hgo⟩
      by_cases hlt : i < xs.length
      · refine .inr ⟨W.goes i H2 hlt (x2.ff.trans x2.fh), fun H' => i + 1 ≤ xs.length ∧ ∃ F2 ps accD, Ext F1 H1 F2 H' ∧ F2 D = none ∧ H' D = some (.dK ps) ∧ ps.length ≤ i + 1 ∧ RpK F2 ps accD ∧ dcGo (wipeE ρ (own.map (·.2))) g fk fv (xs.drop (i + 1)) accD = some ys,
          fun H' h => ⟨xs.length - (i + 1), by omega, rfl, h.1, h.2⟩, fun x H3 y => ?_⟩
        obtain ⟨F3, d, x3, hd, rd⟩ := W.yields i F2 H2 x H3 hlt x2.ff x2.fh y
        have hdr : xs.drop i = d :: xs.drop (i + 1) := by
          rw [List.drop_eq_getElem_cons hlt]
          have := List.getElem?_eq_getElem hlt
          rw [hd] at this
          cases this; rfl
        rw [hdr] at hgo
        obtain ⟨ρ1, kk, vv, hg1, hk1, hv1, hgo'⟩ := dcGo_cons hgo
        have x13 := x2.trans x3
        have nF3 : F3 D = none := x3.stays nF hD
        have hD3 := x3.hh _ _ hD
        refine ⟨F3, wipeE ρ (own.map (·.2)), d, ρ1, x3.fh, ((r.ext x1).ext x13).wipe _, rd, hg1, fun σ2 r2 agr => ⟨wipe_agr agr, ?_⟩⟩
        unfold tYes
        dsimp only
        rw [if_pos rfl]
        refine ⟨F3, ρ1, _, x3.fh, r2, hk1, fun y F4 H4 x4 r4 => ?_⟩
        cases r4
        refine ⟨F4, ρ1, _, x4.fh, r2.ext x4, hv1, fun z F5 H5 x5 r5 => ?_⟩
        have x35 := x4.trans x5
        have nF5 : F5 D = none := x35.stays nF3 hD3
        have hD5 := x35.hh _ _ hD3
        have xx := x13.trans x35
        have ra5 := ra.mono (x3.ff.trans x35.ff)
        refine ⟨ps, .inl kk, rfl, hD5, by omega, hlt, F5, _, _, ⟨xx.ff, same_upd2 xx.fh nF5, fun b o e => ?_, xx.nw⟩, nF5, upd_same, ?_, ra5.put r5, hgo'⟩
        · rw [upd_ne (ne_of_none e nD)]
          exact xx.hh _ _ e
        · have := length_putK ps (Sum.inl kk) z
          omega
      · have e : i = xs.length := by omega
        subst e
        rw [List.drop_length] at hgo
        cases hgo
        exact .inl ⟨W.stops H2 (x2.ff.trans x2.fh), k D F2 H2 (x1.trans x2) nF (x1.hh.free nD) ⟨ps, hD, ra⟩⟩
    · cases q1)

/-! ### a, b = e1, e2 -/
def sPar (i j : Nat) (fa fb : DE) : DS := fun ρ => (fa ρ).bind fun x => (fb ρ).bind fun y => some (.nx ((ρ.set i (.d x)).set j (.d y)))
theorem s_par {i j : Nat} {x y : Str} {a b : Expr} {fa fb : DE} {px py pt : Pos} {kt k2 : Nat} {pt2 : Pos} (hc : X.calm = true) (hN : X.N.Nodup) (hi : X.N[i]? = some x) (hj : X.N[j]? = some y) (hij : i ≠ j)
    (hx : X.env.scope.names.lookup x = some .local) (hy : X.env.scope.names.lookup y = some .local) (ha : PE X a (tE fa)) (hb : PE X b (tE fb))
    (hw : swappedStores [.Tuple [.Name x px, .Name y py] kt pt] (.Tuple [a, b] k2 pt2) X.env = pure (some [x, y]))
    (hs : swapsWithSole [.Tuple [.Name x px, .Name y py] kt pt] (.Tuple [a, b] k2 pt2) pos.line X.env = pure false := by rfl)
    (h1 : starEach [a, b] X.env = (false, eval a X.env) :: starEach [b] X.env := by rfl) (h2 : starEach [b] X.env = (false, eval b X.env) :: starEach [] X.env := by rfl) :
    PS X (.Assign [.Tuple [.Name x px, .Name y py] kt pt] (.Tuple [a, b] k2 pt2) pos) (tS (sPar i j fa fb)) :=
  (ps_par hc hN hi hj hij hx hy (pa_cons ha (pa_cons hb pa_nil h2) h1) hw hs).imp fun D σ H ⟨F0, H0, F, ρ, out, s, q, k, _⟩ => by
    obtain ⟨da, hda, q1⟩ := Option.bind_eq_some_iff.mp q
    obtain ⟨db, hdb, q2⟩ := Option.bind_eq_some_iff.mp q1
    cases q2
    refine ⟨F, ρ, da, s.fh, s.env, hda, fun v F1 H1 x1 r1 => ⟨F1, ρ, db, x1.fh, s.env.ext x1, hdb, fun w F2 H2 x2 r2 => ⟨v, w, rfl, ?_⟩⟩⟩
    exact k _ rfl F2 _ H2 ((((s.ext x1).ext x2).setD (r1.mono x2.ff)).setD r2)
def sParO (i j : Nat) (fa fb : DE) : DS := fun ρ => (fa ρ).bind fun x => (fb ρ).bind fun y => some (.nx ((ρ.set i (.d x)).set j (.o y)))
theorem StR.setDO {F0 H0 F H F1 H1 F2 H2 : Hp} {ρ : En} {σ : St} {i j : Nat} {v : V} {p : Addr} {da db : PyData} (s : StR F0 H0 ρ F σ H) (x1 : Ext F H F1 H1) (r1 : Rp F1 v da) (x2 : Ext F1 H1 F2 H2) (n : F2 p = none) (m : H1 p = none) (o : Own F2 H2 p db) : StR F0 H0 ((ρ.set i (.d da)).set j (.o db)) F2 ((σ.set i (some v)).set j (some (.ref p))) H2 :=
  ((s.ext x1).setD r1).setO x2 n m o
theorem s_parO {i j : Nat} {x y : Str} {a b : Expr} {fa fb : DE} {px py pt : Pos} {kt k2 : Nat} {pt2 : Pos} (hc : X.calm = true) (hN : X.N.Nodup) (hi : X.N[i]? = some x) (hj : X.N[j]? = some y) (hij : i ≠ j)
    (hx : X.env.scope.names.lookup x = some .local) (hy : X.env.scope.names.lookup y = some .local) (ha : PE X a (tE fa)) (hb : PE X b (tO fb))
    (hw : swappedStores [.Tuple [.Name x px, .Name y py] kt pt] (.Tuple [a, b] k2 pt2) X.env = pure (some [x, y]))
    (hs : swapsWithSole [.Tuple [.Name x px, .Name y py] kt pt] (.Tuple [a, b] k2 pt2) pos.line X.env = pure false := by rfl)
    (h1 : starEach [a, b] X.env = (false, eval a X.env) :: starEach [b] X.env := by rfl) (h2 : starEach [b] X.env = (false, eval b X.env) :: starEach [] X.env := by rfl) :
    PS X (.Assign [.Tuple [.Name x px, .Name y py] kt pt] (.Tuple [a, b] k2 pt2) pos) (tS (sParO i j fa fb)) :=
  (ps_par hc hN hi hj hij hx hy (pa_cons ha (pa_cons hb pa_nil h2) h1) hw hs).imp fun D σ H ⟨F0, H0, F, ρ, out, s, q, k, _⟩ => by
    obtain ⟨da, hda, q1⟩ := Option.bind_eq_some_iff.mp q
    obtain ⟨db, hdb, q2⟩ := Option.bind_eq_some_iff.mp q1
    cases q2
    refine ⟨F, ρ, da, s.fh, s.env, hda, fun v F1 H1 x1 r1 => ⟨F1, ρ, db, x1.fh, s.env.ext x1, hdb, fun p F2 H2 x2 n m o => ⟨v, .ref p, rfl, ?_⟩⟩⟩
    exact k _ rfl F2 _ H2 (s.setDO x1 r1 x2 n m o)
/-- the same where a name is a cell: a tuple is made and taken apart -/
theorem s_tupO {i j : Nat} {x y : Str} {a b : Expr} {fa fb : DE} {px py pt : Pos} {kt k2 : Nat} {pt2 : Pos} (hc : X.calm = true) (hN : X.N.Nodup) (hi : X.N[i]? = some x) (hj : X.N[j]? = some y)
    (hx : Loc X.env.scope x) (hy : Loc X.env.scope y) (ha : PE X a (tE fa)) (hb : PE X b (tO fb)) (hfn : ∀ x, X.fn x = true)
    (hs : swapsWithSole [.Tuple [.Name x px, .Name y py] kt pt] (.Tuple [a, b] k2 pt2) pos.line X.env = pure false := by rfl) (hw : swappedStores [.Tuple [.Name x px, .Name y py] kt pt] (.Tuple [a, b] k2 pt2) X.env = pure none := by rfl)
    (h0 : (assignEach [.Tuple [.Name x px, .Name y py] kt pt] X.env).map (·.2) = [assign (.Tuple [.Name x px, .Name y py] kt pt) X.env] := by rfl)
    (h1 : starEach [a, b] X.env = (false, eval a X.env) :: starEach [b] X.env := by rfl) (h2 : starEach [b] X.env = (false, eval b X.env) :: starEach [] X.env := by rfl)
    (h3 : (assignEach [.Name x px, .Name y py] X.env).map (·.2) = assign (.Name x px) X.env :: (assignEach [.Name y py] X.env).map (·.2) := by rfl)
    (h4 : (assignEach [.Name y py] X.env).map (·.2) = assign (.Name y py) X.env :: (assignEach [] X.env).map (·.2) := by rfl)
    (h5 : (assignEach [.Name x px, .Name y py] X.env).length = 2 := by rfl) (h6 : (assignEach [.Name x px, .Name y py] X.env).findIdx? (·.1) = none := by rfl) :
    PS X (.Assign [.Tuple [.Name x px, .Name y py] kt pt] (.Tuple [a, b] k2 pt2) pos) (tS (sParO i j fa fb)) :=
  (ps_asg (pe_tup (pa_cons ha (pa_cons hb pa_nil h2) h1)) (pg_tup hc (pgs_cons (pg_name hN hi hx (.inl (hfn x))) (pgs_cons (pg_name hN hj hy (.inl (hfn y))) pgs_nil h4) h3) h5 h6) hs hw h0).imp fun D σ H ⟨F0, H0, F, ρ, out, s, q, k, _⟩ => by
    obtain ⟨da, hda, q1⟩ := Option.bind_eq_some_iff.mp q
    obtain ⟨db, hdb, q2⟩ := Option.bind_eq_some_iff.mp q1
    cases q2
    refine ⟨F, ρ, da, s.fh, s.env, hda, fun v F1 H1 x1 r1 => ⟨F1, ρ, db, x1.fh, s.env.ext x1, hdb, fun p F2 H2 x2 n m o => ?_⟩⟩
    refine ⟨by show 2 ≤ sizeLine; rw [sizeLine_eq]; decide, fun t nt => ⟨t, _, rfl, SqT.of upd_same, rfl, _, _, rfl, _, _, rfl, rfl, ?_⟩⟩
    exact k _ rfl F2 _ _ (s.setDO x1 r1 (x2.trans (Ext.fresh x2.fh nt)) n m (o.mono (Same.refl _) fun o e => by rw [upd_ne (ne_of_none e nt)]; exact e))

/-! ### while -/
def whileGo (t : DT) (fb : DS) : Nat → En → Option En
  | 0, _ => none
  | n + 1, ρ => match t ρ with
    | some false => some ρ
    | some true => (match fb ρ with | some (.nx ρ') => whileGo t fb n ρ' | _ => none)
    | none => none
def sWhile (n : Nat) (t : DT) (fb : DS) : DS := fun ρ => (whileGo t fb n ρ).map .nx
theorem s_while {n : Nat} {body : List Stmt} {t : DT} {fb : DS} (hp : PassesOwn (model X.prog X.w) X.A X.env X.xe) (hc : PT X c (tT t)) (hb : PSs X body (tS fb)) : PS X (.While c body [] pos) (tS (sWhile n t fb)) :=
  (ps_while hp hc hb).imp fun D σ H ⟨F0, H0, F, ρ, out, s, q, k, _⟩ => by
    obtain ⟨ρ', hgo, q1⟩ := Option.map_eq_some_iff.mp q
    subst q1
    refine ⟨fun m σ H => ∃ F ρ, StR F0 H0 ρ F σ H ∧ whileGo t fb m ρ = some ρ', ⟨n, F, ρ, s, hgo⟩, ?_⟩
    rintro m σ1 H1 ⟨F1, ρ1, s1, hgo1⟩
    cases m with
    | zero => cases hgo1
    | succ m =>
      unfold whileGo at hgo1
      split at hgo1
      · rename_i ht
        cases hgo1
        exact ⟨F1, ρ', false, s1.fh, s1.env, ht, fun F' H' x => iteF (k _ rfl F' σ1 H' (s1.ext x))⟩
      · rename_i ht
        split at hgo1
        · rename_i ρ2 hb2
          refine ⟨F1, ρ1, true, s1.fh, s1.env, ht, fun F' H' x => iteT ?_⟩
          refine ⟨fun σ' H' => ∃ F ρ, StR F0 H0 ρ F σ' H' ∧ whileGo t fb m ρ = some ρ', fun σ' H' h => ⟨m, Nat.lt_succ_self m, h⟩, ?_⟩
          refine ⟨F0, H0, F', ρ1, _, s1.ext x, hb2, fun ρ3 e F2 σ2 H2 s2 => ?_, fun d e => by cases e⟩
          cases e
          exact ⟨F2, ρ2, s2, hgo1⟩
        · cases hgo1
      · cases hgo1

/-! ### calls with keywords alone -/
theorem _root_.L2.PK.imp {kws : List Keyword} {t t' : TA} (h : PK X kws t) (k : ∀ σ H Q, t' σ H Q → t σ H Q) : PK X kws t' := ⟨fun pos pins s σ H Q I q => h.run pos pins s σ H Q I (k σ H Q q)⟩
theorem k_nil : PK X [] (tA aNil) := pk_nil.imp fun σ H Q ⟨F, ρ, d, s, r, q, k⟩ => by cases q; exact k [] F H (Ext.refl s) .nil
theorem k_cons {nm : Option Str} {kpos : Pos} {kws : List Keyword} {f : DE} {fs : DA} (h : PE X e (tE f)) (hr : PK X kws (tA fs)) : PK X (⟨nm, e, kpos⟩ :: kws) (tA (aCons f fs)) :=
  (pk_cons h hr).imp fun σ H Q ⟨F, ρ, d, s, r, q, k⟩ => by
    unfold aCons at q
    obtain ⟨da, ha, q1⟩ := Option.bind_eq_some_iff.mp q
    obtain ⟨db, hb, q2⟩ := Option.bind_eq_some_iff.mp q1
    cases q2
    exact ⟨F, ρ, da, s, r, ha, fun x F1 H1 x1 r1 => ⟨F1, ρ, db, x1.fh, r.ext x1, hb, fun y F2 H2 x2 r2 => k _ F2 H2 (x1.trans x2) (.cons (r1.mono x2.ff) r2)⟩⟩
theorem pe_callK0 {CX : CXT} {k : Nat} {f : Addr} {fd : FuncData} {ps ks : List Str} {sp : Sp} {E : XK} {x : Str} {p : Pos} {kws : List Keyword} {tk : TA} {g : List Value → List Value → List Value} {gV : List V → List V → List V}
    (F : FnOk X.prog X.w X.K X.mg X.base CX k f fd ps sp) (hr : Room k X.A) (hg : Gl X x) (hm : X.mg x = some (.ref f)) (hk : PySem.W.keepIn X.K (.ref f) = true) (hb : KBinds X.K fd ps ks g gV) (hx : Passes CX X E)
    (hkw : PK X kws tk) (hall : (backToKw pos (keywordEach kws X.env)).all (·.1.isSome) = true := by rfl) (hks : (backToKw pos (keywordEach kws X.env)).filterMap (·.1) = ks := by rfl)
    (hdb : (x == ("__debug__" : Str)) = false := by decide)
    (hpl : ((backTo pos (starEach [] X.env)).any (·.1) || (backToKw pos (keywordEach kws X.env)).any (·.1.isNone)) = false := by rfl) :
    PE X (.Call (.Name x p) [] kws pos) (tCallK sp gV E tNil tk) := by
  refine ⟨fun pins s σ H Q I h => ?_⟩
  refine wpAny_Call_Name_kw (ld_glob I hg hm ?_ hdb)
  refine PySem.W.callWith_KW0 (h₀ := X.base) I.ok.mod.kin hk hall ?_ hpl
  refine thn (hkw.run pos pins s σ H _ I h) fun ws s2 ⟨zs, H2, I2, rz, q2⟩ => ⟨I2.kIn, ?_⟩
  rw [hks]
  exact run_fnk (us := []) (vs := []) F hr hb hx I2 .nil rz q2
/-- f(k = v, ..) where the def takes the values in the order pm tells -/
theorem e_callK {k n : Nat} {f : Addr} {fd : FuncData} {ps ks : List Str} {x : Str} {p : Pos} {kws : List Keyword} {gg : List Value → List Value → List Value} {gV : List V → List V → List V} {pm : List PyData → List PyData} {g : List PyData → Option PyData} {fs : DA}
    (F : FnOk X.prog X.w X.K X.mg X.base CX0 k f fd ps (spP n g)) (hr : Room k X.A) (hn : ∀ ds d, g ds = some d → ds.length = n) (hp : ∀ F zs ds, RpL F zs ds → RpL F (gV [] zs) (pm ds)) (hg : Gl X x) (hm : X.mg x = some (.ref f)) (hk : PySem.W.keepIn X.K (.ref f) = true) (hb : KBinds X.K fd ps ks gg gV)
    (hkw : PK X kws (tA fs)) (hall : (backToKw pos (keywordEach kws X.env)).all (·.1.isSome) = true := by rfl) (hks : (backToKw pos (keywordEach kws X.env)).filterMap (·.1) = ks := by rfl)
    (hdb : (x == ("__debug__" : Str)) = false := by decide)
    (hpl : ((backTo pos (starEach [] X.env)).any (·.1) || (backToKw pos (keywordEach kws X.env)).any (·.1.isNone)) = false := by rfl) :
    PE X (.Call (.Name x p) [] kws pos) (tE (eCall (fun ds => g (pm ds)) fs)) :=
  (pe_callK0 F hr hg hm hk hb pass0 hkw hall hks hdb hpl).imp fun σ H Q ⟨F, ρ, d, s, r, q, k⟩ => by
    obtain ⟨ds, hd, q1⟩ := Option.bind_eq_some_iff.mp q
    refine ⟨F, ρ, ds, s, r, hd, fun zs F1 H1 x1 r1 => ?_⟩
    have r2 := hp F1 zs ds r1
    exact ⟨by rw [r2.length]; exact hn _ _ q1, F1, pm ds, d, x1.fh, r2, q1, fun v F2 H2 x2 r2 => k v F2 H2 (x1.trans x2) r2⟩
end

/-! ### defs -/
def startE (m : Nat) (ds : List PyData) : En := ds.map .d ++ List.replicate (m - ds.length) .no
def defD (n m : Nat) (g : DS) : List PyData → Option PyData := fun ds => if ds.length = n then (match g (startE m ds) with | some (.rt d) => some d | some (.nx _) => some .none | none => none) else none
theorem defD_len {n m : Nat} {g : DS} {ds : List PyData} {d : PyData} (h : defD n m g ds = some d) : ds.length = n := by
  unfold defD at h
  split at h
  · assumption
  · cases h
theorem start_env {F H : Hp} {N : List Str} {vs : List V} {ds : List PyData} (r : RpL F vs ds) (hl : ds.length ≤ N.length) : EnvR F H (L2.start N vs) (startE N.length ds) := by
  refine ⟨?_, fun {i s} e => ?_⟩
  · unfold L2.start startE
    simp only [List.length_append, List.length_map, List.length_replicate, r.length]
  · unfold startE at e
    unfold L2.start
    by_cases hi : i < ds.length
    · rw [List.getElem?_append_left (by simpa using hi), List.getElem?_map, List.getElem?_eq_getElem hi] at e
      cases e
      obtain ⟨v, hv, rv⟩ := r.get (List.getElem?_eq_getElem hi)
      refine ⟨some v, ?_, v, rfl, rv⟩
      rw [List.getElem?_append_left (by simp [r.length]; exact hi), List.getElem?_map, hv]; rfl
    · rw [List.getElem?_append_right (by simpa using hi)] at e
      have e2 := List.mem_of_getElem? e
      have e3 : s = .no := (List.mem_replicate.mp e2).2
      subst e3
      have hi2 := (List.getElem?_eq_some_iff.mp e).1
      simp only [List.length_replicate, List.length_map] at hi2
      have hr := r.length
      refine ⟨none, ?_, trivial⟩
      rw [List.getElem?_append_right (by simp [hr]; omega), List.getElem?_replicate]
      rw [if_pos (by simp [hr]; omega)]
theorem startE_pure {m : Nat} {ds : List PyData} : ∀ (i : Nat) (s : Sl), (startE m ds)[i]? = some s → (∃ d, s = .d d) ∨ s = .no := fun i s e => by
  have hm := List.mem_of_getElem? e
  unfold startE at hm
  rcases List.mem_append.mp hm with h | h
  · obtain ⟨d, _, e⟩ := List.mem_map.mp h
    exact .inl ⟨d, e.symm⟩
  · exact .inr (List.mem_replicate.mp h).2
section
variable {P : Program} {w : World} {K : PySem.W.Frag} {mg : Str → Option Value} {base : Heap}
theorem okP {x qual : Str} {st : Stmt} {f : Addr} {fd : FuncData} {N ps : List Str} {k n m : Nat} {g : DS} {d : List PyData → Option PyData} (F : Fun K x qual st f fd) (S : FnScope N ps (defScope st)) (hn : ps.length = n) (hm : N.length = m) (hN : n ≤ m) (hd : d = defD n m g)
    (body : ∀ (cdv : Value) (A : Around) (outer : List Env) (s : Shared) (H : Hp) (E : XK), Room k (A.deeper (envOfC qual (defScope st) s.heap.objs.size f cdv)) →
      PSs (cxOf CX0 P w K mg base N qual (defScope st) f cdv A outer s H E).nox (defBody st) (tS g)) : FnOk P w K mg base CX0 (k + 1) f fd ps (spP n d) := by
  subst hd hn hm
  refine F.ok S (fun vs H Q E h => h.1) (fun cdv A outer s H vs Q E hr h => ⟨_, body cdv A outer s H E hr, ?_⟩)
  obtain ⟨hl, F', ds, d, sm, r, q, k⟩ := h
  have hd := defD_len q
  unfold defD at q
  rw [if_pos hd] at q
  have st : StR F' H (startE N.length ds) F' (L2.start N vs) H := StR.start sm (start_env r (by omega)) startE_pure
  split at q
  · rename_i d' hg
    cases q
    exact ⟨F', H, F', _, _, st, hg, (fun ρ' e => nomatch e), fun d2 e v F2 H2 x2 r2 => by cases e; exact k v F2 H2 x2 r2⟩
  · rename_i ρ' hg
    cases q
    exact ⟨F', H, F', _, _, st, hg, fun ρ2 e F2 σ2 H2 s2 => by cases e; exact k _ F2 H2 s2.out .non, (fun d2 e => nomatch e)⟩
  · cases q
end
end Ea
end
section
set_option Elab.async false
set_option linter.all false
set_option maxRecDepth 100000
set_option maxHeartbeats 4000000
/-! EaJ: what the top leaves: built-ins that are still themselves, defs by their denotations -/
namespace Ea
open PySem PySem.Spec L2
open PyProof.Rows hiding St

structure Tp (mg : Str → Option Value) : Prop where
  abs : mg "abs" = none
  int : mg "int" = none
  isi : mg "isinstance" = none
  bool : mg "bool" = none
  tuple : mg "tuple" = none
  list : mg "list" = none
  str : mg "str" = none
  all : mg "all" = none
  any : mg "any" = none
  sum : mg "sum" = none
  min : mg "min" = none
  sorted : mg "sorted" = none
  range : mg "range" = none
  len : mg "len" = none
  dict : mg "dict" = none
  zip : mg "zip" = none
  enum : mg "enumerate" = none
  few : ∃ t, mg "FEW" = some (.int 2000 t)
structure CallD (P : Program) (w : World) (K : PySem.W.Frag) (mg : Str → Option Value) (base : Heap) (x : Str) (k n : Nat) (g : List PyData → Option PyData) : Prop where
  ex : ∃ f fd ps, FnOk P w K mg base CX0 k f fd ps (spP n g) ∧ mg x = some (.ref f) ∧ PySem.W.keepIn K (.ref f) = true ∧ Binds K fd ps []
theorem CallD.mk' {P : Program} {w : World} {K : PySem.W.Frag} {mg : Str → Option Value} {base : Heap} {x : Str} {k n : Nat} {g : List PyData → Option PyData} {f : Addr} {fd : FuncData} {ps : List Str} (F : FnOk P w K mg base CX0 k f fd ps (spP n g)) (m : mg x = some (.ref f)) (kp : PySem.W.keepIn K (.ref f) = true) (b : Binds K fd ps []) : CallD P w K mg base x k n g := ⟨f, fd, ps, F, m, kp, b⟩
theorem _root_.L2.Room.u65 {k : Nat} {A : Around} (r : Room k A) : A.units + 65 < cLine := by have := r.un; omega
section
variable {X : Cx} {e a b c : Expr} {pos : Pos}
theorem e_callD {x : Str} {p : Pos} {es : List Expr} {k n : Nat} {g : List PyData → Option PyData} {fs : DA} (C : CallD X.prog X.w X.K X.mg X.base x k n g) (hr : Room k X.A) (hn : ∀ ds d, g ds = some d → ds.length = n) (hg : Gl X x)
    (ha : PA X (e :: es) (tA fs)) (hdb : (x == ("__debug__" : Str)) = false := by decide) (he : starEach (e :: es) X.env = (false, eval e X.env) :: starEach es X.env := by rfl) (hpl : (backTo pos (starEach es X.env)).any (·.1) = false := by rfl) :
    PE X (.Call (.Name x p) (e :: es) [] pos) (tE (eCall g fs)) := by
  obtain ⟨f, fd, ps, F, m, kp, bb⟩ := C.ex
  exact e_call (P := X.prog) F hr hn hg m kp bb ha hdb he hpl
theorem e_callD0 {x : Str} {p : Pos} {k n : Nat} {g : List PyData → Option PyData} (C : CallD X.prog X.w X.K X.mg X.base x k n g) (hr : Room k X.A) (hn : n = 0) (hg : Gl X x) (hdb : (x == ("__debug__" : Str)) = false := by decide) : PE X (.Call (.Name x p) [] [] pos) (tE (eCall g aNil)) := by
  obtain ⟨f, fd, ps, F, m, kp, bb⟩ := C.ex
  exact (pe_call0 F hr hg m kp bb .nil pass0 hdb).imp fun σ H Q ⟨F, ρ, d, s, r, q, k⟩ => by
    obtain ⟨ds, hd, q1⟩ := Option.bind_eq_some_iff.mp q
    cases hd
    exact ⟨hn.symm, F, [], d, s, .nil, q1, k⟩
/-- k in d, as a test -/
theorem t_din {fa fb : DE} (hu : X.A.units + 1 < cLine) (ha : PE X a (tE fa)) (hb : PE X b (tE fb)) (hm : behindInMarks .In b = false := by rfl) : PT X (.Compare a [.In] [b] pos) (tT (bO (e2 gDIn fa fb))) :=
  (pt_cmp (pc_din hu ha hb) hm).imp fun σ H Q h => tB_of (fun σ H Q ⟨F, ρ, d, s, r, q, k⟩ => by
    unfold e2 at q
    obtain ⟨da, hda, q1⟩ := Option.bind_eq_some_iff.mp q
    obtain ⟨db, hdb, q2⟩ := Option.bind_eq_some_iff.mp q1
    refine ⟨F, ρ, da, s, r, hda, fun x F1 H1 x1 r1 => ⟨F1, ρ, db, x1.fh, r.ext x1, hdb, fun y F2 H2 x2 r2 => ?_⟩⟩
    unfold gDIn at q2
    split at q2
    · cases q2
      have r1' := r1.mono x2.ff
      cases r1'
      cases r2 with | dic e1 t1 =>
      refine ⟨_, _, rfl, .inl ⟨_, .inl _, Rd.of (x2.fh _ _ e1), rfl, rfl⟩, ?_⟩
      rw [t1.isSome]
      exact k _ F2 H2 (x1.trans x2) (.bl _)
    · cases q2) h
theorem e_few {p : Pos} (hg : Gl X "FEW") (hm : ∃ t, X.mg "FEW" = some (.int 2000 t)) : PE X (.Name "FEW" p) (tE (eC (.int 2000))) := by
  obtain ⟨t, ht⟩ := hm
  exact e_globInt hg ht
end
end Ea
end
section
set_option Elab.async false
set_option linter.all false
set_option maxRecDepth 100000
set_option maxHeartbeats 4000000
namespace Ea
open PySem PySem.Spec L2
open PyProof.Rows hiding St
def topS (i : Nat) : Stmt := PySem.Challenge.pw_eatenorders_k16_whole_balanced_and_answe.main.body.getD i (.Pass ⟨0, 0, 0, 0⟩)
section
variable {P : Program} {w : World} {K : PySem.W.Frag} {mg : Str → Option Value} {base : Heap}
abbrev s_is_number : Stmt := topS 6
abbrev N_is_number : List Str := ["thing"]
theorem sc_is_number : FnScope N_is_number ["thing"] (defScope s_is_number) := ⟨rfl, rfl, rfl, by decide +kernel, rfl, by decide +kernel, by decide +kernel⟩
def b_is_number : DS := (sRet (eAnd (e1 (gIsi "int") (eV 0)) (eNot (e1 (gIsi "bool") (eV 0)))))
def d_is_number : List PyData → Option PyData := defD 1 1 b_is_number
theorem ok_is_number {f : Addr} {fd : FuncData} (F : Fun K "is_number" "is_number" s_is_number f fd) (T : Tp mg) : FnOk P w K mg base CX0 1 f fd ["thing"] (spP 1 d_is_number) :=
  okP (k := 0) (g := b_is_number) F sc_is_number rfl rfl (by decide) rfl fun cdv A outer s H E hr => (ss_one (s_ret (e_and (e_isi kit_int rfl T.isi boot_isinstance (v 0) rfl T.int PyProof.Rows.boot_int) (e_one (e_not (e_isi kit_bool rfl T.isi boot_isinstance (v 0) rfl T.bool PyProof.Rows.boot_bool))))))
abbrev s_is_from : Stmt := topS 7
abbrev N_is_from : List Str := ["thing", "least"]
theorem sc_is_from : FnScope N_is_from ["thing", "least"] (defScope s_is_from) := ⟨rfl, rfl, rfl, by decide +kernel, rfl, by decide +kernel, by decide +kernel⟩
def b_is_from : DS := (sRet (eAnd (eCall d_is_number (aCons (eV 0) aNil)) (e2 gGe (eV 0) (eV 1))))
def d_is_from : List PyData → Option PyData := defD 2 2 b_is_from
theorem ok_is_from {f : Addr} {fd : FuncData} (F : Fun K "is_from" "is_from" s_is_from f fd) (T : Tp mg) (c_is_number : CallD P w K mg base "is_number" 1 1 d_is_number) : FnOk P w K mg base CX0 2 f fd ["thing", "least"] (spP 2 d_is_from) :=
  okP (k := 1) (g := b_is_from) F sc_is_from rfl rfl (by decide) rfl fun cdv A outer s H E hr => (ss_one (s_ret (e_and (e_callD c_is_number (hr.mono (by decide)) (fun _ _ h => defD_len h) rfl (a_cons (v 0) a_nil)) (e_one (e_cmp oGe (v 0) (v 1))))))
abbrev s_is_within : Stmt := topS 8
abbrev N_is_within : List Str := ["thing", "least", "most"]
theorem sc_is_within : FnScope N_is_within ["thing", "least", "most"] (defScope s_is_within) := ⟨rfl, rfl, rfl, by decide +kernel, rfl, by decide +kernel, by decide +kernel⟩
def b_is_within : DS := (sRet (eAnd (eCall d_is_number (aCons (eV 0) aNil)) (eCh gLe gLe (eV 1) (eV 0) (eV 2))))
def d_is_within : List PyData → Option PyData := defD 3 3 b_is_within
theorem ok_is_within {f : Addr} {fd : FuncData} (F : Fun K "is_within" "is_within" s_is_within f fd) (T : Tp mg) (c_is_number : CallD P w K mg base "is_number" 1 1 d_is_number) : FnOk P w K mg base CX0 2 f fd ["thing", "least", "most"] (spP 3 d_is_within) :=
  okP (k := 1) (g := b_is_within) F sc_is_within rfl rfl (by decide) rfl fun cdv A outer s H E hr => (ss_one (s_ret (e_and (e_callD c_is_number (hr.mono (by decide)) (fun _ _ h => defD_len h) rfl (a_cons (v 0) a_nil)) (e_one (e_chain oLe oLe (v 1) (v 0) (v 2))))))
abbrev s_is_long : Stmt := topS 9
abbrev N_is_long : List Str := ["thing", "length"]
theorem sc_is_long : FnScope N_is_long ["thing", "length"] (defScope s_is_long) := ⟨rfl, rfl, rfl, by decide +kernel, rfl, by decide +kernel, by decide +kernel⟩
def b_is_long : DS := (sRet (eAnd (e1 (gIsi "tuple") (eV 0)) (e2 gEqI (eCall gLen (aCons (eV 0) aNil)) (eV 1))))
def d_is_long : List PyData → Option PyData := defD 2 2 b_is_long
theorem ok_is_long {f : Addr} {fd : FuncData} (F : Fun K "is_long" "is_long" s_is_long f fd) (T : Tp mg) : FnOk P w K mg base CX0 1 f fd ["thing", "length"] (spP 2 d_is_long) :=
  okP (k := 0) (g := b_is_long) F sc_is_long rfl rfl (by decide) rfl fun cdv A outer s H E hr => (ss_one (s_ret (e_and (e_isi kit_tuple rfl T.isi boot_isinstance (v 0) rfl T.tuple PyProof.Rows.boot_tuple) (e_one (e_cmp oEqI (e_callB cLen rfl T.len PySem.boot_len (a_cons (v 0) a_nil)) (v 1))))))
abbrev s_ascends : Stmt := topS 11
abbrev N_ascends : List Str := ["row", "k"]
theorem sc_ascends : FnScope N_ascends ["row"] (defScope s_ascends) := ⟨rfl, rfl, rfl, by decide +kernel, rfl, by decide +kernel, by decide +kernel⟩
def b_ascends : DS := (sRet (eCall gAll (aCons (eLc (iRg1 (e2 gSub (eCall gLen (aCons (eV 0) aNil)) (eC (.int 1)))) [1] (gN 1) dYes (e2 gLtT (e2 gIx (eV 0) (eV 1)) (e2 gIx (eV 0) (e2 gAdd (eV 1) (eC (.int 1)))))) aNil)))
def d_ascends : List PyData → Option PyData := defD 1 2 b_ascends
theorem ok_ascends {f : Addr} {fd : FuncData} (F : Fun K "ascends" "ascends" s_ascends f fd) (T : Tp mg) : FnOk P w K mg base CX0 1 f fd ["row"] (spP 1 d_ascends) :=
  okP (k := 0) (g := b_ascends) F sc_ascends rfl rfl (by decide) rfl fun cdv A outer s H E hr => (ss_one (s_ret (e_callB (cAll rfl) rfl T.all boot_all (a_cons (e_lc (own := [("k", 1)]) rfl sc_ascends.nd (i_rg1 rfl T.range (e_op oSub (e_callB cLen rfl T.len PySem.boot_len (a_cons (v 0) a_nil)) e_int)) (blkOk_by (own := [("k", 1)]) (N := N_ascends) (sc := defScope s_ascends) (by decide +kernel)) (fun _ _ _ _ _ => (g_name (i := 1) sc_ascends.nd rfl (by first | exact Or.inl rfl | exact Or.inr rfl))) (fun _ _ _ _ _ => ts_nil) (fun _ _ _ _ _ => (e_cmp (oLtT hr.units0) (e_ix (v 0) (v 1)) (e_ix (v 0) (e_op oAdd (v 1) e_int))))) a_nil))))
abbrev s_are_numbers : Stmt := topS 12
abbrev N_are_numbers : List Str := ["thing", "own"]
theorem sc_are_numbers : FnScope N_are_numbers ["thing"] (defScope s_are_numbers) := ⟨rfl, rfl, rfl, by decide +kernel, rfl, by decide +kernel, by decide +kernel⟩
def b_are_numbers : DS := (sRet (eAnd (e1 (gIsi "tuple") (eV 0)) (eCall gAll (aCons (eLc (iSeq (eV 0)) [1] (gN 1) dYes (eCall d_is_number (aCons (eV 1) aNil))) aNil))))
def d_are_numbers : List PyData → Option PyData := defD 1 2 b_are_numbers
theorem ok_are_numbers {f : Addr} {fd : FuncData} (F : Fun K "are_numbers" "are_numbers" s_are_numbers f fd) (T : Tp mg) (c_is_number : CallD P w K mg base "is_number" 1 1 d_is_number) : FnOk P w K mg base CX0 2 f fd ["thing"] (spP 1 d_are_numbers) :=
  okP (k := 1) (g := b_are_numbers) F sc_are_numbers rfl rfl (by decide) rfl fun cdv A outer s H E hr => (ss_one (s_ret (e_and (e_isi kit_tuple rfl T.isi boot_isinstance (v 0) rfl T.tuple PyProof.Rows.boot_tuple) (e_one (e_callB (cAll rfl) rfl T.all boot_all (a_cons (e_lc (own := [("own", 1)]) rfl sc_are_numbers.nd (i_seq (v 0)) (blkOk_by (own := [("own", 1)]) (N := N_are_numbers) (sc := defScope s_are_numbers) (by decide +kernel)) (fun _ _ _ _ _ => (g_name (i := 1) sc_are_numbers.nd rfl (by first | exact Or.inl rfl | exact Or.inr rfl))) (fun _ _ _ _ _ => ts_nil) (fun _ _ _ _ _ => (e_callD c_is_number (hr.mono (by decide)) (fun _ _ h => defD_len h) rfl (a_cons (v 1) a_nil)))) a_nil))))))
abbrev s_is_pair_of : Stmt := topS 14
abbrev N_is_pair_of : List Str := ["many", "thing"]
theorem sc_is_pair_of : FnScope N_is_pair_of ["many", "thing"] (defScope s_is_pair_of) := ⟨rfl, rfl, rfl, by decide +kernel, rfl, by decide +kernel, by decide +kernel⟩
def b_is_pair_of : DS := (sRet (eAnd (eCall d_is_long (aCons (eV 1) (aCons (eC (.int 2)) aNil))) (eAnd (eCall d_are_numbers (aCons (eV 1) aNil)) (eCh3 gLe gLt gLt (eC (.int 0)) (e2 gIx (eV 1) (eC (.int 0))) (e2 gIx (eV 1) (eC (.int 1))) (eV 0)))))
def d_is_pair_of : List PyData → Option PyData := defD 2 2 b_is_pair_of
theorem ok_is_pair_of {f : Addr} {fd : FuncData} (F : Fun K "is_pair_of" "is_pair_of" s_is_pair_of f fd) (T : Tp mg) (c_is_long : CallD P w K mg base "is_long" 1 2 d_is_long) (c_are_numbers : CallD P w K mg base "are_numbers" 2 1 d_are_numbers) : FnOk P w K mg base CX0 3 f fd ["many", "thing"] (spP 2 d_is_pair_of) :=
  okP (k := 2) (g := b_is_pair_of) F sc_is_pair_of rfl rfl (by decide) rfl fun cdv A outer s H E hr => (ss_one (s_ret (e_and (e_callD c_is_long (hr.mono (by decide)) (fun _ _ h => defD_len h) rfl (a_cons (v 1) (a_cons e_int a_nil))) (e_and (e_callD c_are_numbers (hr.mono (by decide)) (fun _ _ h => defD_len h) rfl (a_cons (v 1) a_nil)) (e_one (e_chain3 oLe oLt oLt e_int (e_ix (v 1) e_int) (e_ix (v 1) e_int) (v 0)))))))
abbrev s_directs_by : Stmt := topS 15
abbrev N_directs_by : List Str := ["many", "pairs", "found", "low", "high", "_", "row"]
theorem sc_directs_by : FnScope N_directs_by ["many", "pairs"] (defScope s_directs_by) := ⟨rfl, rfl, rfl, by decide +kernel, rfl, by decide +kernel, by decide +kernel⟩
def b_directs_by : DS := (sSeq (sSetOO 2 (.dict []) (iRg1 (eV 0))) (sSeq (sFor (iSeq (eV 1)) (gTupD 2 (gsCons (gN 3) (gsCons (gN 4) gsNil))) (sOOPut 2 (eV 3) (eV 4) (eC (.bool true)))) (sFrzOO 2 (sRet (eLc (iSeq (eV 2)) [6] (gN 6) dYes (eCall gSorted (aCons (eV 6) aNil)))))))
def d_directs_by : List PyData → Option PyData := defD 2 7 b_directs_by
theorem ok_directs_by {f : Addr} {fd : FuncData} (F : Fun K "directs_by" "directs_by" s_directs_by f fd) (T : Tp mg) : FnOk P w K mg base CX0 1 f fd ["many", "pairs"] (spP 2 d_directs_by) :=
  okP (k := 0) (g := b_directs_by) F sc_directs_by rfl rfl (by decide) rfl fun cdv A outer s H E hr => (ss_cons (s_setOO (i := 2) (own := [("_", 5)]) (g := (gN 5)) (.inl ⟨rfl, rfl⟩) (fun _ _ => ⟨_, rfl⟩) rfl sc_directs_by.nd rfl rfl (sw_true rfl rfl rfl (by decide +kernel)) (i_rg1 rfl T.range (v 0)) (blkOk_by (own := [("_", 5)]) (N := N_directs_by) (sc := defScope s_directs_by) (by decide +kernel)) (fun _ _ _ _ _ => (g_name (i := 5) sc_directs_by.nd rfl (by first | exact Or.inl rfl | exact Or.inr rfl))) (fun _ _ _ _ _ => n_dict)) (ss_cons (s_for PassesOwn.never rfl (i_seq (v 1)) (g_tup rfl (gs_cons (g_name (i := 3) sc_directs_by.nd rfl (by first | exact Or.inl rfl | exact Or.inr rfl)) (gs_cons (g_name (i := 4) sc_directs_by.nd rfl (by first | exact Or.inl rfl | exact Or.inr rfl)) gs_nil))) (ss_one (s_ooPut (hu_of hr) (pv 2) (v 3) (v 4) e_bl))) (ss_frzOO (i := 2) (ss_one (s_ret (e_lc (own := [("row", 6)]) rfl sc_directs_by.nd (i_seq (v 2)) (blkOk_by (own := [("row", 6)]) (N := N_directs_by) (sc := defScope s_directs_by) (by decide +kernel)) (fun _ _ _ _ _ => (g_name (i := 6) sc_directs_by.nd rfl (by first | exact Or.inl rfl | exact Or.inr rfl))) (fun _ _ _ _ _ => ts_nil) (fun _ _ _ _ _ => (e_callB (cSorted rfl) rfl T.sorted boot_sorted (a_cons (v 6) a_nil)))))))))
end
end Ea
end
section
set_option Elab.async false
set_option linter.all false
set_option maxRecDepth 100000
set_option maxHeartbeats 4000000
namespace Ea
open PySem PySem.Spec L2
open PyProof.Rows hiding St
section
variable {P : Program} {w : World} {K : PySem.W.Frag} {mg : Str → Option Value} {base : Heap}
abbrev s_ups_by : Stmt := topS 16
abbrev N_ups_by : List Str := ["directs", "found", "piece", "high", "_"]
theorem sc_ups_by : FnScope N_ups_by ["directs"] (defScope s_ups_by) := ⟨rfl, rfl, rfl, by decide +kernel, rfl, by decide +kernel, by decide +kernel⟩
def b_ups_by : DS := (sSeq (sSetOO 1 (.dict []) (iSeq (eV 0))) (sSeq (sFor (iRg3 (e2 gSub (eCall gLen (aCons (eV 0) aNil)) (eC (.int 1))) (e1 gNeg (eC (.int 1))) (e1 gNeg (eC (.int 1)))) (gN 2) (sSeq (sOOPut 1 (eV 2) (eV 2) (eC (.bool true))) (sFor (iSeq (e2 gIx (eV 0) (eV 2))) (gN 3) (sOOUpd 1 (eV 2) (eV 3))))) (sFrzOO 1 (sRet (eV 1)))))
def d_ups_by : List PyData → Option PyData := defD 1 5 b_ups_by
theorem ok_ups_by {f : Addr} {fd : FuncData} (F : Fun K "ups_by" "ups_by" s_ups_by f fd) (T : Tp mg) : FnOk P w K mg base CX0 1 f fd ["directs"] (spP 1 d_ups_by) :=
  okP (k := 0) (g := b_ups_by) F sc_ups_by rfl rfl (by decide) rfl fun cdv A outer s H E hr => (ss_cons (s_setOO (i := 1) (own := [("_", 4)]) (g := (gN 4)) (.inl ⟨rfl, rfl⟩) (fun _ _ => ⟨_, rfl⟩) rfl sc_ups_by.nd rfl rfl (sw_true rfl rfl rfl (by decide +kernel)) (i_seq (v 0)) (blkOk_by (own := [("_", 4)]) (N := N_ups_by) (sc := defScope s_ups_by) (by decide +kernel)) (fun _ _ _ _ _ => (g_name (i := 4) sc_ups_by.nd rfl (by first | exact Or.inl rfl | exact Or.inr rfl))) (fun _ _ _ _ _ => n_dict)) (ss_cons (s_for PassesOwn.never rfl (i_rg3 rfl T.range (e_op oSub (e_callB cLen rfl T.len PySem.boot_len (a_cons (v 0) a_nil)) e_int) (e_neg e_int) (e_neg e_int)) (g_name (i := 2) sc_ups_by.nd rfl (by first | exact Or.inl rfl | exact Or.inr rfl)) (ss_cons (s_ooPut (hu_of hr) (pv 1) (v 2) (v 2) e_bl) (ss_one (s_for PassesOwn.never rfl (i_seq (e_ix (v 0) (v 2))) (g_name (i := 3) sc_ups_by.nd rfl (by first | exact Or.inl rfl | exact Or.inr rfl)) (ss_one (s_ooUpd (pv 1) (v 2) (pv 1) (v 3))))))) (ss_frzOO (i := 1) (ss_one (s_ret (v 1))))))
abbrev s_follows_by : Stmt := topS 17
abbrev N_follows_by : List Str := ["directs", "ups", "low", "high", "near"]
theorem sc_follows_by : FnScope N_follows_by ["directs", "ups", "low", "high"] (defScope s_follows_by) := ⟨rfl, rfl, rfl, by decide +kernel, rfl, by decide +kernel, by decide +kernel⟩
def b_follows_by : DS := (sRet (eCall gAny (aCons (eLc (iSeq (e2 gIx (eV 0) (eV 2))) [4] (gN 4) (bO (e2 gNeI (eV 4) (eV 3))) (e2 gDIn (eV 3) (e2 gIx (eV 1) (eV 4)))) aNil)))
def d_follows_by : List PyData → Option PyData := defD 4 5 b_follows_by
theorem ok_follows_by {f : Addr} {fd : FuncData} (F : Fun K "follows_by" "follows_by" s_follows_by f fd) (T : Tp mg) : FnOk P w K mg base CX0 1 f fd ["directs", "ups", "low", "high"] (spP 4 d_follows_by) :=
  okP (k := 0) (g := b_follows_by) F sc_follows_by rfl rfl (by decide) rfl fun cdv A outer s H E hr => (ss_one (s_ret (e_callB (cAny rfl) rfl T.any boot_any (a_cons (e_lc (own := [("near", 4)]) rfl sc_follows_by.nd (i_seq (e_ix (v 0) (v 2))) (blkOk_by (own := [("near", 4)]) (N := N_follows_by) (sc := defScope s_follows_by) (by decide +kernel)) (fun _ _ _ _ _ => (g_name (i := 4) sc_follows_by.nd rfl (by first | exact Or.inl rfl | exact Or.inr rfl))) (fun _ _ _ _ _ => (ts_one (t_cmp oNeI (v 4) (v 3)))) (fun _ _ _ _ _ => (e_din (hu_of hr) (v 3) (e_ix (v 1) (v 4))))) a_nil))))
abbrev s_ties_by : Stmt := topS 18
abbrev N_ties_by : List Str := ["directs", "ups", "found", "low", "highs", "high"]
theorem sc_ties_by : FnScope N_ties_by ["directs"] (defScope s_ties_by) := ⟨rfl, rfl, rfl, by decide +kernel, rfl, by decide +kernel, by decide +kernel⟩
def b_ties_by : DS := (sSeq (sParO 1 2 (eCall d_ups_by (aCons (eV 0) aNil)) (eLst aNil)) (sSeq (sFor (iEnumD (eV 0)) (gTupD 2 (gsCons (gN 3) (gsCons (gN 4) gsNil))) (sMut extD 2 (eLc (iSeq (eV 4)) [5] (gN 5) (tNotD (bO (eCall d_follows_by (aCons (eV 0) (aCons (eV 1) (aCons (eV 3) (aCons (eV 5) aNil))))))) (eTup (aCons (eV 3) (aCons (eV 5) aNil)))))) (sFrz 2 (sRet (eCall gTuple (aCons (eV 2) aNil))))))
def d_ties_by : List PyData → Option PyData := defD 1 6 b_ties_by
theorem ok_ties_by {f : Addr} {fd : FuncData} (F : Fun K "ties_by" "ties_by" s_ties_by f fd) (T : Tp mg) (c_ups_by : CallD P w K mg base "ups_by" 1 1 d_ups_by) (c_follows_by : CallD P w K mg base "follows_by" 1 4 d_follows_by) : FnOk P w K mg base CX0 2 f fd ["directs"] (spP 1 d_ties_by) :=
  okP (k := 1) (g := b_ties_by) F sc_ties_by rfl rfl (by decide) rfl fun cdv A outer s H E hr => (ss_cons (s_tupO (i := 1) (j := 2) rfl sc_ties_by.nd rfl rfl (by first | exact Or.inl rfl | exact Or.inr rfl) (by first | exact Or.inl rfl | exact Or.inr rfl) (e_callD c_ups_by (hr.mono (by decide)) (fun _ _ h => defD_len h) rfl (a_cons (v 0) a_nil)) (o_lst a_nil) (fun _ => rfl)) (ss_cons (s_for PassesOwn.never rfl (i_enum rfl T.enum (v 0)) (g_tup rfl (gs_cons (g_name (i := 3) sc_ties_by.nd rfl (by first | exact Or.inl rfl | exact Or.inr rfl)) (gs_cons (g_name (i := 4) sc_ties_by.nd rfl (by first | exact Or.inl rfl | exact Or.inr rfl)) gs_nil))) (ss_one (s_extend (pv 2) (e_lc (own := [("high", 5)]) rfl sc_ties_by.nd (i_seq (v 4)) (blkOk_by (own := [("high", 5)]) (N := N_ties_by) (sc := defScope s_ties_by) (by decide +kernel)) (fun _ _ _ _ _ => (g_name (i := 5) sc_ties_by.nd rfl (by first | exact Or.inl rfl | exact Or.inr rfl))) (fun _ _ _ _ _ => (ts_one (t_not (t_val (e_callD c_follows_by (hr.mono (by decide)) (fun _ _ h => defD_len h) rfl (a_cons (v 0) (a_cons (v 1) (a_cons (v 3) (a_cons (v 5) a_nil))))))))) (fun _ _ _ _ _ => (e_tup (a_cons (v 3) (a_cons (v 5) a_nil)))))))) (ss_frz (i := 2) (ss_one (s_ret (e_callTy cTuple rfl T.tuple PyProof.Rows.boot_tuple (a_cons (v 2) a_nil)))))))
abbrev s_ties_of : Stmt := topS 19
abbrev N_ties_of : List Str := ["pairs", "named", "low", "high", "row", "places", "ties", "place", "piece"]
theorem sc_ties_of : FnScope N_ties_of ["pairs"] (defScope s_ties_of) := ⟨rfl, rfl, rfl, by decide +kernel, rfl, by decide +kernel, by decide +kernel⟩
def b_ties_of : DS := (sSeq (sSetO 1 (eC (.dict []))) (sSeq (sFor (iSeq (eV 0)) (gTupD 2 (gsCons (gN 2) (gsCons (gN 3) gsNil))) (sSeq (sPut 1 (eC (.bool true)) (eV 2)) (sPut 1 (eC (.bool true)) (eV 3)))) (sFrz 1 (sSeq (sSet 4 (eCall gSorted (aCons (eV 1) aNil))) (sSeq (sSet 5 (eDc (iEnumD (eV 4)) [7, 8] (gTupD 2 (gsCons (gN 7) (gsCons (gN 8) gsNil))) (eV 8) (eV 7))) (sSeq (sSet 6 (eCall d_ties_by (aCons (eCall d_directs_by (aCons (eCall gLen (aCons (eV 4) aNil)) (aCons (eLc (iSeq (eV 0)) [2, 3] (gTupD 2 (gsCons (gN 2) (gsCons (gN 3) gsNil))) dYes (eTup (aCons (e2 gDGet (eV 5) (eV 2)) (aCons (e2 gDGet (eV 5) (eV 3)) aNil)))) aNil))) aNil))) (sRet (eCall gTuple (aCons (eLc (iSeq (eV 6)) [2, 3] (gTupD 2 (gsCons (gN 2) (gsCons (gN 3) gsNil))) dYes (eTup (aCons (e2 gIx (eV 4) (eV 2)) (aCons (e2 gIx (eV 4) (eV 3)) aNil)))) aNil)))))))))
def d_ties_of : List PyData → Option PyData := defD 1 9 b_ties_of
theorem ok_ties_of {f : Addr} {fd : FuncData} (F : Fun K "ties_of" "ties_of" s_ties_of f fd) (T : Tp mg) (c_ties_by : CallD P w K mg base "ties_by" 2 1 d_ties_by) (c_directs_by : CallD P w K mg base "directs_by" 1 2 d_directs_by) : FnOk P w K mg base CX0 3 f fd ["pairs"] (spP 1 d_ties_of) :=
  okP (k := 2) (g := b_ties_of) F sc_ties_of rfl rfl (by decide) rfl fun cdv A outer s H E hr => (ss_cons (s_setO (i := 1) sc_ties_of.nd rfl (by first | exact Or.inl rfl | exact Or.inr rfl) o_dnew) (ss_cons (s_for PassesOwn.never rfl (i_seq (v 0)) (g_tup rfl (gs_cons (g_name (i := 2) sc_ties_of.nd rfl (by first | exact Or.inl rfl | exact Or.inr rfl)) (gs_cons (g_name (i := 3) sc_ties_of.nd rfl (by first | exact Or.inl rfl | exact Or.inr rfl)) gs_nil))) (ss_cons (s_put (hu_of hr) (pv 1) (v 2) e_bl) (ss_one (s_put (hu_of hr) (pv 1) (v 3) e_bl)))) (ss_frz (i := 1) (ss_cons (s_set (i := 4) sc_ties_of.nd rfl (by first | exact Or.inl rfl | exact Or.inr rfl) (e_callB (cSorted rfl) rfl T.sorted boot_sorted (a_cons (v 1) a_nil))) (ss_cons (s_set (i := 5) sc_ties_of.nd rfl (by first | exact Or.inl rfl | exact Or.inr rfl) (e_dc (own := [("place", 7), ("piece", 8)]) rfl sc_ties_of.nd (i_enum rfl T.enum (v 4)) (blkOk_by (own := [("place", 7), ("piece", 8)]) (N := N_ties_of) (sc := defScope s_ties_of) (by decide +kernel)) (fun _ _ _ _ _ => (g_tup rfl (gs_cons (g_name (i := 7) sc_ties_of.nd rfl (by first | exact Or.inl rfl | exact Or.inr rfl)) (gs_cons (g_name (i := 8) sc_ties_of.nd rfl (by first | exact Or.inl rfl | exact Or.inr rfl)) gs_nil)))) (fun _ _ _ _ _ => (v 8)) (fun _ _ _ _ _ => (v 7)))) (ss_cons (s_set (i := 6) sc_ties_of.nd rfl (by first | exact Or.inl rfl | exact Or.inr rfl) (e_callD c_ties_by (hr.mono (by decide)) (fun _ _ h => defD_len h) rfl (a_cons (e_callD c_directs_by (hr.mono (by decide)) (fun _ _ h => defD_len h) rfl (a_cons (e_callB cLen rfl T.len PySem.boot_len (a_cons (v 4) a_nil)) (a_cons (e_lc (own := [("low", 2), ("high", 3)]) rfl sc_ties_of.nd (i_seq (v 0)) (blkOk_by (own := [("low", 2), ("high", 3)]) (N := N_ties_of) (sc := defScope s_ties_of) (by decide +kernel)) (fun _ _ _ _ _ => (g_tup rfl (gs_cons (g_name (i := 2) sc_ties_of.nd rfl (by first | exact Or.inl rfl | exact Or.inr rfl)) (gs_cons (g_name (i := 3) sc_ties_of.nd rfl (by first | exact Or.inl rfl | exact Or.inr rfl)) gs_nil)))) (fun _ _ _ _ _ => ts_nil) (fun _ _ _ _ _ => (e_tup (a_cons (e_dget (hu_of hr) (v 5) (v 2)) (a_cons (e_dget (hu_of hr) (v 5) (v 3)) a_nil))))) a_nil))) a_nil))) (ss_one (s_ret (e_callTy cTuple rfl T.tuple PyProof.Rows.boot_tuple (a_cons (e_lc (own := [("low", 2), ("high", 3)]) rfl sc_ties_of.nd (i_seq (v 6)) (blkOk_by (own := [("low", 2), ("high", 3)]) (N := N_ties_of) (sc := defScope s_ties_of) (by decide +kernel)) (fun _ _ _ _ _ => (g_tup rfl (gs_cons (g_name (i := 2) sc_ties_of.nd rfl (by first | exact Or.inl rfl | exact Or.inr rfl)) (gs_cons (g_name (i := 3) sc_ties_of.nd rfl (by first | exact Or.inl rfl | exact Or.inr rfl)) gs_nil)))) (fun _ _ _ _ _ => ts_nil) (fun _ _ _ _ _ => (e_tup (a_cons (e_ix (v 4) (v 2)) (a_cons (e_ix (v 4) (v 3)) a_nil))))) a_nil))))))))))
abbrev s_follow_none : Stmt := topS 20
abbrev N_follow_none : List Str := ["ties"]
theorem sc_follow_none : FnScope N_follow_none ["ties"] (defScope s_follow_none) := ⟨rfl, rfl, rfl, by decide +kernel, rfl, by decide +kernel, by decide +kernel⟩
def b_follow_none : DS := (sRet (e2 gEqD (eCall d_ties_of (aCons (eV 0) aNil)) (eV 0)))
def d_follow_none : List PyData → Option PyData := defD 1 1 b_follow_none
theorem ok_follow_none {f : Addr} {fd : FuncData} (F : Fun K "follow_none" "follow_none" s_follow_none f fd) (T : Tp mg) (c_ties_of : CallD P w K mg base "ties_of" 3 1 d_ties_of) : FnOk P w K mg base CX0 4 f fd ["ties"] (spP 1 d_follow_none) :=
  okP (k := 3) (g := b_follow_none) F sc_follow_none rfl rfl (by decide) rfl fun cdv A outer s H E hr => (ss_one (s_ret (e_cmp (oEqD hr.units) (e_callD c_ties_of (hr.mono (by decide)) (fun _ _ h => defD_len h) rfl (a_cons (v 0) a_nil)) (v 0))))
abbrev s_is_order : Stmt := topS 21
abbrev N_is_order : List Str := ["thing", "own"]
theorem sc_is_order : FnScope N_is_order ["thing"] (defScope s_is_order) := ⟨rfl, rfl, rfl, by decide +kernel, rfl, by decide +kernel, by decide +kernel⟩
def b_is_order : DS := (sSeq (sIf (tOrD (tNotD (bO (eCall d_is_long (aCons (eV 0) (aCons (eC (.int 2)) aNil))))) (tOrD (tNotD (bO (eCall d_is_from (aCons (e2 gIx (eV 0) (eC (.int 0))) (aCons (eC (.int 0)) aNil))))) (tNotD (bO (e1 (gIsi "tuple") (e2 gIx (eV 0) (eC (.int 1)))))))) (sRet (eC (.bool false))) sNil) (sSeq (sIf (tOrD (tNotD (bO (eCall gAll (aCons (eLc (iSeq (e2 gIx (eV 0) (eC (.int 1)))) [1] (gN 1) dYes (eCall d_is_pair_of (aCons (e2 gIx (eV 0) (eC (.int 0))) (aCons (eV 1) aNil)))) aNil)))) (tNotD (bO (eCall d_ascends (aCons (e2 gIx (eV 0) (eC (.int 1))) aNil))))) (sRet (eC (.bool false))) sNil) (sRet (eCall d_follow_none (aCons (e2 gIx (eV 0) (eC (.int 1))) aNil)))))
def d_is_order : List PyData → Option PyData := defD 1 2 b_is_order
theorem ok_is_order {f : Addr} {fd : FuncData} (F : Fun K "is_order" "is_order" s_is_order f fd) (T : Tp mg) (c_is_long : CallD P w K mg base "is_long" 1 2 d_is_long) (c_is_from : CallD P w K mg base "is_from" 2 2 d_is_from) (c_is_pair_of : CallD P w K mg base "is_pair_of" 3 2 d_is_pair_of) (c_ascends : CallD P w K mg base "ascends" 1 1 d_ascends) (c_follow_none : CallD P w K mg base "follow_none" 4 1 d_follow_none) : FnOk P w K mg base CX0 5 f fd ["thing"] (spP 1 d_is_order) :=
  okP (k := 4) (g := b_is_order) F sc_is_order rfl rfl (by decide) rfl fun cdv A outer s H E hr => (ss_cons (s_if (PW.pt (w_or (t_not (t_val (e_callD c_is_long (hr.mono (by decide)) (fun _ _ h => defD_len h) rfl (a_cons (v 0) (a_cons e_int a_nil))))) (w_or (t_not (t_val (e_callD c_is_from (hr.mono (by decide)) (fun _ _ h => defD_len h) rfl (a_cons (e_ix (v 0) e_int) (a_cons e_int a_nil))))) (w_or1 (t_not (t_val (e_isi kit_tuple rfl T.isi boot_isinstance (e_ix (v 0) e_int) rfl T.tuple PyProof.Rows.boot_tuple))))))) (ss_one (s_ret e_bl)) ss_nil) (ss_cons (s_if (PW.pt (w_or (t_not (t_val (e_callB (cAll rfl) rfl T.all boot_all (a_cons (e_lc (own := [("own", 1)]) rfl sc_is_order.nd (i_seq (e_ix (v 0) e_int)) (blkOk_by (own := [("own", 1)]) (N := N_is_order) (sc := defScope s_is_order) (by decide +kernel)) (fun _ _ _ _ _ => (g_name (i := 1) sc_is_order.nd rfl (by first | exact Or.inl rfl | exact Or.inr rfl))) (fun _ _ _ _ _ => ts_nil) (fun _ _ _ _ _ => (e_callD c_is_pair_of (hr.mono (by decide)) (fun _ _ h => defD_len h) rfl (a_cons (e_ix (v 0) e_int) (a_cons (v 1) a_nil))))) a_nil)))) (w_or1 (t_not (t_val (e_callD c_ascends (hr.mono (by decide)) (fun _ _ h => defD_len h) rfl (a_cons (e_ix (v 0) e_int) a_nil))))))) (ss_one (s_ret e_bl)) ss_nil) (ss_one (s_ret (e_callD c_follow_none (hr.mono (by decide)) (fun _ _ h => defD_len h) rfl (a_cons (e_ix (v 0) e_int) a_nil))))))
abbrev s_are_pieces_in : Stmt := topS 24
abbrev N_are_pieces_in : List Str := ["order", "thing", "own"]
theorem sc_are_pieces_in : FnScope N_are_pieces_in ["order", "thing"] (defScope s_are_pieces_in) := ⟨rfl, rfl, rfl, by decide +kernel, rfl, by decide +kernel, by decide +kernel⟩
def b_are_pieces_in : DS := (sRet (eAnd (e1 (gIsi "tuple") (eV 1)) (eCall gAll (aCons (eLc (iSeq (eV 1)) [2] (gN 2) dYes (eCall d_is_within (aCons (eV 2) (aCons (eC (.int 0)) (aCons (e2 gSub (e2 gIx (eV 0) (eC (.int 0))) (eC (.int 1))) aNil))))) aNil))))
def d_are_pieces_in : List PyData → Option PyData := defD 2 3 b_are_pieces_in
theorem ok_are_pieces_in {f : Addr} {fd : FuncData} (F : Fun K "are_pieces_in" "are_pieces_in" s_are_pieces_in f fd) (T : Tp mg) (c_is_within : CallD P w K mg base "is_within" 2 3 d_is_within) : FnOk P w K mg base CX0 3 f fd ["order", "thing"] (spP 2 d_are_pieces_in) :=
  okP (k := 2) (g := b_are_pieces_in) F sc_are_pieces_in rfl rfl (by decide) rfl fun cdv A outer s H E hr => (ss_one (s_ret (e_and (e_isi kit_tuple rfl T.isi boot_isinstance (v 1) rfl T.tuple PyProof.Rows.boot_tuple) (e_one (e_callB (cAll rfl) rfl T.all boot_all (a_cons (e_lc (own := [("own", 2)]) rfl sc_are_pieces_in.nd (i_seq (v 1)) (blkOk_by (own := [("own", 2)]) (N := N_are_pieces_in) (sc := defScope s_are_pieces_in) (by decide +kernel)) (fun _ _ _ _ _ => (g_name (i := 2) sc_are_pieces_in.nd rfl (by first | exact Or.inl rfl | exact Or.inr rfl))) (fun _ _ _ _ _ => ts_nil) (fun _ _ _ _ _ => (e_callD c_is_within (hr.mono (by decide)) (fun _ _ h => defD_len h) rfl (a_cons (v 2) (a_cons e_int (a_cons (e_op oSub (e_ix (v 0) e_int) e_int) a_nil)))))) a_nil))))))
abbrev s_is_left_in : Stmt := topS 25
abbrev N_is_left_in : List Str := ["order", "thing", "low", "high"]
theorem sc_is_left_in : FnScope N_is_left_in ["order", "thing"] (defScope s_is_left_in) := ⟨rfl, rfl, rfl, by decide +kernel, rfl, by decide +kernel, by decide +kernel⟩
def b_is_left_in : DS := (sSeq (sIf (tOrD (tNotD (bO (eCall d_are_pieces_in (aCons (eV 0) (aCons (eV 1) aNil))))) (tNotD (bO (eCall d_ascends (aCons (eV 1) aNil))))) (sRet (eC (.bool false))) sNil) (sRet (eCall gAll (aCons (eLc (iSeq (e2 gIx (eV 0) (eC (.int 1)))) [2, 3] (gTupD 2 (gsCons (gN 2) (gsCons (gN 3) gsNil))) (bO (e2 gIn (eV 3) (eV 1))) (e2 gIn (eV 2) (eV 1))) aNil))))
def d_is_left_in : List PyData → Option PyData := defD 2 4 b_is_left_in
theorem ok_is_left_in {f : Addr} {fd : FuncData} (F : Fun K "is_left_in" "is_left_in" s_is_left_in f fd) (T : Tp mg) (c_are_pieces_in : CallD P w K mg base "are_pieces_in" 3 2 d_are_pieces_in) (c_ascends : CallD P w K mg base "ascends" 1 1 d_ascends) : FnOk P w K mg base CX0 4 f fd ["order", "thing"] (spP 2 d_is_left_in) :=
  okP (k := 3) (g := b_is_left_in) F sc_is_left_in rfl rfl (by decide) rfl fun cdv A outer s H E hr => (ss_cons (s_if (PW.pt (w_or (t_not (t_val (e_callD c_are_pieces_in (hr.mono (by decide)) (fun _ _ h => defD_len h) rfl (a_cons (v 0) (a_cons (v 1) a_nil))))) (w_or1 (t_not (t_val (e_callD c_ascends (hr.mono (by decide)) (fun _ _ h => defD_len h) rfl (a_cons (v 1) a_nil))))))) (ss_one (s_ret e_bl)) ss_nil) (ss_one (s_ret (e_callB (cAll rfl) rfl T.all boot_all (a_cons (e_lc (own := [("low", 2), ("high", 3)]) rfl sc_is_left_in.nd (i_seq (e_ix (v 0) e_int)) (blkOk_by (own := [("low", 2), ("high", 3)]) (N := N_is_left_in) (sc := defScope s_is_left_in) (by decide +kernel)) (fun _ _ _ _ _ => (g_tup rfl (gs_cons (g_name (i := 2) sc_is_left_in.nd rfl (by first | exact Or.inl rfl | exact Or.inr rfl)) (gs_cons (g_name (i := 3) sc_is_left_in.nd rfl (by first | exact Or.inl rfl | exact Or.inr rfl)) gs_nil)))) (fun _ _ _ _ _ => (ts_one (t_cmp oIn (v 3) (v 1)))) (fun _ _ _ _ _ => (e_cmp oIn (v 2) (v 1)))) a_nil)))))
abbrev s_tupled : Stmt := topS 10
abbrev N_tupled : List Str := ["value", "own"]
theorem sc_tupled : FnScope N_tupled ["value"] (defScope s_tupled) := ⟨rfl, rfl, rfl, by decide +kernel, rfl, by decide +kernel, by decide +kernel⟩
def b_tupled (r : List PyData → Option PyData) : DS := (sRet (eIf (bO (e1 (gIsi2 "list" "tuple") (eV 0))) (eCall gTuple (aCons (eLc (iSeq (eV 0)) [1] (gN 1) dYes (eCall r (aCons (eV 1) aNil))) aNil)) (eV 0)))
def r_tupled : Nat → List PyData → Option PyData
  | 0 => fun _ => none
  | k + 1 => defD 1 2 (b_tupled (r_tupled k))
theorem rn_tupled : ∀ (k : Nat) (ds : List PyData) (d : PyData), r_tupled k ds = some d → ds.length = 1
  | 0, _, _, h => nomatch h
  | _ + 1, _, _, h => defD_len h
def d_tupled : List PyData → Option PyData := r_tupled 8
theorem dn_tupled : ∀ (ds : List PyData) (d : PyData), d_tupled ds = some d → ds.length = 1 := rn_tupled 8
theorem okr_tupled {f : Addr} {fd : FuncData} (F : Fun K "tupled" "tupled" s_tupled f fd) (T : Tp mg) (m : mg "tupled" = some (.ref f)) (kp : PySem.W.keepIn K (.ref f) = true) (bb : Binds K fd ["value"] []) : ∀ j : Nat, FnOk P w K mg base CX0 (j + 0) f fd ["value"] (spP 1 (r_tupled j))
  | 0 => ⟨fun vs H Q E h => h.1, fun A outer s H args us vs Q E hr e0 hb hv h => by obtain ⟨_, _, _, _, _, _, q, _⟩ := h; cases q⟩
  | j + 1 => by
    have c_tupled : CallD P w K mg base "tupled" (j + 0) 1 (r_tupled j) := .mk' (okr_tupled F T m kp bb j) m kp bb
    have hn := rn_tupled j
    have h := okP (P := P) (w := w) (mg := mg) (base := base) (k := j + 0) (d := r_tupled (j + 1)) (g := b_tupled (r_tupled j)) F sc_tupled rfl rfl (by decide) rfl fun cdv A outer s H E hr => (ss_one (s_ret (e_if (t_val (e_isi2 kit_list kit_tuple rfl T.isi boot_isinstance (v 0) rfl T.list PyProof.Rows.boot_list rfl T.tuple PyProof.Rows.boot_tuple)) (e_callTy cTuple rfl T.tuple PyProof.Rows.boot_tuple (a_cons (e_lc (own := [("own", 1)]) rfl sc_tupled.nd (i_seq (v 0)) (blkOk_by (own := [("own", 1)]) (N := N_tupled) (sc := defScope s_tupled) (by decide +kernel)) (fun _ _ _ _ _ => (g_name (i := 1) sc_tupled.nd rfl (by first | exact Or.inl rfl | exact Or.inr rfl))) (fun _ _ _ _ _ => ts_nil) (fun _ _ _ _ _ => (e_callD c_tupled (hr.mono (by omega)) hn rfl (a_cons (v 1) a_nil)))) a_nil)) (v 0))))
    exact h
theorem ok_tupled {f : Addr} {fd : FuncData} (F : Fun K "tupled" "tupled" s_tupled f fd) (T : Tp mg) (m : mg "tupled" = some (.ref f)) (kp : PySem.W.keepIn K (.ref f) = true) (bb : Binds K fd ["value"] []) : FnOk P w K mg base CX0 8 f fd ["value"] (spP 1 d_tupled) := okr_tupled F T m kp bb 8
end
end Ea
end
section
set_option Elab.async false
set_option linter.all false
set_option maxRecDepth 100000
set_option maxHeartbeats 4000000
namespace Ea
open PySem PySem.Spec L2
open PyProof.Rows hiding St
section
variable {P : Program} {w : World} {K : PySem.W.Frag} {mg : Str → Option Value} {base : Heap}
abbrev s_bits_for : Stmt := topS 29
abbrev N_bits_for : List Str := ["pieces", "piece"]
theorem sc_bits_for : FnScope N_bits_for ["pieces"] (defScope s_bits_for) := ⟨rfl, rfl, rfl, by decide +kernel, rfl, by decide +kernel, by decide +kernel⟩
def b_bits_for : DS := (sRet (eCall gSum (aCons (eLc (iSeq (eV 0)) [1] (gN 1) dYes (e2 gShl (eC (.int 1)) (eV 1))) aNil)))
def d_bits_for : List PyData → Option PyData := defD 1 2 b_bits_for
theorem ok_bits_for {f : Addr} {fd : FuncData} (F : Fun K "bits_for" "bits_for" s_bits_for f fd) (T : Tp mg) : FnOk P w K mg base CX0 1 f fd ["pieces"] (spP 1 d_bits_for) :=
  okP (k := 0) (g := b_bits_for) F sc_bits_for rfl rfl (by decide) rfl fun cdv A outer s H E hr => (ss_one (s_ret (e_callB (cSum rfl) rfl T.sum boot_sum (a_cons (e_lc (own := [("piece", 1)]) rfl sc_bits_for.nd (i_seq (v 0)) (blkOk_by (own := [("piece", 1)]) (N := N_bits_for) (sc := defScope s_bits_for) (by decide +kernel)) (fun _ _ _ _ _ => (g_name (i := 1) sc_bits_for.nd rfl (by first | exact Or.inl rfl | exact Or.inr rfl))) (fun _ _ _ _ _ => ts_nil) (fun _ _ _ _ _ => (e_op oShl e_int (v 1)))) a_nil))))
abbrev s_pieces_for : Stmt := topS 30
abbrev N_pieces_for : List Str := ["bits", "piece"]
theorem sc_pieces_for : FnScope N_pieces_for ["bits"] (defScope s_pieces_for) := ⟨rfl, rfl, rfl, by decide +kernel, rfl, by decide +kernel, by decide +kernel⟩
def b_pieces_for : DS := (sRet (eCall gTuple (aCons (eLc (iRg1 (e1 gBits (eV 0))) [1] (gN 1) (iO (e2 gAnd (e2 gShr (eV 0) (eV 1)) (eC (.int 1)))) (eV 1)) aNil)))
def d_pieces_for : List PyData → Option PyData := defD 1 2 b_pieces_for
theorem ok_pieces_for {f : Addr} {fd : FuncData} (F : Fun K "pieces_for" "pieces_for" s_pieces_for f fd) (T : Tp mg) : FnOk P w K mg base CX0 1 f fd ["bits"] (spP 1 d_pieces_for) :=
  okP (k := 0) (g := b_pieces_for) F sc_pieces_for rfl rfl (by decide) rfl fun cdv A outer s H E hr => (ss_one (s_ret (e_callTy cTuple rfl T.tuple PyProof.Rows.boot_tuple (a_cons (e_lc (own := [("piece", 1)]) rfl sc_pieces_for.nd (i_rg1 rfl T.range (e_bits (v 0))) (blkOk_by (own := [("piece", 1)]) (N := N_pieces_for) (sc := defScope s_pieces_for) (by decide +kernel)) (fun _ _ _ _ _ => (g_name (i := 1) sc_pieces_for.nd rfl (by first | exact Or.inl rfl | exact Or.inr rfl))) (fun _ _ _ _ _ => (ts_one (t_int (e_op oAnd (e_op oShr (v 0) (v 1)) e_int)))) (fun _ _ _ _ _ => (v 1))) a_nil))))
abbrev s_tops_by_bits : Stmt := topS 31
abbrev N_tops_by_bits : List Str := ["order", "found", "low", "high", "piece"]
theorem sc_tops_by_bits : FnScope N_tops_by_bits ["order"] (defScope s_tops_by_bits) := ⟨rfl, rfl, rfl, by decide +kernel, rfl, by decide +kernel, by decide +kernel⟩
def b_tops_by_bits : DS := (sSeq (sSetO 1 (eLc (iRg1 (e2 gIx (eV 0) (eC (.int 0)))) [4] (gN 4) dYes (e2 gShl (eC (.int 1)) (eV 4)))) (sSeq (sFor (iSeq (e1 gRev (e2 gIx (eV 0) (eC (.int 1))))) (gTupD 2 (gsCons (gN 2) (gsCons (gN 3) gsNil))) (sSetIx 1 (e2 gOr (eIxO 1 (eV 2)) (eIxO 1 (eV 3))) (eV 2))) (sFrz 1 (sRet (eV 1)))))
def d_tops_by_bits : List PyData → Option PyData := defD 1 5 b_tops_by_bits
theorem ok_tops_by_bits {f : Addr} {fd : FuncData} (F : Fun K "tops_by_bits" "tops_by_bits" s_tops_by_bits f fd) (T : Tp mg) : FnOk P w K mg base CX0 1 f fd ["order"] (spP 1 d_tops_by_bits) :=
  okP (k := 0) (g := b_tops_by_bits) F sc_tops_by_bits rfl rfl (by decide) rfl fun cdv A outer s H E hr => (ss_cons (s_setLc (i := 1) (own := [("piece", 4)]) rfl sc_tops_by_bits.nd rfl rfl (sw_true rfl rfl rfl (by decide +kernel)) (i_rg1 rfl T.range (e_ix (v 0) e_int)) (blkOk_by (own := [("piece", 4)]) (N := N_tops_by_bits) (sc := defScope s_tops_by_bits) (by decide +kernel)) (fun _ _ _ _ _ => (g_name (i := 4) sc_tops_by_bits.nd rfl (by first | exact Or.inl rfl | exact Or.inr rfl))) (fun _ _ _ _ _ => ts_nil) (fun _ _ _ _ _ => (e_op oShl e_int (v 4)))) (ss_cons (s_for PassesOwn.never rfl (i_seq (e_rev (e_ix (v 0) e_int))) (g_tup rfl (gs_cons (g_name (i := 2) sc_tops_by_bits.nd rfl (by first | exact Or.inl rfl | exact Or.inr rfl)) (gs_cons (g_name (i := 3) sc_tops_by_bits.nd rfl (by first | exact Or.inl rfl | exact Or.inr rfl)) gs_nil))) (ss_one (s_setIx (pv 1) (v 2) (e_op oOr (e_ixO (pv 1) (v 2)) (e_ixO (pv 1) (v 3)))))) (ss_frz (i := 1) (ss_one (s_ret (v 1))))))
abbrev s_lefts_by_bits : Stmt := topS 32
abbrev N_lefts_by_bits : List Str := ["order", "lows", "low", "high", "found", "piece", "under", "_", "bits"]
theorem sc_lefts_by_bits : FnScope N_lefts_by_bits ["order"] (defScope s_lefts_by_bits) := ⟨rfl, rfl, rfl, by decide +kernel, rfl, by decide +kernel, by decide +kernel⟩
def b_lefts_by_bits : DS := (sSeq (sSetOO 1 (.list []) (iRg1 (e2 gIx (eV 0) (eC (.int 0))))) (sSeq (sFor (iSeq (e2 gIx (eV 0) (eC (.int 1)))) (gTupD 2 (gsCons (gN 2) (gsCons (gN 3) gsNil))) (sOOApp 1 (eV 3) (eV 2))) (sFrzOO 1 (sSeq (sSet 4 (eLst (aCons (eC (.int 0)) aNil))) (sSeq (sFor (iRg1 (e2 gIx (eV 0) (eC (.int 0)))) (gN 5) (sSeq (sSet 6 (eCall d_bits_for (aCons (e2 gIx (eV 1) (eV 5)) aNil))) (sSeq (sSet 4 (e2 gAdd (eV 4) (eLc (iSeq (eV 4)) [8] (gN 8) (bO (e2 gEqI (e2 gAnd (eV 8) (eV 6)) (eV 6))) (e2 gOr (eV 8) (e2 gShl (eC (.int 1)) (eV 5)))))) (sIf (bO (e2 gGt (eCall gLen (aCons (eV 4) aNil)) (eC (.int 2000)))) sNo sNil)))) (sRet (eCall gSorted (aCons (eV 4) aNil))))))))
def d_lefts_by_bits : List PyData → Option PyData := defD 1 9 b_lefts_by_bits
theorem ok_lefts_by_bits {f : Addr} {fd : FuncData} (F : Fun K "lefts_by_bits" "lefts_by_bits" s_lefts_by_bits f fd) (T : Tp mg) (c_bits_for : CallD P w K mg base "bits_for" 1 1 d_bits_for) : FnOk P w K mg base CX0 2 f fd ["order"] (spP 1 d_lefts_by_bits) :=
  okP (k := 1) (g := b_lefts_by_bits) F sc_lefts_by_bits rfl rfl (by decide) rfl fun cdv A outer s H E hr => (ss_cons (s_setOO (i := 1) (own := [("_", 7)]) (g := (gN 7)) (.inr ⟨rfl, rfl⟩) (fun _ _ => ⟨_, rfl⟩) rfl sc_lefts_by_bits.nd rfl rfl (sw_true rfl rfl rfl (by decide +kernel)) (i_rg1 rfl T.range (e_ix (v 0) e_int)) (blkOk_by (own := [("_", 7)]) (N := N_lefts_by_bits) (sc := defScope s_lefts_by_bits) (by decide +kernel)) (fun _ _ _ _ _ => (g_name (i := 7) sc_lefts_by_bits.nd rfl (by first | exact Or.inl rfl | exact Or.inr rfl))) (fun _ _ _ _ _ => n_list)) (ss_cons (s_for PassesOwn.never rfl (i_seq (e_ix (v 0) e_int)) (g_tup rfl (gs_cons (g_name (i := 2) sc_lefts_by_bits.nd rfl (by first | exact Or.inl rfl | exact Or.inr rfl)) (gs_cons (g_name (i := 3) sc_lefts_by_bits.nd rfl (by first | exact Or.inl rfl | exact Or.inr rfl)) gs_nil))) (ss_one (s_ooApp (pv 1) (v 3) (v 2)))) (ss_frzOO (i := 1) (ss_cons (s_set (i := 4) sc_lefts_by_bits.nd rfl (by first | exact Or.inl rfl | exact Or.inr rfl) (e_lst (a_cons e_int a_nil))) (ss_cons (s_for PassesOwn.never rfl (i_rg1 rfl T.range (e_ix (v 0) e_int)) (g_name (i := 5) sc_lefts_by_bits.nd rfl (by first | exact Or.inl rfl | exact Or.inr rfl)) (ss_cons (s_set (i := 6) sc_lefts_by_bits.nd rfl (by first | exact Or.inl rfl | exact Or.inr rfl) (e_callD c_bits_for (hr.mono (by decide)) (fun _ _ h => defD_len h) rfl (a_cons (e_ix (v 1) (v 5)) a_nil))) (ss_cons (s_set (i := 4) sc_lefts_by_bits.nd rfl (by first | exact Or.inl rfl | exact Or.inr rfl) (e_op oAdd (v 4) (e_lc (own := [("bits", 8)]) rfl sc_lefts_by_bits.nd (i_seq (v 4)) (blkOk_by (own := [("bits", 8)]) (N := N_lefts_by_bits) (sc := defScope s_lefts_by_bits) (by decide +kernel)) (fun _ _ _ _ _ => (g_name (i := 8) sc_lefts_by_bits.nd rfl (by first | exact Or.inl rfl | exact Or.inr rfl))) (fun _ _ _ _ _ => (ts_one (t_cmp oEqI (e_op oAnd (v 8) (v 6)) (v 6)))) (fun _ _ _ _ _ => (e_op oOr (v 8) (e_op oShl e_int (v 5))))))) (ss_one (s_if (t_cmp oGt (e_callB cLen rfl T.len PySem.boot_len (a_cons (v 4) a_nil)) (e_few rfl T.few)) (ss_one s_never) ss_nil))))) (ss_one (s_ret (e_callB (cSorted rfl) rfl T.sorted boot_sorted (a_cons (v 4) a_nil)))))))))
abbrev s_least_without : Stmt := topS 33
abbrev N_least_without : List Str := ["numbers", "held", "found", "number"]
theorem sc_least_without : FnScope N_least_without ["numbers"] (defScope s_least_without) := ⟨rfl, rfl, rfl, by decide +kernel, rfl, by decide +kernel, by decide +kernel⟩
def b_least_without : DS := (sSeq (sPar 1 2 (eCall gDict (aCons (eLc (iSeq (eV 0)) [3] (gN 3) dYes (eTup (aCons (eV 3) (aCons (eC (.bool true)) aNil)))) aNil)) (eC (.int 0))) (sSeq (sWhile 100 (bO (e2 gDIn (eV 2) (eV 1))) (sSet 2 (e2 gAdd (eV 2) (eC (.int 1))))) (sRet (eV 2))))
def d_least_without : List PyData → Option PyData := defD 1 4 b_least_without
theorem ok_least_without {f : Addr} {fd : FuncData} (F : Fun K "least_without" "least_without" s_least_without f fd) (T : Tp mg) : FnOk P w K mg base CX0 1 f fd ["numbers"] (spP 1 d_least_without) :=
  okP (k := 0) (g := b_least_without) F sc_least_without rfl rfl (by decide) rfl fun cdv A outer s H E hr => (ss_cons (s_par (i := 1) (j := 2) rfl sc_least_without.nd rfl rfl (by decide) rfl rfl (e_callTy (cDict rfl) rfl T.dict PyProof.Rows.boot_dict (a_cons (e_lc (own := [("number", 3)]) rfl sc_least_without.nd (i_seq (v 0)) (blkOk_by (own := [("number", 3)]) (N := N_least_without) (sc := defScope s_least_without) (by decide +kernel)) (fun _ _ _ _ _ => (g_name (i := 3) sc_least_without.nd rfl (by first | exact Or.inl rfl | exact Or.inr rfl))) (fun _ _ _ _ _ => ts_nil) (fun _ _ _ _ _ => (e_tup (a_cons (v 3) (a_cons e_bl a_nil))))) a_nil)) e_int rfl) (ss_cons (s_while PassesOwn.never (t_din (hu_of hr) (v 2) (v 1)) (ss_one (s_set (i := 2) sc_least_without.nd rfl (by first | exact Or.inl rfl | exact Or.inr rfl) (e_op oAdd (v 2) e_int)))) (ss_one (s_ret (v 2)))))
abbrev s_worths_by_bits : Stmt := topS 34
abbrev N_worths_by_bits : List Str := ["order", "tops", "found", "bits", "piece"]
theorem sc_worths_by_bits : FnScope N_worths_by_bits ["order"] (defScope s_worths_by_bits) := ⟨rfl, rfl, rfl, by decide +kernel, rfl, by decide +kernel, by decide +kernel⟩
def b_worths_by_bits : DS := (sSeq (sParO 1 2 (eCall d_tops_by_bits (aCons (eV 0) aNil)) (eC (.dict []))) (sSeq (sFor (iSeq (eCall d_lefts_by_bits (aCons (eV 0) aNil))) (gN 3) (sPut 2 (eCall d_least_without (aCons (eLc (iSeq (eCall d_pieces_for (aCons (eV 3) aNil))) [4] (gN 4) dYes (eDGetO 2 (e2 gAnd (eV 3) (e1 gInv (e2 gIx (eV 1) (eV 4)))))) aNil)) (eV 3))) (sFrz 2 (sRet (eV 2)))))
def d_worths_by_bits : List PyData → Option PyData := defD 1 5 b_worths_by_bits
theorem ok_worths_by_bits {f : Addr} {fd : FuncData} (F : Fun K "worths_by_bits" "worths_by_bits" s_worths_by_bits f fd) (T : Tp mg) (c_tops_by_bits : CallD P w K mg base "tops_by_bits" 1 1 d_tops_by_bits) (c_lefts_by_bits : CallD P w K mg base "lefts_by_bits" 2 1 d_lefts_by_bits) (c_least_without : CallD P w K mg base "least_without" 1 1 d_least_without) (c_pieces_for : CallD P w K mg base "pieces_for" 1 1 d_pieces_for) : FnOk P w K mg base CX0 3 f fd ["order"] (spP 1 d_worths_by_bits) :=
  okP (k := 2) (g := b_worths_by_bits) F sc_worths_by_bits rfl rfl (by decide) rfl fun cdv A outer s H E hr => (ss_cons (s_tupO (i := 1) (j := 2) rfl sc_worths_by_bits.nd rfl rfl (by first | exact Or.inl rfl | exact Or.inr rfl) (by first | exact Or.inl rfl | exact Or.inr rfl) (e_callD c_tops_by_bits (hr.mono (by decide)) (fun _ _ h => defD_len h) rfl (a_cons (v 0) a_nil)) o_dnew (fun _ => rfl)) (ss_cons (s_for PassesOwn.never rfl (i_seq (e_callD c_lefts_by_bits (hr.mono (by decide)) (fun _ _ h => defD_len h) rfl (a_cons (v 0) a_nil))) (g_name (i := 3) sc_worths_by_bits.nd rfl (by first | exact Or.inl rfl | exact Or.inr rfl)) (ss_one (s_put (hu_of hr) (pv 2) (v 3) (e_callD c_least_without (hr.mono (by decide)) (fun _ _ h => defD_len h) rfl (a_cons (e_lc (own := [("piece", 4)]) rfl sc_worths_by_bits.nd (i_seq (e_callD c_pieces_for (hr.mono (by decide)) (fun _ _ h => defD_len h) rfl (a_cons (v 3) a_nil))) (blkOk_by (own := [("piece", 4)]) (N := N_worths_by_bits) (sc := defScope s_worths_by_bits) (by decide +kernel)) (fun _ _ _ _ _ => (g_name (i := 4) sc_worths_by_bits.nd rfl (by first | exact Or.inl rfl | exact Or.inr rfl))) (fun _ _ _ _ _ => ts_nil) (fun _ _ _ _ _ => (e_dgetO (hu_of hr) (pv 2) (e_op oAnd (v 3) (e_inv (e_ix (v 1) (v 4))))))) a_nil))))) (ss_frz (i := 2) (ss_one (s_ret (v 2))))))
abbrev s_worth_in : Stmt := topS 35
abbrev N_worth_in : List Str := ["order"]
theorem sc_worth_in : FnScope N_worth_in ["order"] (defScope s_worth_in) := ⟨rfl, rfl, rfl, by decide +kernel, rfl, by decide +kernel, by decide +kernel⟩
def b_worth_in : DS := (sRet (e2 gDGet (eCall d_worths_by_bits (aCons (eV 0) aNil)) (e2 gSub (e2 gShl (eC (.int 1)) (e2 gIx (eV 0) (eC (.int 0)))) (eC (.int 1)))))
def d_worth_in : List PyData → Option PyData := defD 1 1 b_worth_in
theorem ok_worth_in {f : Addr} {fd : FuncData} (F : Fun K "worth_in" "worth_in" s_worth_in f fd) (T : Tp mg) (c_worths_by_bits : CallD P w K mg base "worths_by_bits" 3 1 d_worths_by_bits) : FnOk P w K mg base CX0 4 f fd ["order"] (spP 1 d_worth_in) :=
  okP (k := 3) (g := b_worth_in) F sc_worth_in rfl rfl (by decide) rfl fun cdv A outer s H E hr => (ss_one (s_ret (e_dget (hu_of hr) (e_callD c_worths_by_bits (hr.mono (by decide)) (fun _ _ h => defD_len h) rfl (a_cons (v 0) a_nil)) (e_op oSub (e_op oShl e_int (e_ix (v 0) e_int)) e_int))))
abbrev s_left_worth_in : Stmt := topS 36
abbrev N_left_worth_in : List Str := ["order", "left"]
theorem sc_left_worth_in : FnScope N_left_worth_in ["order", "left"] (defScope s_left_worth_in) := ⟨rfl, rfl, rfl, by decide +kernel, rfl, by decide +kernel, by decide +kernel⟩
def b_left_worth_in : DS := (sRet (e2 gDGet (eCall d_worths_by_bits (aCons (eV 0) aNil)) (eCall d_bits_for (aCons (eV 1) aNil))))
def d_left_worth_in : List PyData → Option PyData := defD 2 2 b_left_worth_in
theorem ok_left_worth_in {f : Addr} {fd : FuncData} (F : Fun K "left_worth_in" "left_worth_in" s_left_worth_in f fd) (T : Tp mg) (c_worths_by_bits : CallD P w K mg base "worths_by_bits" 3 1 d_worths_by_bits) (c_bits_for : CallD P w K mg base "bits_for" 1 1 d_bits_for) : FnOk P w K mg base CX0 4 f fd ["order", "left"] (spP 2 d_left_worth_in) :=
  okP (k := 3) (g := b_left_worth_in) F sc_left_worth_in rfl rfl (by decide) rfl fun cdv A outer s H E hr => (ss_one (s_ret (e_dget (hu_of hr) (e_callD c_worths_by_bits (hr.mono (by decide)) (fun _ _ h => defD_len h) rfl (a_cons (v 0) a_nil)) (e_callD c_bits_for (hr.mono (by decide)) (fun _ _ h => defD_len h) rfl (a_cons (v 1) a_nil)))))
abbrev s_worths_behind : Stmt := topS 37
abbrev N_worths_behind : List Str := ["order", "left", "tops", "worths", "bits", "piece"]
theorem sc_worths_behind : FnScope N_worths_behind ["order", "left"] (defScope s_worths_behind) := ⟨rfl, rfl, rfl, by decide +kernel, rfl, by decide +kernel, by decide +kernel⟩
def b_worths_behind : DS := (sSeq (sAsg (eTup (aCons (eCall d_tops_by_bits (aCons (eV 0) aNil)) (aCons (eCall d_worths_by_bits (aCons (eV 0) aNil)) (aCons (eCall d_bits_for (aCons (eV 1) aNil)) aNil)))) (gTupD 3 (gsCons (gN 2) (gsCons (gN 3) (gsCons (gN 4) gsNil))))) (sRet (eLc (iSeq (eV 1)) [5] (gN 5) dYes (eTup (aCons (eV 5) (aCons (e2 gDGet (eV 3) (e2 gAnd (eV 4) (e1 gInv (e2 gIx (eV 2) (eV 5))))) aNil))))))
def d_worths_behind : List PyData → Option PyData := defD 2 6 b_worths_behind
theorem ok_worths_behind {f : Addr} {fd : FuncData} (F : Fun K "worths_behind" "worths_behind" s_worths_behind f fd) (T : Tp mg) (c_bits_for : CallD P w K mg base "bits_for" 1 1 d_bits_for) (c_worths_by_bits : CallD P w K mg base "worths_by_bits" 3 1 d_worths_by_bits) (c_tops_by_bits : CallD P w K mg base "tops_by_bits" 1 1 d_tops_by_bits) : FnOk P w K mg base CX0 4 f fd ["order", "left"] (spP 2 d_worths_behind) :=
  okP (k := 3) (g := b_worths_behind) F sc_worths_behind rfl rfl (by decide) rfl fun cdv A outer s H E hr => (ss_cons (s_asg (e_tup (a_cons (e_callD c_tops_by_bits (hr.mono (by decide)) (fun _ _ h => defD_len h) rfl (a_cons (v 0) a_nil)) (a_cons (e_callD c_worths_by_bits (hr.mono (by decide)) (fun _ _ h => defD_len h) rfl (a_cons (v 0) a_nil)) (a_cons (e_callD c_bits_for (hr.mono (by decide)) (fun _ _ h => defD_len h) rfl (a_cons (v 1) a_nil)) a_nil)))) (g_tup rfl (gs_cons (g_name (i := 2) sc_worths_behind.nd rfl (by first | exact Or.inl rfl | exact Or.inr rfl)) (gs_cons (g_name (i := 3) sc_worths_behind.nd rfl (by first | exact Or.inl rfl | exact Or.inr rfl)) (gs_cons (g_name (i := 4) sc_worths_behind.nd rfl (by first | exact Or.inl rfl | exact Or.inr rfl)) gs_nil))))) (ss_one (s_ret (e_lc (own := [("piece", 5)]) rfl sc_worths_behind.nd (i_seq (v 1)) (blkOk_by (own := [("piece", 5)]) (N := N_worths_behind) (sc := defScope s_worths_behind) (by decide +kernel)) (fun _ _ _ _ _ => (g_name (i := 5) sc_worths_behind.nd rfl (by first | exact Or.inl rfl | exact Or.inr rfl))) (fun _ _ _ _ _ => ts_nil) (fun _ _ _ _ _ => (e_tup (a_cons (v 5) (a_cons (e_dget (hu_of hr) (v 3) (e_op oAnd (v 4) (e_inv (e_ix (v 2) (v 5))))) a_nil))))))))
end
end Ea
end
section
set_option Elab.async false
set_option linter.all false
set_option maxRecDepth 100000
set_option maxHeartbeats 4000000
namespace Ea
open PySem PySem.Spec L2
open PyProof.Rows hiding St
section
variable {P : Program} {w : World} {K : PySem.W.Frag} {mg : Str → Option Value} {base : Heap}
abbrev s_sure_order : Stmt := topS 22
abbrev N_sure_order : List Str := ["order", "own"]
theorem sc_sure_order : FnScope N_sure_order ["order"] (defScope s_sure_order) := ⟨rfl, rfl, rfl, by decide +kernel, rfl, by decide +kernel, by decide +kernel⟩
def b_sure_order : DS := (sSeq (sSet 1 (eCall d_tupled (aCons (eV 0) aNil))) (sSeq (sIf (tNotD (bO (eCall d_is_order (aCons (eV 1) aNil)))) sNo sNil) (sRet (eV 1))))
def d_sure_order : List PyData → Option PyData := defD 1 2 b_sure_order
theorem ok_sure_order {f : Addr} {fd : FuncData} (F : Fun K "sure_order" "sure_order" s_sure_order f fd) (T : Tp mg) (c_tupled : CallD P w K mg base "tupled" 8 1 d_tupled) (c_is_order : CallD P w K mg base "is_order" 5 1 d_is_order) : FnOk P w K mg base CX0 9 f fd ["order"] (spP 1 d_sure_order) :=
  okP (k := 8) (g := b_sure_order) F sc_sure_order rfl rfl (by decide) rfl fun cdv A outer s H E hr => (ss_cons (s_set (i := 1) sc_sure_order.nd rfl (by first | exact Or.inl rfl | exact Or.inr rfl) (e_callD c_tupled (hr.mono (by decide)) (fun _ _ h => defD_len h) rfl (a_cons (v 0) a_nil))) (ss_cons (s_if (t_not (t_val (e_callD c_is_order (hr.mono (by decide)) (fun _ _ h => defD_len h) rfl (a_cons (v 1) a_nil)))) (ss_one s_never) ss_nil) (ss_one (s_ret (v 1)))))
abbrev s_sure_left : Stmt := topS 26
abbrev N_sure_left : List Str := ["order", "left", "own"]
theorem sc_sure_left : FnScope N_sure_left ["order", "left"] (defScope s_sure_left) := ⟨rfl, rfl, rfl, by decide +kernel, rfl, by decide +kernel, by decide +kernel⟩
def b_sure_left : DS := (sSeq (sSet 2 (eCall d_tupled (aCons (eV 1) aNil))) (sSeq (sIf (tNotD (bO (eCall d_is_left_in (aCons (eV 0) (aCons (eV 2) aNil))))) sNo sNil) (sRet (eV 2))))
def d_sure_left : List PyData → Option PyData := defD 2 3 b_sure_left
theorem ok_sure_left {f : Addr} {fd : FuncData} (F : Fun K "sure_left" "sure_left" s_sure_left f fd) (T : Tp mg) (c_tupled : CallD P w K mg base "tupled" 8 1 d_tupled) (c_is_left_in : CallD P w K mg base "is_left_in" 4 2 d_is_left_in) : FnOk P w K mg base CX0 9 f fd ["order", "left"] (spP 2 d_sure_left) :=
  okP (k := 8) (g := b_sure_left) F sc_sure_left rfl rfl (by decide) rfl fun cdv A outer s H E hr => (ss_cons (s_set (i := 2) sc_sure_left.nd rfl (by first | exact Or.inl rfl | exact Or.inr rfl) (e_callD c_tupled (hr.mono (by decide)) (fun _ _ h => defD_len h) rfl (a_cons (v 1) a_nil))) (ss_cons (s_if (t_not (t_val (e_callD c_is_left_in (hr.mono (by decide)) (fun _ _ h => defD_len h) rfl (a_cons (v 0) (a_cons (v 2) a_nil))))) (ss_one s_never) ss_nil) (ss_one (s_ret (v 2)))))
abbrev s_sure_orders : Stmt := topS 39
abbrev N_sure_orders : List Str := ["orders", "own", "order"]
theorem sc_sure_orders : FnScope N_sure_orders ["orders"] (defScope s_sure_orders) := ⟨rfl, rfl, rfl, by decide +kernel, rfl, by decide +kernel, by decide +kernel⟩
def b_sure_orders : DS := (sSeq (sSet 1 (eCall d_tupled (aCons (eV 0) aNil))) (sSeq (sIf (tNotD (bO (e1 (gIsi "tuple") (eV 1)))) sNo sNil) (sRet (eCall gTuple (aCons (eLc (iSeq (eV 1)) [2] (gN 2) dYes (eCall d_sure_order (aCons (eV 2) aNil))) aNil)))))
def d_sure_orders : List PyData → Option PyData := defD 1 3 b_sure_orders
theorem ok_sure_orders {f : Addr} {fd : FuncData} (F : Fun K "sure_orders" "sure_orders" s_sure_orders f fd) (T : Tp mg) (c_tupled : CallD P w K mg base "tupled" 8 1 d_tupled) (c_sure_order : CallD P w K mg base "sure_order" 9 1 d_sure_order) : FnOk P w K mg base CX0 10 f fd ["orders"] (spP 1 d_sure_orders) :=
  okP (k := 9) (g := b_sure_orders) F sc_sure_orders rfl rfl (by decide) rfl fun cdv A outer s H E hr => (ss_cons (s_set (i := 1) sc_sure_orders.nd rfl (by first | exact Or.inl rfl | exact Or.inr rfl) (e_callD c_tupled (hr.mono (by decide)) (fun _ _ h => defD_len h) rfl (a_cons (v 0) a_nil))) (ss_cons (s_if (t_not (t_val (e_isi kit_tuple rfl T.isi boot_isinstance (v 1) rfl T.tuple PyProof.Rows.boot_tuple))) (ss_one s_never) ss_nil) (ss_one (s_ret (e_callTy cTuple rfl T.tuple PyProof.Rows.boot_tuple (a_cons (e_lc (own := [("order", 2)]) rfl sc_sure_orders.nd (i_seq (v 1)) (blkOk_by (own := [("order", 2)]) (N := N_sure_orders) (sc := defScope s_sure_orders) (by decide +kernel)) (fun _ _ _ _ _ => (g_name (i := 2) sc_sure_orders.nd rfl (by first | exact Or.inl rfl | exact Or.inr rfl))) (fun _ _ _ _ _ => ts_nil) (fun _ _ _ _ _ => (e_callD c_sure_order (hr.mono (by decide)) (fun _ _ h => defD_len h) rfl (a_cons (v 2) a_nil)))) a_nil))))))
abbrev s_sure_lefts : Stmt := topS 40
abbrev N_sure_lefts : List Str := ["orders", "lefts", "told", "order", "left"]
theorem sc_sure_lefts : FnScope N_sure_lefts ["orders", "lefts"] (defScope s_sure_lefts) := ⟨rfl, rfl, rfl, by decide +kernel, rfl, by decide +kernel, by decide +kernel⟩
def b_sure_lefts : DS := (sSeq (sSet 2 (eCall d_tupled (aCons (eV 1) aNil))) (sSeq (sIf (tOrD (tNotD (bO (e1 (gIsi "tuple") (eV 2)))) (bO (e2 gNeI (eCall gLen (aCons (eV 2) aNil)) (eCall gLen (aCons (eV 0) aNil))))) sNo sNil) (sRet (eCall gTuple (aCons (eLc (iZipD (eV 0) (eV 2)) [3, 4] (gTupD 2 (gsCons (gN 3) (gsCons (gN 4) gsNil))) dYes (eCall d_sure_left (aCons (eV 3) (aCons (eV 4) aNil)))) aNil)))))
def d_sure_lefts : List PyData → Option PyData := defD 2 5 b_sure_lefts
theorem ok_sure_lefts {f : Addr} {fd : FuncData} (F : Fun K "sure_lefts" "sure_lefts" s_sure_lefts f fd) (T : Tp mg) (c_tupled : CallD P w K mg base "tupled" 8 1 d_tupled) (c_sure_left : CallD P w K mg base "sure_left" 9 2 d_sure_left) : FnOk P w K mg base CX0 10 f fd ["orders", "lefts"] (spP 2 d_sure_lefts) :=
  okP (k := 9) (g := b_sure_lefts) F sc_sure_lefts rfl rfl (by decide) rfl fun cdv A outer s H E hr => (ss_cons (s_set (i := 2) sc_sure_lefts.nd rfl (by first | exact Or.inl rfl | exact Or.inr rfl) (e_callD c_tupled (hr.mono (by decide)) (fun _ _ h => defD_len h) rfl (a_cons (v 1) a_nil))) (ss_cons (s_if (PW.pt (w_or (t_not (t_val (e_isi kit_tuple rfl T.isi boot_isinstance (v 2) rfl T.tuple PyProof.Rows.boot_tuple))) (w_or1 (t_cmp oNeI (e_callB cLen rfl T.len PySem.boot_len (a_cons (v 2) a_nil)) (e_callB cLen rfl T.len PySem.boot_len (a_cons (v 0) a_nil)))))) (ss_one s_never) ss_nil) (ss_one (s_ret (e_callTy cTuple rfl T.tuple PyProof.Rows.boot_tuple (a_cons (e_lc (own := [("order", 3), ("left", 4)]) rfl sc_sure_lefts.nd (i_zip rfl T.zip (v 0) (v 2)) (blkOk_by (own := [("order", 3), ("left", 4)]) (N := N_sure_lefts) (sc := defScope s_sure_lefts) (by decide +kernel)) (fun _ _ _ _ _ => (g_tup rfl (gs_cons (g_name (i := 3) sc_sure_lefts.nd rfl (by first | exact Or.inl rfl | exact Or.inr rfl)) (gs_cons (g_name (i := 4) sc_sure_lefts.nd rfl (by first | exact Or.inl rfl | exact Or.inr rfl)) gs_nil)))) (fun _ _ _ _ _ => ts_nil) (fun _ _ _ _ _ => (e_callD c_sure_left (hr.mono (by decide)) (fun _ _ h => defD_len h) rfl (a_cons (v 3) (a_cons (v 4) a_nil))))) a_nil))))))
abbrev s_put_together : Stmt := topS 41
abbrev N_put_together : List Str := ["numbers", "found", "number"]
theorem sc_put_together : FnScope N_put_together ["numbers"] (defScope s_put_together) := ⟨rfl, rfl, rfl, by decide +kernel, rfl, by decide +kernel, by decide +kernel⟩
def b_put_together : DS := (sSeq (sSet 1 (eC (.int 0))) (sSeq (sFor (iSeq (eV 0)) (gN 2) (sSet 1 (e2 gXor (eV 1) (eV 2)))) (sRet (eV 1))))
def d_put_together : List PyData → Option PyData := defD 1 3 b_put_together
theorem ok_put_together {f : Addr} {fd : FuncData} (F : Fun K "put_together" "put_together" s_put_together f fd) (T : Tp mg) : FnOk P w K mg base CX0 1 f fd ["numbers"] (spP 1 d_put_together) :=
  okP (k := 0) (g := b_put_together) F sc_put_together rfl rfl (by decide) rfl fun cdv A outer s H E hr => (ss_cons (s_set (i := 1) sc_put_together.nd rfl (by first | exact Or.inl rfl | exact Or.inr rfl) e_int) (ss_cons (s_for PassesOwn.never rfl (i_seq (v 0)) (g_name (i := 2) sc_put_together.nd rfl (by first | exact Or.inl rfl | exact Or.inr rfl)) (ss_one (s_set (i := 1) sc_put_together.nd rfl (by first | exact Or.inl rfl | exact Or.inr rfl) (e_op oXor (v 1) (v 2))))) (ss_one (s_ret (v 1)))))
abbrev s_orders_worth : Stmt := topS 42
abbrev N_orders_worth : List Str := ["orders", "order"]
theorem sc_orders_worth : FnScope N_orders_worth ["orders"] (defScope s_orders_worth) := ⟨rfl, rfl, rfl, by decide +kernel, rfl, by decide +kernel, by decide +kernel⟩
def b_orders_worth : DS := (sRet (eCall d_put_together (aCons (eLc (iSeq (eV 0)) [1] (gN 1) dYes (eCall d_worth_in (aCons (eV 1) aNil))) aNil)))
def d_orders_worth : List PyData → Option PyData := defD 1 2 b_orders_worth
theorem ok_orders_worth {f : Addr} {fd : FuncData} (F : Fun K "orders_worth" "orders_worth" s_orders_worth f fd) (T : Tp mg) (c_put_together : CallD P w K mg base "put_together" 1 1 d_put_together) (c_worth_in : CallD P w K mg base "worth_in" 4 1 d_worth_in) : FnOk P w K mg base CX0 5 f fd ["orders"] (spP 1 d_orders_worth) :=
  okP (k := 4) (g := b_orders_worth) F sc_orders_worth rfl rfl (by decide) rfl fun cdv A outer s H E hr => (ss_one (s_ret (e_callD c_put_together (hr.mono (by decide)) (fun _ _ h => defD_len h) rfl (a_cons (e_lc (own := [("order", 1)]) rfl sc_orders_worth.nd (i_seq (v 0)) (blkOk_by (own := [("order", 1)]) (N := N_orders_worth) (sc := defScope s_orders_worth) (by decide +kernel)) (fun _ _ _ _ _ => (g_name (i := 1) sc_orders_worth.nd rfl (by first | exact Or.inl rfl | exact Or.inr rfl))) (fun _ _ _ _ _ => ts_nil) (fun _ _ _ _ _ => (e_callD c_worth_in (hr.mono (by decide)) (fun _ _ h => defD_len h) rfl (a_cons (v 1) a_nil)))) a_nil))))
abbrev s_lefts_worths : Stmt := topS 43
abbrev N_lefts_worths : List Str := ["orders", "lefts", "order", "left"]
theorem sc_lefts_worths : FnScope N_lefts_worths ["orders", "lefts"] (defScope s_lefts_worths) := ⟨rfl, rfl, rfl, by decide +kernel, rfl, by decide +kernel, by decide +kernel⟩
def b_lefts_worths : DS := (sRet (eLc (iZipD (eV 0) (eV 1)) [2, 3] (gTupD 2 (gsCons (gN 2) (gsCons (gN 3) gsNil))) dYes (eCall d_left_worth_in (aCons (eV 2) (aCons (eV 3) aNil)))))
def d_lefts_worths : List PyData → Option PyData := defD 2 4 b_lefts_worths
theorem ok_lefts_worths {f : Addr} {fd : FuncData} (F : Fun K "lefts_worths" "lefts_worths" s_lefts_worths f fd) (T : Tp mg) (c_left_worth_in : CallD P w K mg base "left_worth_in" 4 2 d_left_worth_in) : FnOk P w K mg base CX0 5 f fd ["orders", "lefts"] (spP 2 d_lefts_worths) :=
  okP (k := 4) (g := b_lefts_worths) F sc_lefts_worths rfl rfl (by decide) rfl fun cdv A outer s H E hr => (ss_one (s_ret (e_lc (own := [("order", 2), ("left", 3)]) rfl sc_lefts_worths.nd (i_zip rfl T.zip (v 0) (v 1)) (blkOk_by (own := [("order", 2), ("left", 3)]) (N := N_lefts_worths) (sc := defScope s_lefts_worths) (by decide +kernel)) (fun _ _ _ _ _ => (g_tup rfl (gs_cons (g_name (i := 2) sc_lefts_worths.nd rfl (by first | exact Or.inl rfl | exact Or.inr rfl)) (gs_cons (g_name (i := 3) sc_lefts_worths.nd rfl (by first | exact Or.inl rfl | exact Or.inr rfl)) gs_nil)))) (fun _ _ _ _ _ => ts_nil) (fun _ _ _ _ _ => (e_callD c_left_worth_in (hr.mono (by decide)) (fun _ _ h => defD_len h) rfl (a_cons (v 2) (a_cons (v 3) a_nil)))))))
abbrev s_winning_in : Stmt := topS 44
abbrev N_winning_in : List Str := ["orders", "lefts", "worths", "found", "whole", "number", "order", "goal", "piece", "left"]
theorem sc_winning_in : FnScope N_winning_in ["orders", "lefts"] (defScope s_winning_in) := ⟨rfl, rfl, rfl, by decide +kernel, rfl, by decide +kernel, by decide +kernel⟩
def b_winning_in : DS := (sSeq (sParO 2 3 (eCall d_lefts_worths (aCons (eV 0) (aCons (eV 1) aNil))) (eLst aNil)) (sSeq (sSet 4 (eCall d_put_together (aCons (eV 2) aNil))) (sSeq (sFor (iEnumD (eV 0)) (gTupD 2 (gsCons (gN 5) (gsCons (gN 6) gsNil))) (sSeq (sSet 7 (e2 gXor (eV 4) (e2 gIx (eV 2) (eV 5)))) (sMut extD 3 (eLc (iSeq (eCall d_worths_behind (aCons (eV 6) (aCons (e2 gIx (eV 1) (eV 5)) aNil)))) [8, 9] (gTupD 2 (gsCons (gN 8) (gsCons (gN 9) gsNil))) (bO (e2 gEqI (eV 9) (eV 7))) (eTup (aCons (eV 5) (aCons (eV 8) aNil))))))) (sFrz 3 (sRet (eCall gTuple (aCons (eV 3) aNil)))))))
def d_winning_in : List PyData → Option PyData := defD 2 10 b_winning_in
theorem ok_winning_in {f : Addr} {fd : FuncData} (F : Fun K "winning_in" "winning_in" s_winning_in f fd) (T : Tp mg) (c_lefts_worths : CallD P w K mg base "lefts_worths" 5 2 d_lefts_worths) (c_put_together : CallD P w K mg base "put_together" 1 1 d_put_together) (c_worths_behind : CallD P w K mg base "worths_behind" 4 2 d_worths_behind) : FnOk P w K mg base CX0 6 f fd ["orders", "lefts"] (spP 2 d_winning_in) :=
  okP (k := 5) (g := b_winning_in) F sc_winning_in rfl rfl (by decide) rfl fun cdv A outer s H E hr => (ss_cons (s_parO (i := 2) (j := 3) rfl sc_winning_in.nd rfl rfl (by decide) rfl rfl (e_callD c_lefts_worths (hr.mono (by decide)) (fun _ _ h => defD_len h) rfl (a_cons (v 0) (a_cons (v 1) a_nil))) (o_lst a_nil) rfl) (ss_cons (s_set (i := 4) sc_winning_in.nd rfl (by first | exact Or.inl rfl | exact Or.inr rfl) (e_callD c_put_together (hr.mono (by decide)) (fun _ _ h => defD_len h) rfl (a_cons (v 2) a_nil))) (ss_cons (s_for PassesOwn.never rfl (i_enum rfl T.enum (v 0)) (g_tup rfl (gs_cons (g_name (i := 5) sc_winning_in.nd rfl (by first | exact Or.inl rfl | exact Or.inr rfl)) (gs_cons (g_name (i := 6) sc_winning_in.nd rfl (by first | exact Or.inl rfl | exact Or.inr rfl)) gs_nil))) (ss_cons (s_set (i := 7) sc_winning_in.nd rfl (by first | exact Or.inl rfl | exact Or.inr rfl) (e_op oXor (v 4) (e_ix (v 2) (v 5)))) (ss_one (s_extend (pv 3) (e_lc (own := [("piece", 8), ("left", 9)]) rfl sc_winning_in.nd (i_seq (e_callD c_worths_behind (hr.mono (by decide)) (fun _ _ h => defD_len h) rfl (a_cons (v 6) (a_cons (e_ix (v 1) (v 5)) a_nil)))) (blkOk_by (own := [("piece", 8), ("left", 9)]) (N := N_winning_in) (sc := defScope s_winning_in) (by decide +kernel)) (fun _ _ _ _ _ => (g_tup rfl (gs_cons (g_name (i := 8) sc_winning_in.nd rfl (by first | exact Or.inl rfl | exact Or.inr rfl)) (gs_cons (g_name (i := 9) sc_winning_in.nd rfl (by first | exact Or.inl rfl | exact Or.inr rfl)) gs_nil)))) (fun _ _ _ _ _ => (ts_one (t_cmp oEqI (v 9) (v 7)))) (fun _ _ _ _ _ => (e_tup (a_cons (v 5) (a_cons (v 8) a_nil))))))))) (ss_frz (i := 3) (ss_one (s_ret (e_callTy cTuple rfl T.tuple PyProof.Rows.boot_tuple (a_cons (v 3) a_nil))))))))
abbrev s_lefts_sure : Stmt := topS 45
abbrev N_lefts_sure : List Str := ["orders", "lefts", "own"]
theorem sc_lefts_sure : FnScope N_lefts_sure ["orders", "lefts"] (defScope s_lefts_sure) := ⟨rfl, rfl, rfl, by decide +kernel, rfl, by decide +kernel, by decide +kernel⟩
def b_lefts_sure : DS := (sSeq (sSet 2 (eCall d_sure_orders (aCons (eV 0) aNil))) (sRet (eTup (aCons (eV 2) (aCons (eCall d_sure_lefts (aCons (eV 2) (aCons (eV 1) aNil))) aNil)))))
def d_lefts_sure : List PyData → Option PyData := defD 2 3 b_lefts_sure
theorem ok_lefts_sure {f : Addr} {fd : FuncData} (F : Fun K "lefts_sure" "lefts_sure" s_lefts_sure f fd) (T : Tp mg) (c_sure_orders : CallD P w K mg base "sure_orders" 10 1 d_sure_orders) (c_sure_lefts : CallD P w K mg base "sure_lefts" 10 2 d_sure_lefts) : FnOk P w K mg base CX0 11 f fd ["orders", "lefts"] (spP 2 d_lefts_sure) :=
  okP (k := 10) (g := b_lefts_sure) F sc_lefts_sure rfl rfl (by decide) rfl fun cdv A outer s H E hr => (ss_cons (s_set (i := 2) sc_lefts_sure.nd rfl (by first | exact Or.inl rfl | exact Or.inr rfl) (e_callD c_sure_orders (hr.mono (by decide)) (fun _ _ h => defD_len h) rfl (a_cons (v 0) a_nil))) (ss_one (s_ret (e_tup (a_cons (v 2) (a_cons (e_callD c_sure_lefts (hr.mono (by decide)) (fun _ _ h => defD_len h) rfl (a_cons (v 2) (a_cons (v 1) a_nil))) a_nil))))))
abbrev s_sum_worth : Stmt := topS 47
abbrev N_sum_worth : List Str := ["orders"]
theorem sc_sum_worth : FnScope N_sum_worth ["orders"] (defScope s_sum_worth) := ⟨rfl, rfl, rfl, by decide +kernel, rfl, by decide +kernel, by decide +kernel⟩
def b_sum_worth : DS := (sRet (eCall d_orders_worth (aCons (eCall d_sure_orders (aCons (eV 0) aNil)) aNil)))
def d_sum_worth : List PyData → Option PyData := defD 1 1 b_sum_worth
theorem ok_sum_worth {f : Addr} {fd : FuncData} (F : Fun K "sum_worth" "sum_worth" s_sum_worth f fd) (T : Tp mg) (c_orders_worth : CallD P w K mg base "orders_worth" 5 1 d_orders_worth) (c_sure_orders : CallD P w K mg base "sure_orders" 10 1 d_sure_orders) : FnOk P w K mg base CX0 11 f fd ["orders"] (spP 1 d_sum_worth) :=
  okP (k := 10) (g := b_sum_worth) F sc_sum_worth rfl rfl (by decide) rfl fun cdv A outer s H E hr => (ss_one (s_ret (e_callD c_orders_worth (hr.mono (by decide)) (fun _ _ h => defD_len h) rfl (a_cons (e_callD c_sure_orders (hr.mono (by decide)) (fun _ _ h => defD_len h) rfl (a_cons (v 0) a_nil)) a_nil))))
abbrev s_is_spot : Stmt := topS 48
abbrev N_is_spot : List Str := ["thing"]
theorem sc_is_spot : FnScope N_is_spot ["thing"] (defScope s_is_spot) := ⟨rfl, rfl, rfl, by decide +kernel, rfl, by decide +kernel, by decide +kernel⟩
def b_is_spot : DS := (sRet (eAnd (e1 (gIsi "tuple") (eV 0)) (eAnd (e2 gEqI (eCall gLen (aCons (eV 0) aNil)) (eC (.int 2))) (eAnd (eCall d_is_number (aCons (e2 gIx (eV 0) (eC (.int 0))) aNil)) (eCall d_is_number (aCons (e2 gIx (eV 0) (eC (.int 1))) aNil))))))
def d_is_spot : List PyData → Option PyData := defD 1 1 b_is_spot
theorem ok_is_spot {f : Addr} {fd : FuncData} (F : Fun K "is_spot" "is_spot" s_is_spot f fd) (T : Tp mg) (c_is_number : CallD P w K mg base "is_number" 1 1 d_is_number) : FnOk P w K mg base CX0 2 f fd ["thing"] (spP 1 d_is_spot) :=
  okP (k := 1) (g := b_is_spot) F sc_is_spot rfl rfl (by decide) rfl fun cdv A outer s H E hr => (ss_one (s_ret (e_and (e_isi kit_tuple rfl T.isi boot_isinstance (v 0) rfl T.tuple PyProof.Rows.boot_tuple) (e_and (e_cmp oEqI (e_callB cLen rfl T.len PySem.boot_len (a_cons (v 0) a_nil)) e_int) (e_and (e_callD c_is_number (hr.mono (by decide)) (fun _ _ h => defD_len h) rfl (a_cons (e_ix (v 0) e_int) a_nil)) (e_one (e_callD c_is_number (hr.mono (by decide)) (fun _ _ h => defD_len h) rfl (a_cons (e_ix (v 0) e_int) a_nil))))))))
abbrev s_are_balanced : Stmt := topS 49
abbrev N_are_balanced : List Str := ["orders", "others", "one", "other"]
theorem sc_are_balanced : FnScope N_are_balanced ["orders", "others"] (defScope s_are_balanced) := ⟨rfl, rfl, rfl, by decide +kernel, rfl, by decide +kernel, by decide +kernel⟩
def b_are_balanced : DS := (sSeq (sPar 2 3 (eCall d_sure_orders (aCons (eV 0) aNil)) (eCall d_sure_orders (aCons (eV 1) aNil))) (sRet (e2 gEqI (eCall d_orders_worth (aCons (eV 2) aNil)) (eCall d_orders_worth (aCons (eV 3) aNil)))))
def d_are_balanced : List PyData → Option PyData := defD 2 4 b_are_balanced
theorem ok_are_balanced {f : Addr} {fd : FuncData} (F : Fun K "are_balanced" "are_balanced" s_are_balanced f fd) (T : Tp mg) (c_sure_orders : CallD P w K mg base "sure_orders" 10 1 d_sure_orders) (c_orders_worth : CallD P w K mg base "orders_worth" 5 1 d_orders_worth) : FnOk P w K mg base CX0 11 f fd ["orders", "others"] (spP 2 d_are_balanced) :=
  okP (k := 10) (g := b_are_balanced) F sc_are_balanced rfl rfl (by decide) rfl fun cdv A outer s H E hr => (ss_cons (s_par (i := 2) (j := 3) rfl sc_are_balanced.nd rfl rfl (by decide) rfl rfl (e_callD c_sure_orders (hr.mono (by decide)) (fun _ _ h => defD_len h) rfl (a_cons (v 0) a_nil)) (e_callD c_sure_orders (hr.mono (by decide)) (fun _ _ h => defD_len h) rfl (a_cons (v 1) a_nil)) rfl) (ss_one (s_ret (e_cmp oEqI (e_callD c_orders_worth (hr.mono (by decide)) (fun _ _ h => defD_len h) rfl (a_cons (v 2) a_nil)) (e_callD c_orders_worth (hr.mono (by decide)) (fun _ _ h => defD_len h) rfl (a_cons (v 3) a_nil))))))
abbrev s_balance : Stmt := topS 50
abbrev N_balance : List Str := ["orders", "many", "piece"]
theorem sc_balance : FnScope N_balance ["orders"] (defScope s_balance) := ⟨rfl, rfl, rfl, by decide +kernel, rfl, by decide +kernel, by decide +kernel⟩
def b_balance : DS := (sSeq (sSet 1 (eCall d_sum_worth (aCons (eV 0) aNil))) (sRet (eTup (aCons (eV 1) (aCons (eCall gTuple (aCons (eLc (iRg1 (e2 gSub (eV 1) (eC (.int 1)))) [2] (gN 2) dYes (eTup (aCons (eV 2) (aCons (e2 gAdd (eV 2) (eC (.int 1))) aNil)))) aNil)) aNil)))))
def d_balance : List PyData → Option PyData := defD 1 3 b_balance
theorem ok_balance {f : Addr} {fd : FuncData} (F : Fun K "balance" "balance" s_balance f fd) (T : Tp mg) (c_sum_worth : CallD P w K mg base "sum_worth" 11 1 d_sum_worth) : FnOk P w K mg base CX0 12 f fd ["orders"] (spP 1 d_balance) :=
  okP (k := 11) (g := b_balance) F sc_balance rfl rfl (by decide) rfl fun cdv A outer s H E hr => (ss_cons (s_set (i := 1) sc_balance.nd rfl (by first | exact Or.inl rfl | exact Or.inr rfl) (e_callD c_sum_worth (hr.mono (by decide)) (fun _ _ h => defD_len h) rfl (a_cons (v 0) a_nil))) (ss_one (s_ret (e_tup (a_cons (v 1) (a_cons (e_callTy cTuple rfl T.tuple PyProof.Rows.boot_tuple (a_cons (e_lc (own := [("piece", 2)]) rfl sc_balance.nd (i_rg1 rfl T.range (e_op oSub (v 1) e_int)) (blkOk_by (own := [("piece", 2)]) (N := N_balance) (sc := defScope s_balance) (by decide +kernel)) (fun _ _ _ _ _ => (g_name (i := 2) sc_balance.nd rfl (by first | exact Or.inl rfl | exact Or.inr rfl))) (fun _ _ _ _ _ => ts_nil) (fun _ _ _ _ _ => (e_tup (a_cons (v 2) (a_cons (e_op oAdd (v 2) e_int) a_nil))))) a_nil)) a_nil))))))
end
end Ea
end
section
set_option Elab.async false
set_option linter.all false
set_option maxRecDepth 100000
set_option maxHeartbeats 4000000
namespace Ea
open PySem PySem.Spec L2
open PyProof.Rows hiding St
section
variable {P : Program} {w : World} {K : PySem.W.Frag} {mg : Str → Option Value} {base : Heap}
abbrev s_l_lists : Stmt := topS 59
abbrev N_l_lists : List Str := ["_law_matter", "_law_bit"]
theorem sc_l_lists : FnScope N_l_lists ["_law_matter"] (defScope s_l_lists) := ⟨rfl, rfl, rfl, by decide +kernel, rfl, by decide +kernel, by decide +kernel⟩
def b_l_lists (r : List PyData → Option PyData) : DS := (sRet (eIf (bO (e1 (gIsi2 "list" "tuple") (eV 0))) (eLc (iSeq (eV 0)) [1] (gN 1) dYes (eCall r (aCons (eV 1) aNil))) (eV 0)))
def r_l_lists : Nat → List PyData → Option PyData
  | 0 => fun _ => none
  | k + 1 => defD 1 2 (b_l_lists (r_l_lists k))
theorem rn_l_lists : ∀ (k : Nat) (ds : List PyData) (d : PyData), r_l_lists k ds = some d → ds.length = 1
  | 0, _, _, h => nomatch h
  | _ + 1, _, _, h => defD_len h
def d_l_lists : List PyData → Option PyData := r_l_lists 8
theorem dn_l_lists : ∀ (ds : List PyData) (d : PyData), d_l_lists ds = some d → ds.length = 1 := rn_l_lists 8
theorem okr_l_lists {f : Addr} {fd : FuncData} (F : Fun K "_law_lists" "_law_lists" s_l_lists f fd) (T : Tp mg) (m : mg "_law_lists" = some (.ref f)) (kp : PySem.W.keepIn K (.ref f) = true) (bb : Binds K fd ["_law_matter"] []) : ∀ j : Nat, FnOk P w K mg base CX0 (j + 0) f fd ["_law_matter"] (spP 1 (r_l_lists j))
  | 0 => ⟨fun vs H Q E h => h.1, fun A outer s H args us vs Q E hr e0 hb hv h => by obtain ⟨_, _, _, _, _, _, q, _⟩ := h; cases q⟩
  | j + 1 => by
    have c_l_lists : CallD P w K mg base "_law_lists" (j + 0) 1 (r_l_lists j) := .mk' (okr_l_lists F T m kp bb j) m kp bb
    have hn := rn_l_lists j
    have h := okP (P := P) (w := w) (mg := mg) (base := base) (k := j + 0) (d := r_l_lists (j + 1)) (g := b_l_lists (r_l_lists j)) F sc_l_lists rfl rfl (by decide) rfl fun cdv A outer s H E hr => (ss_one (s_ret (e_if (t_val (e_isi2 kit_list kit_tuple rfl T.isi boot_isinstance (v 0) rfl T.list PyProof.Rows.boot_list rfl T.tuple PyProof.Rows.boot_tuple)) (e_lc (own := [("_law_bit", 1)]) rfl sc_l_lists.nd (i_seq (v 0)) (blkOk_by (own := [("_law_bit", 1)]) (N := N_l_lists) (sc := defScope s_l_lists) (by decide +kernel)) (fun _ _ _ _ _ => (g_name (i := 1) sc_l_lists.nd rfl (by first | exact Or.inl rfl | exact Or.inr rfl))) (fun _ _ _ _ _ => ts_nil) (fun _ _ _ _ _ => (e_callD c_l_lists (hr.mono (by omega)) hn rfl (a_cons (v 1) a_nil)))) (v 0))))
    exact h
theorem ok_l_lists {f : Addr} {fd : FuncData} (F : Fun K "_law_lists" "_law_lists" s_l_lists f fd) (T : Tp mg) (m : mg "_law_lists" = some (.ref f)) (kp : PySem.W.keepIn K (.ref f) = true) (bb : Binds K fd ["_law_matter"] []) : FnOk P w K mg base CX0 8 f fd ["_law_matter"] (spP 1 d_l_lists) := okr_l_lists F T m kp bb 8
abbrev s_l_same : Stmt := topS 60
abbrev N_l_same : List Str := ["_law_got", "_law_due", "_law_mine", "_law_its"]
theorem sc_l_same : FnScope N_l_same ["_law_got", "_law_due"] (defScope s_l_same) := ⟨rfl, rfl, rfl, by decide +kernel, rfl, by decide +kernel, by decide +kernel⟩
def b_l_same (r : List PyData → Option PyData) : DS := (sSeq (sIf (bO (e1 (gIsi2 "list" "tuple") (eV 1))) (sSeq (sIf (tOrD (bO (e2 gNeB (e1 (gIsi "list") (eV 0)) (e1 (gIsi "list") (eV 1)))) (bO (e2 gNeB (e1 (gIsi "tuple") (eV 0)) (e1 (gIsi "tuple") (eV 1))))) (sRet (eC (.bool false))) sNil) (sRet (eAnd (e2 gEqI (eCall gLen (aCons (eV 0) aNil)) (eCall gLen (aCons (eV 1) aNil))) (eCall gAll (aCons (eLc (iZipD (eV 0) (eV 1)) [2, 3] (gTupD 2 (gsCons (gN 2) (gsCons (gN 3) gsNil))) dYes (eCall r (aCons (eV 2) (aCons (eV 3) aNil)))) aNil))))) sNil) (sSeq (sIf (tOrD (bO (e1 gIsN (eV 1))) (bO (e1 (gIsi2 "bool" "str") (eV 1)))) (sRet (eAnd (e2 gEqD (eV 0) (eV 1)) (eAnd (e2 gEqB (e1 (gIsi "bool") (eV 0)) (e1 (gIsi "bool") (eV 1))) (e2 gEqB (e1 gIsN (eV 0)) (e1 gIsN (eV 1)))))) sNil) (sRet (eAnd (e1 (gIsi "int") (eV 0)) (eAnd (eNot (e1 (gIsi "bool") (eV 0))) (e2 gEqD (eV 0) (eV 1)))))))
def r_l_same : Nat → List PyData → Option PyData
  | 0 => fun _ => none
  | k + 1 => defD 2 4 (b_l_same (r_l_same k))
theorem rn_l_same : ∀ (k : Nat) (ds : List PyData) (d : PyData), r_l_same k ds = some d → ds.length = 2
  | 0, _, _, h => nomatch h
  | _ + 1, _, _, h => defD_len h
def d_l_same : List PyData → Option PyData := r_l_same 8
theorem dn_l_same : ∀ (ds : List PyData) (d : PyData), d_l_same ds = some d → ds.length = 2 := rn_l_same 8
theorem okr_l_same {f : Addr} {fd : FuncData} (F : Fun K "_law_same" "_law_same" s_l_same f fd) (T : Tp mg) (m : mg "_law_same" = some (.ref f)) (kp : PySem.W.keepIn K (.ref f) = true) (bb : Binds K fd ["_law_got", "_law_due"] []) : ∀ j : Nat, FnOk P w K mg base CX0 (j + 0) f fd ["_law_got", "_law_due"] (spP 2 (r_l_same j))
  | 0 => ⟨fun vs H Q E h => h.1, fun A outer s H args us vs Q E hr e0 hb hv h => by obtain ⟨_, _, _, _, _, _, q, _⟩ := h; cases q⟩
  | j + 1 => by
    have c_l_same : CallD P w K mg base "_law_same" (j + 0) 2 (r_l_same j) := .mk' (okr_l_same F T m kp bb j) m kp bb
    have hn := rn_l_same j
    have h := okP (P := P) (w := w) (mg := mg) (base := base) (k := j + 0) (d := r_l_same (j + 1)) (g := b_l_same (r_l_same j)) F sc_l_same rfl rfl (by decide) rfl fun cdv A outer s H E hr => (ss_cons (s_if (t_val (e_isi2 kit_list kit_tuple rfl T.isi boot_isinstance (v 1) rfl T.list PyProof.Rows.boot_list rfl T.tuple PyProof.Rows.boot_tuple)) (ss_cons (s_if (PW.pt (w_or (t_cmp oNeB (e_isi kit_list rfl T.isi boot_isinstance (v 0) rfl T.list PyProof.Rows.boot_list) (e_isi kit_list rfl T.isi boot_isinstance (v 1) rfl T.list PyProof.Rows.boot_list)) (w_or1 (t_cmp oNeB (e_isi kit_tuple rfl T.isi boot_isinstance (v 0) rfl T.tuple PyProof.Rows.boot_tuple) (e_isi kit_tuple rfl T.isi boot_isinstance (v 1) rfl T.tuple PyProof.Rows.boot_tuple))))) (ss_one (s_ret e_bl)) ss_nil) (ss_one (s_ret (e_and (e_cmp oEqI (e_callB cLen rfl T.len PySem.boot_len (a_cons (v 0) a_nil)) (e_callB cLen rfl T.len PySem.boot_len (a_cons (v 1) a_nil))) (e_one (e_callB (cAll rfl) rfl T.all boot_all (a_cons (e_lc (own := [("_law_mine", 2), ("_law_its", 3)]) rfl sc_l_same.nd (i_zip rfl T.zip (v 0) (v 1)) (blkOk_by (own := [("_law_mine", 2), ("_law_its", 3)]) (N := N_l_same) (sc := defScope s_l_same) (by decide +kernel)) (fun _ _ _ _ _ => (g_tup rfl (gs_cons (g_name (i := 2) sc_l_same.nd rfl (by first | exact Or.inl rfl | exact Or.inr rfl)) (gs_cons (g_name (i := 3) sc_l_same.nd rfl (by first | exact Or.inl rfl | exact Or.inr rfl)) gs_nil)))) (fun _ _ _ _ _ => ts_nil) (fun _ _ _ _ _ => (e_callD c_l_same (hr.mono (by omega)) hn rfl (a_cons (v 2) (a_cons (v 3) a_nil))))) a_nil))))))) ss_nil) (ss_cons (s_if (PW.pt (w_or (t_isN (v 1)) (w_or1 (t_val (e_isi2 kit_bool kit_str rfl T.isi boot_isinstance (v 1) rfl T.bool PyProof.Rows.boot_bool rfl T.str PyProof.Rows.boot_str))))) (ss_one (s_ret (e_and (e_cmp (oEqD hr.units) (v 0) (v 1)) (e_and (e_cmp oEqB (e_isi kit_bool rfl T.isi boot_isinstance (v 0) rfl T.bool PyProof.Rows.boot_bool) (e_isi kit_bool rfl T.isi boot_isinstance (v 1) rfl T.bool PyProof.Rows.boot_bool)) (e_one (e_cmp oEqB (e_isN (v 0)) (e_isN (v 1)))))))) ss_nil) (ss_one (s_ret (e_and (e_isi kit_int rfl T.isi boot_isinstance (v 0) rfl T.int PyProof.Rows.boot_int) (e_and (e_not (e_isi kit_bool rfl T.isi boot_isinstance (v 0) rfl T.bool PyProof.Rows.boot_bool)) (e_one (e_cmp (oEqD hr.units) (v 0) (v 1)))))))))
    exact h
theorem ok_l_same {f : Addr} {fd : FuncData} (F : Fun K "_law_same" "_law_same" s_l_same f fd) (T : Tp mg) (m : mg "_law_same" = some (.ref f)) (kp : PySem.W.keepIn K (.ref f) = true) (bb : Binds K fd ["_law_got", "_law_due"] []) : FnOk P w K mg base CX0 8 f fd ["_law_got", "_law_due"] (spP 2 d_l_same) := okr_l_same F T m kp bb 8
abbrev s_l_net : Stmt := topS 61
abbrev N_l_net : List Str := ["_law_many_so", "_law_pairs_so", "_law_above_so", "_law_low_so", "_law_pair_so", "_law_ties_so", "_law_over_so", "_law_own", "_law_k", "_law_its"]
theorem sc_l_net : FnScope N_l_net ["_law_many_so", "_law_pairs_so"] (defScope s_l_net) := ⟨rfl, rfl, rfl, by decide +kernel, rfl, by decide +kernel, by decide +kernel⟩
def b_l_net : DS := (sSeq (sSetO 2 (eLc (iRg1 (eV 0)) [8] (gN 8) dYes (e2 gShl (eC (.int 1)) (eV 8)))) (sSeq (sFor (iRg3 (e2 gSub (eV 0) (eC (.int 1))) (e1 gNeg (eC (.int 1))) (e1 gNeg (eC (.int 1)))) (gN 3) (sFor (iSeq (eV 1)) (gN 4) (sIf (bO (e2 gEqI (e2 gIx (eV 4) (eC (.int 0))) (eV 3))) (sSetIx 2 (e2 gOr (eIxO 2 (eV 3)) (eIxO 2 (e2 gIx (eV 4) (eC (.int 1))))) (eV 3)) sNil))) (sFrz 2 (sSeq (sSetO 5 (eLst aNil)) (sSeq (sFor (iRg1 (eV 0)) (gN 3) (sSeq (sSetO 6 (eLc (iRg2 (e2 gAdd (eV 3) (eC (.int 1))) (eV 0)) [7] (gN 7) (bO (e2 gEqI (e2 gAnd (e2 gShr (e2 gIx (eV 2) (eV 3)) (eV 7)) (eC (.int 1))) (eC (.int 1)))) (eV 7))) (sFrz 6 (sFor (iSeq (eV 6)) (gN 7) (sIf (bO (e2 gEqD (eLc (iSeq (eV 6)) [9] (gN 9) (tAndD (bO (e2 gNeI (eV 9) (eV 7))) (bO (e2 gEqI (e2 gAnd (e2 gShr (e2 gIx (eV 2) (eV 9)) (eV 7)) (eC (.int 1))) (eC (.int 1))))) (eV 9)) (eLst aNil))) (sMut appD 5 (eTup (aCons (eV 3) (aCons (eV 7) aNil)))) sNil))))) (sFrz 5 (sRet (eTup (aCons (eV 0) (aCons (eCall gTuple (aCons (eV 5) aNil)) aNil))))))))))
def d_l_net : List PyData → Option PyData := defD 2 10 b_l_net
theorem ok_l_net {f : Addr} {fd : FuncData} (F : Fun K "_law_net" "_law_net" s_l_net f fd) (T : Tp mg) : FnOk P w K mg base CX0 1 f fd ["_law_many_so", "_law_pairs_so"] (spP 2 d_l_net) :=
  okP (k := 0) (g := b_l_net) F sc_l_net rfl rfl (by decide) rfl fun cdv A outer s H E hr => (ss_cons (s_setO (i := 2) sc_l_net.nd rfl (by first | exact Or.inl rfl | exact Or.inr rfl) (o_lc (own := [("_law_k", 8)]) rfl sc_l_net.nd (i_rg1 rfl T.range (v 0)) (blkOk_by (own := [("_law_k", 8)]) (N := N_l_net) (sc := defScope s_l_net) (by decide +kernel)) (fun _ _ _ _ _ => (g_name (i := 8) sc_l_net.nd rfl (by first | exact Or.inl rfl | exact Or.inr rfl))) (fun _ _ _ _ _ => ts_nil) (fun _ _ _ _ _ => (e_op oShl e_int (v 8))))) (ss_cons (s_for PassesOwn.never rfl (i_rg3 rfl T.range (e_op oSub (v 0) e_int) (e_neg e_int) (e_neg e_int)) (g_name (i := 3) sc_l_net.nd rfl (by first | exact Or.inl rfl | exact Or.inr rfl)) (ss_one (s_for PassesOwn.never rfl (i_seq (v 1)) (g_name (i := 4) sc_l_net.nd rfl (by first | exact Or.inl rfl | exact Or.inr rfl)) (ss_one (s_if (t_cmp oEqI (e_ix (v 4) e_int) (v 3)) (ss_one (s_setIx (pv 2) (v 3) (e_op oOr (e_ixO (pv 2) (v 3)) (e_ixO (pv 2) (e_ix (v 4) e_int))))) ss_nil))))) (ss_frz (i := 2) (ss_cons (s_setO (i := 5) sc_l_net.nd rfl (by first | exact Or.inl rfl | exact Or.inr rfl) (o_lst a_nil)) (ss_cons (s_for PassesOwn.never rfl (i_rg1 rfl T.range (v 0)) (g_name (i := 3) sc_l_net.nd rfl (by first | exact Or.inl rfl | exact Or.inr rfl)) (ss_cons (s_setLc (i := 6) (own := [("_law_own", 7)]) rfl sc_l_net.nd rfl rfl (sw_true rfl rfl rfl (by decide +kernel)) (i_rg2 rfl T.range (e_op oAdd (v 3) e_int) (v 0)) (blkOk_by (own := [("_law_own", 7)]) (N := N_l_net) (sc := defScope s_l_net) (by decide +kernel)) (fun _ _ _ _ _ => (g_name (i := 7) sc_l_net.nd rfl (by first | exact Or.inl rfl | exact Or.inr rfl))) (fun _ _ _ _ _ => (ts_one (t_cmp oEqI (e_op oAnd (e_op oShr (e_ix (v 2) (v 3)) (v 7)) e_int) e_int))) (fun _ _ _ _ _ => (v 7))) (ss_frz (i := 6) (ss_one (s_for PassesOwn.never rfl (i_seq (v 6)) (g_name (i := 7) sc_l_net.nd rfl (by first | exact Or.inl rfl | exact Or.inr rfl)) (ss_one (s_if (t_cmp (oEqD hr.units) (e_lc (own := [("_law_its", 9)]) rfl sc_l_net.nd (i_seq (v 6)) (blkOk_by (own := [("_law_its", 9)]) (N := N_l_net) (sc := defScope s_l_net) (by decide +kernel)) (fun _ _ _ _ _ => (g_name (i := 9) sc_l_net.nd rfl (by first | exact Or.inl rfl | exact Or.inr rfl))) (fun _ _ _ _ _ => (ts_one (PW.pt (w_and (t_cmp oNeI (v 9) (v 7)) (w_and1 (t_cmp oEqI (e_op oAnd (e_op oShr (e_ix (v 2) (v 9)) (v 7)) e_int) e_int)))))) (fun _ _ _ _ _ => (v 9))) (e_lst a_nil)) (ss_one (s_append (pv 5) (e_tup (a_cons (v 3) (a_cons (v 7) a_nil))))) ss_nil))))))) (ss_frz (i := 5) (ss_one (s_ret (e_tup (a_cons (v 0) (a_cons (e_callTy cTuple rfl T.tuple PyProof.Rows.boot_tuple (a_cons (v 5) a_nil)) a_nil)))))))))))
abbrev s_l_ups : Stmt := topS 62
abbrev N_l_ups : List Str := ["_law_net_here", "_law_found", "_law_low_so", "_law_high_so", "_law_k"]
theorem sc_l_ups : FnScope N_l_ups ["_law_net_here"] (defScope s_l_ups) := ⟨rfl, rfl, rfl, by decide +kernel, rfl, by decide +kernel, by decide +kernel⟩
def b_l_ups : DS := (sSeq (sSetO 1 (eLc (iRg1 (e2 gIx (eV 0) (eC (.int 0)))) [4] (gN 4) dYes (e2 gShl (eC (.int 1)) (eV 4)))) (sSeq (sFor (iSeq (e1 gRev (e2 gIx (eV 0) (eC (.int 1))))) (gTupD 2 (gsCons (gN 2) (gsCons (gN 3) gsNil))) (sSetIx 1 (e2 gOr (eIxO 1 (eV 2)) (eIxO 1 (eV 3))) (eV 2))) (sFrz 1 (sRet (eV 1)))))
def d_l_ups : List PyData → Option PyData := defD 1 5 b_l_ups
theorem ok_l_ups {f : Addr} {fd : FuncData} (F : Fun K "_law_ups" "_law_ups" s_l_ups f fd) (T : Tp mg) : FnOk P w K mg base CX0 1 f fd ["_law_net_here"] (spP 1 d_l_ups) :=
  okP (k := 0) (g := b_l_ups) F sc_l_ups rfl rfl (by decide) rfl fun cdv A outer s H E hr => (ss_cons (s_setLc (i := 1) (own := [("_law_k", 4)]) rfl sc_l_ups.nd rfl rfl (sw_true rfl rfl rfl (by decide +kernel)) (i_rg1 rfl T.range (e_ix (v 0) e_int)) (blkOk_by (own := [("_law_k", 4)]) (N := N_l_ups) (sc := defScope s_l_ups) (by decide +kernel)) (fun _ _ _ _ _ => (g_name (i := 4) sc_l_ups.nd rfl (by first | exact Or.inl rfl | exact Or.inr rfl))) (fun _ _ _ _ _ => ts_nil) (fun _ _ _ _ _ => (e_op oShl e_int (v 4)))) (ss_cons (s_for PassesOwn.never rfl (i_seq (e_rev (e_ix (v 0) e_int))) (g_tup rfl (gs_cons (g_name (i := 2) sc_l_ups.nd rfl (by first | exact Or.inl rfl | exact Or.inr rfl)) (gs_cons (g_name (i := 3) sc_l_ups.nd rfl (by first | exact Or.inl rfl | exact Or.inr rfl)) gs_nil))) (ss_one (s_setIx (pv 1) (v 2) (e_op oOr (e_ixO (pv 1) (v 2)) (e_ixO (pv 1) (v 3)))))) (ss_frz (i := 1) (ss_one (s_ret (v 1))))))
abbrev s_l_bits : Stmt := topS 63
abbrev N_l_bits : List Str := ["_law_pieces_so", "_law_own"]
theorem sc_l_bits : FnScope N_l_bits ["_law_pieces_so"] (defScope s_l_bits) := ⟨rfl, rfl, rfl, by decide +kernel, rfl, by decide +kernel, by decide +kernel⟩
def b_l_bits : DS := (sRet (eCall gSum (aCons (eLc (iSeq (eV 0)) [1] (gN 1) dYes (e2 gShl (eC (.int 1)) (eV 1))) aNil)))
def d_l_bits : List PyData → Option PyData := defD 1 2 b_l_bits
theorem ok_l_bits {f : Addr} {fd : FuncData} (F : Fun K "_law_bits" "_law_bits" s_l_bits f fd) (T : Tp mg) : FnOk P w K mg base CX0 1 f fd ["_law_pieces_so"] (spP 1 d_l_bits) :=
  okP (k := 0) (g := b_l_bits) F sc_l_bits rfl rfl (by decide) rfl fun cdv A outer s H E hr => (ss_one (s_ret (e_callB (cSum rfl) rfl T.sum boot_sum (a_cons (e_lc (own := [("_law_own", 1)]) rfl sc_l_bits.nd (i_seq (v 0)) (blkOk_by (own := [("_law_own", 1)]) (N := N_l_bits) (sc := defScope s_l_bits) (by decide +kernel)) (fun _ _ _ _ _ => (g_name (i := 1) sc_l_bits.nd rfl (by first | exact Or.inl rfl | exact Or.inr rfl))) (fun _ _ _ _ _ => ts_nil) (fun _ _ _ _ _ => (e_op oShl e_int (v 1)))) a_nil))))
abbrev s_l_pieces : Stmt := topS 64
abbrev N_l_pieces : List Str := ["_law_bits_so", "_law_k"]
theorem sc_l_pieces : FnScope N_l_pieces ["_law_bits_so"] (defScope s_l_pieces) := ⟨rfl, rfl, rfl, by decide +kernel, rfl, by decide +kernel, by decide +kernel⟩
def b_l_pieces : DS := (sRet (eCall gTuple (aCons (eLc (iRg1 (e1 gBits (eV 0))) [1] (gN 1) (bO (e2 gEqI (e2 gAnd (e2 gShr (eV 0) (eV 1)) (eC (.int 1))) (eC (.int 1)))) (eV 1)) aNil)))
def d_l_pieces : List PyData → Option PyData := defD 1 2 b_l_pieces
theorem ok_l_pieces {f : Addr} {fd : FuncData} (F : Fun K "_law_pieces" "_law_pieces" s_l_pieces f fd) (T : Tp mg) : FnOk P w K mg base CX0 1 f fd ["_law_bits_so"] (spP 1 d_l_pieces) :=
  okP (k := 0) (g := b_l_pieces) F sc_l_pieces rfl rfl (by decide) rfl fun cdv A outer s H E hr => (ss_one (s_ret (e_callTy cTuple rfl T.tuple PyProof.Rows.boot_tuple (a_cons (e_lc (own := [("_law_k", 1)]) rfl sc_l_pieces.nd (i_rg1 rfl T.range (e_bits (v 0))) (blkOk_by (own := [("_law_k", 1)]) (N := N_l_pieces) (sc := defScope s_l_pieces) (by decide +kernel)) (fun _ _ _ _ _ => (g_name (i := 1) sc_l_pieces.nd rfl (by first | exact Or.inl rfl | exact Or.inr rfl))) (fun _ _ _ _ _ => (ts_one (t_cmp oEqI (e_op oAnd (e_op oShr (v 0) (v 1)) e_int) e_int))) (fun _ _ _ _ _ => (v 1))) a_nil))))
abbrev s_l_lefts : Stmt := topS 65
abbrev N_l_lefts : List Str := ["_law_net_here", "_law_found", "_law_k", "_law_under_so", "_law_low_so", "_law_high_so", "_law_own"]
theorem sc_l_lefts : FnScope N_l_lefts ["_law_net_here"] (defScope s_l_lefts) := ⟨rfl, rfl, rfl, by decide +kernel, rfl, by decide +kernel, by decide +kernel⟩
def b_l_lefts : DS := (sSeq (sSet 1 (eLst (aCons (eC (.int 0)) aNil))) (sSeq (sFor (iRg1 (e2 gIx (eV 0) (eC (.int 0)))) (gN 2) (sSeq (sSet 3 (eCall d_l_bits (aCons (eLc (iSeq (e2 gIx (eV 0) (eC (.int 1)))) [4, 5] (gTupD 2 (gsCons (gN 4) (gsCons (gN 5) gsNil))) (bO (e2 gEqI (eV 5) (eV 2))) (eV 4)) aNil))) (sSet 1 (e2 gAdd (eV 1) (eLc (iSeq (eV 1)) [6] (gN 6) (bO (e2 gEqI (e2 gAnd (eV 6) (eV 3)) (eV 3))) (e2 gOr (eV 6) (e2 gShl (eC (.int 1)) (eV 2)))))))) (sRet (eCall gSorted (aCons (eV 1) aNil)))))
def d_l_lefts : List PyData → Option PyData := defD 1 7 b_l_lefts
theorem ok_l_lefts {f : Addr} {fd : FuncData} (F : Fun K "_law_lefts" "_law_lefts" s_l_lefts f fd) (T : Tp mg) (c_l_bits : CallD P w K mg base "_law_bits" 1 1 d_l_bits) : FnOk P w K mg base CX0 2 f fd ["_law_net_here"] (spP 1 d_l_lefts) :=
  okP (k := 1) (g := b_l_lefts) F sc_l_lefts rfl rfl (by decide) rfl fun cdv A outer s H E hr => (ss_cons (s_set (i := 1) sc_l_lefts.nd rfl (by first | exact Or.inl rfl | exact Or.inr rfl) (e_lst (a_cons e_int a_nil))) (ss_cons (s_for PassesOwn.never rfl (i_rg1 rfl T.range (e_ix (v 0) e_int)) (g_name (i := 2) sc_l_lefts.nd rfl (by first | exact Or.inl rfl | exact Or.inr rfl)) (ss_cons (s_set (i := 3) sc_l_lefts.nd rfl (by first | exact Or.inl rfl | exact Or.inr rfl) (e_callD c_l_bits (hr.mono (by decide)) (fun _ _ h => defD_len h) rfl (a_cons (e_lc (own := [("_law_low_so", 4), ("_law_high_so", 5)]) rfl sc_l_lefts.nd (i_seq (e_ix (v 0) e_int)) (blkOk_by (own := [("_law_low_so", 4), ("_law_high_so", 5)]) (N := N_l_lefts) (sc := defScope s_l_lefts) (by decide +kernel)) (fun _ _ _ _ _ => (g_tup rfl (gs_cons (g_name (i := 4) sc_l_lefts.nd rfl (by first | exact Or.inl rfl | exact Or.inr rfl)) (gs_cons (g_name (i := 5) sc_l_lefts.nd rfl (by first | exact Or.inl rfl | exact Or.inr rfl)) gs_nil)))) (fun _ _ _ _ _ => (ts_one (t_cmp oEqI (v 5) (v 2)))) (fun _ _ _ _ _ => (v 4))) a_nil))) (ss_one (s_set (i := 1) sc_l_lefts.nd rfl (by first | exact Or.inl rfl | exact Or.inr rfl) (e_op oAdd (v 1) (e_lc (own := [("_law_own", 6)]) rfl sc_l_lefts.nd (i_seq (v 1)) (blkOk_by (own := [("_law_own", 6)]) (N := N_l_lefts) (sc := defScope s_l_lefts) (by decide +kernel)) (fun _ _ _ _ _ => (g_name (i := 6) sc_l_lefts.nd rfl (by first | exact Or.inl rfl | exact Or.inr rfl))) (fun _ _ _ _ _ => (ts_one (t_cmp oEqI (e_op oAnd (v 6) (v 3)) (v 3)))) (fun _ _ _ _ _ => (e_op oOr (v 6) (e_op oShl e_int (v 2)))))))))) (ss_one (s_ret (e_callB (cSorted rfl) rfl T.sorted boot_sorted (a_cons (v 1) a_nil))))))
abbrev s_l_least_out : Stmt := topS 66
abbrev N_l_least_out : List Str := ["_law_some_so", "_law_k"]
theorem sc_l_least_out : FnScope N_l_least_out ["_law_some_so"] (defScope s_l_least_out) := ⟨rfl, rfl, rfl, by decide +kernel, rfl, by decide +kernel, by decide +kernel⟩
def b_l_least_out : DS := (sRet (eCall gMin (aCons (eLc (iRg1 (e2 gAdd (eCall gLen (aCons (eV 0) aNil)) (eC (.int 1)))) [1] (gN 1) (bO (e2 gNotIn (eV 1) (eV 0))) (eV 1)) aNil)))
def d_l_least_out : List PyData → Option PyData := defD 1 2 b_l_least_out
theorem ok_l_least_out {f : Addr} {fd : FuncData} (F : Fun K "_law_least_out" "_law_least_out" s_l_least_out f fd) (T : Tp mg) : FnOk P w K mg base CX0 1 f fd ["_law_some_so"] (spP 1 d_l_least_out) :=
  okP (k := 0) (g := b_l_least_out) F sc_l_least_out rfl rfl (by decide) rfl fun cdv A outer s H E hr => (ss_one (s_ret (e_callB (cMin rfl) rfl T.min boot_min (a_cons (e_lc (own := [("_law_k", 1)]) rfl sc_l_least_out.nd (i_rg1 rfl T.range (e_op oAdd (e_callB cLen rfl T.len PySem.boot_len (a_cons (v 0) a_nil)) e_int)) (blkOk_by (own := [("_law_k", 1)]) (N := N_l_least_out) (sc := defScope s_l_least_out) (by decide +kernel)) (fun _ _ _ _ _ => (g_name (i := 1) sc_l_least_out.nd rfl (by first | exact Or.inl rfl | exact Or.inr rfl))) (fun _ _ _ _ _ => (ts_one (t_cmp oNotIn (v 1) (v 0)))) (fun _ _ _ _ _ => (v 1))) a_nil))))
abbrev s_l_worths : Stmt := topS 67
abbrev N_l_worths : List Str := ["_law_net_here", "_law_up_so", "_law_found", "_law_bits_so", "_law_k"]
theorem sc_l_worths : FnScope N_l_worths ["_law_net_here"] (defScope s_l_worths) := ⟨rfl, rfl, rfl, by decide +kernel, rfl, by decide +kernel, by decide +kernel⟩
def b_l_worths : DS := (sSeq (sParO 1 2 (eCall d_l_ups (aCons (eV 0) aNil)) (eC (.dict []))) (sSeq (sFor (iSeq (eCall d_l_lefts (aCons (eV 0) aNil))) (gN 3) (sPut 2 (eCall d_l_least_out (aCons (eLc (iRg1 (e2 gIx (eV 0) (eC (.int 0)))) [4] (gN 4) (bO (e2 gEqI (e2 gAnd (e2 gShr (eV 3) (eV 4)) (eC (.int 1))) (eC (.int 1)))) (eDGetO 2 (e2 gAnd (eV 3) (e1 gInv (e2 gIx (eV 1) (eV 4)))))) aNil)) (eV 3))) (sFrz 2 (sRet (eV 2)))))
def d_l_worths : List PyData → Option PyData := defD 1 5 b_l_worths
theorem ok_l_worths {f : Addr} {fd : FuncData} (F : Fun K "_law_worths" "_law_worths" s_l_worths f fd) (T : Tp mg) (c_l_ups : CallD P w K mg base "_law_ups" 1 1 d_l_ups) (c_l_lefts : CallD P w K mg base "_law_lefts" 2 1 d_l_lefts) (c_l_least_out : CallD P w K mg base "_law_least_out" 1 1 d_l_least_out) : FnOk P w K mg base CX0 3 f fd ["_law_net_here"] (spP 1 d_l_worths) :=
  okP (k := 2) (g := b_l_worths) F sc_l_worths rfl rfl (by decide) rfl fun cdv A outer s H E hr => (ss_cons (s_tupO (i := 1) (j := 2) rfl sc_l_worths.nd rfl rfl (by first | exact Or.inl rfl | exact Or.inr rfl) (by first | exact Or.inl rfl | exact Or.inr rfl) (e_callD c_l_ups (hr.mono (by decide)) (fun _ _ h => defD_len h) rfl (a_cons (v 0) a_nil)) o_dnew (fun _ => rfl)) (ss_cons (s_for PassesOwn.never rfl (i_seq (e_callD c_l_lefts (hr.mono (by decide)) (fun _ _ h => defD_len h) rfl (a_cons (v 0) a_nil))) (g_name (i := 3) sc_l_worths.nd rfl (by first | exact Or.inl rfl | exact Or.inr rfl)) (ss_one (s_put (hu_of hr) (pv 2) (v 3) (e_callD c_l_least_out (hr.mono (by decide)) (fun _ _ h => defD_len h) rfl (a_cons (e_lc (own := [("_law_k", 4)]) rfl sc_l_worths.nd (i_rg1 rfl T.range (e_ix (v 0) e_int)) (blkOk_by (own := [("_law_k", 4)]) (N := N_l_worths) (sc := defScope s_l_worths) (by decide +kernel)) (fun _ _ _ _ _ => (g_name (i := 4) sc_l_worths.nd rfl (by first | exact Or.inl rfl | exact Or.inr rfl))) (fun _ _ _ _ _ => (ts_one (t_cmp oEqI (e_op oAnd (e_op oShr (v 3) (v 4)) e_int) e_int))) (fun _ _ _ _ _ => (e_dgetO (hu_of hr) (pv 2) (e_op oAnd (v 3) (e_inv (e_ix (v 1) (v 4))))))) a_nil))))) (ss_frz (i := 2) (ss_one (s_ret (v 2))))))
abbrev s_l_chain : Stmt := topS 68
abbrev N_l_chain : List Str := ["_law_many_so", "_law_k"]
theorem sc_l_chain : FnScope N_l_chain ["_law_many_so"] (defScope s_l_chain) := ⟨rfl, rfl, rfl, by decide +kernel, rfl, by decide +kernel, by decide +kernel⟩
def b_l_chain : DS := (sRet (eTup (aCons (eV 0) (aCons (eCall gTuple (aCons (eLc (iRg1 (e2 gSub (eV 0) (eC (.int 1)))) [1] (gN 1) dYes (eTup (aCons (eV 1) (aCons (e2 gAdd (eV 1) (eC (.int 1))) aNil)))) aNil)) aNil))))
def d_l_chain : List PyData → Option PyData := defD 1 2 b_l_chain
theorem ok_l_chain {f : Addr} {fd : FuncData} (F : Fun K "_law_chain" "_law_chain" s_l_chain f fd) (T : Tp mg) : FnOk P w K mg base CX0 1 f fd ["_law_many_so"] (spP 1 d_l_chain) :=
  okP (k := 0) (g := b_l_chain) F sc_l_chain rfl rfl (by decide) rfl fun cdv A outer s H E hr => (ss_one (s_ret (e_tup (a_cons (v 0) (a_cons (e_callTy cTuple rfl T.tuple PyProof.Rows.boot_tuple (a_cons (e_lc (own := [("_law_k", 1)]) rfl sc_l_chain.nd (i_rg1 rfl T.range (e_op oSub (v 0) e_int)) (blkOk_by (own := [("_law_k", 1)]) (N := N_l_chain) (sc := defScope s_l_chain) (by decide +kernel)) (fun _ _ _ _ _ => (g_name (i := 1) sc_l_chain.nd rfl (by first | exact Or.inl rfl | exact Or.inr rfl))) (fun _ _ _ _ _ => ts_nil) (fun _ _ _ _ _ => (e_tup (a_cons (v 1) (a_cons (e_op oAdd (v 1) e_int) a_nil))))) a_nil)) a_nil)))))
end
end Ea
end
section
set_option Elab.async false
set_option linter.all false
set_option maxRecDepth 100000
set_option maxHeartbeats 4000000
namespace Ea
open PySem PySem.Spec L2
open PyProof.Rows hiding St
section
variable {P : Program} {w : World} {K : PySem.W.Frag} {mg : Str → Option Value} {base : Heap}
abbrev s_l_aside : Stmt := topS 69
abbrev N_l_aside : List Str := ["_law_near", "_law_far", "_law_own"]
theorem sc_l_aside : FnScope N_l_aside ["_law_near", "_law_far"] (defScope s_l_aside) := ⟨rfl, rfl, rfl, by decide +kernel, rfl, by decide +kernel, by decide +kernel⟩
def b_l_aside : DS := (sRet (eTup (aCons (e2 gAdd (e2 gIx (eV 0) (eC (.int 0))) (e2 gIx (eV 1) (eC (.int 0)))) (aCons (e2 gAdd (e2 gIx (eV 0) (eC (.int 1))) (eCall gTuple (aCons (eLc (iSeq (e2 gIx (eV 1) (eC (.int 1)))) [2] (gN 2) dYes (eTup (aCons (e2 gAdd (e2 gIx (eV 2) (eC (.int 0))) (e2 gIx (eV 0) (eC (.int 0)))) (aCons (e2 gAdd (e2 gIx (eV 2) (eC (.int 1))) (e2 gIx (eV 0) (eC (.int 0)))) aNil)))) aNil))) aNil))))
def d_l_aside : List PyData → Option PyData := defD 2 3 b_l_aside
theorem ok_l_aside {f : Addr} {fd : FuncData} (F : Fun K "_law_aside" "_law_aside" s_l_aside f fd) (T : Tp mg) : FnOk P w K mg base CX0 1 f fd ["_law_near", "_law_far"] (spP 2 d_l_aside) :=
  okP (k := 0) (g := b_l_aside) F sc_l_aside rfl rfl (by decide) rfl fun cdv A outer s H E hr => (ss_one (s_ret (e_tup (a_cons (e_op oAdd (e_ix (v 0) e_int) (e_ix (v 1) e_int)) (a_cons (e_op oAdd (e_ix (v 0) e_int) (e_callTy cTuple rfl T.tuple PyProof.Rows.boot_tuple (a_cons (e_lc (own := [("_law_own", 2)]) rfl sc_l_aside.nd (i_seq (e_ix (v 1) e_int)) (blkOk_by (own := [("_law_own", 2)]) (N := N_l_aside) (sc := defScope s_l_aside) (by decide +kernel)) (fun _ _ _ _ _ => (g_name (i := 2) sc_l_aside.nd rfl (by first | exact Or.inl rfl | exact Or.inr rfl))) (fun _ _ _ _ _ => ts_nil) (fun _ _ _ _ _ => (e_tup (a_cons (e_op oAdd (e_ix (v 2) e_int) (e_ix (v 0) e_int)) (a_cons (e_op oAdd (e_ix (v 2) e_int) (e_ix (v 0) e_int)) a_nil))))) a_nil))) a_nil)))))
abbrev s_l_heap : Stmt := topS 70
abbrev N_l_heap : List Str := ["_law_near", "_law_far", "_law_whole_so", "_law_over_so", "_law_low_so", "_law_k"]
theorem sc_l_heap : FnScope N_l_heap ["_law_near", "_law_far"] (defScope s_l_heap) := ⟨rfl, rfl, rfl, by decide +kernel, rfl, by decide +kernel, by decide +kernel⟩
def b_l_heap : DS := (sSeq (sSet 2 (eCall d_l_aside (aCons (eV 0) (aCons (eV 1) aNil)))) (sSeq (sSet 3 (eLst aNil)) (sSeq (sFor (iRg1 (e2 gIx (eV 0) (eC (.int 0)))) (gN 4) (sSet 3 (e2 gAdd (eV 3) (eLc (iRg1 (e2 gIx (eV 1) (eC (.int 0)))) [5] (gN 5) dYes (eTup (aCons (eV 4) (aCons (e2 gAdd (e2 gIx (eV 0) (eC (.int 0))) (eV 5)) aNil))))))) (sRet (eCall d_l_net (aCons (e2 gIx (eV 2) (eC (.int 0))) (aCons (e2 gAdd (eCall gList (aCons (e2 gIx (eV 2) (eC (.int 1))) aNil)) (eV 3)) aNil)))))))
def d_l_heap : List PyData → Option PyData := defD 2 6 b_l_heap
theorem ok_l_heap {f : Addr} {fd : FuncData} (F : Fun K "_law_heap" "_law_heap" s_l_heap f fd) (T : Tp mg) (c_l_aside : CallD P w K mg base "_law_aside" 1 2 d_l_aside) (c_l_net : CallD P w K mg base "_law_net" 1 2 d_l_net) : FnOk P w K mg base CX0 2 f fd ["_law_near", "_law_far"] (spP 2 d_l_heap) :=
  okP (k := 1) (g := b_l_heap) F sc_l_heap rfl rfl (by decide) rfl fun cdv A outer s H E hr => (ss_cons (s_set (i := 2) sc_l_heap.nd rfl (by first | exact Or.inl rfl | exact Or.inr rfl) (e_callD c_l_aside (hr.mono (by decide)) (fun _ _ h => defD_len h) rfl (a_cons (v 0) (a_cons (v 1) a_nil)))) (ss_cons (s_set (i := 3) sc_l_heap.nd rfl (by first | exact Or.inl rfl | exact Or.inr rfl) (e_lst a_nil)) (ss_cons (s_for PassesOwn.never rfl (i_rg1 rfl T.range (e_ix (v 0) e_int)) (g_name (i := 4) sc_l_heap.nd rfl (by first | exact Or.inl rfl | exact Or.inr rfl)) (ss_one (s_set (i := 3) sc_l_heap.nd rfl (by first | exact Or.inl rfl | exact Or.inr rfl) (e_op oAdd (v 3) (e_lc (own := [("_law_k", 5)]) rfl sc_l_heap.nd (i_rg1 rfl T.range (e_ix (v 1) e_int)) (blkOk_by (own := [("_law_k", 5)]) (N := N_l_heap) (sc := defScope s_l_heap) (by decide +kernel)) (fun _ _ _ _ _ => (g_name (i := 5) sc_l_heap.nd rfl (by first | exact Or.inl rfl | exact Or.inr rfl))) (fun _ _ _ _ _ => ts_nil) (fun _ _ _ _ _ => (e_tup (a_cons (v 4) (a_cons (e_op oAdd (e_ix (v 0) e_int) (v 5)) a_nil))))))))) (ss_one (s_ret (e_callD c_l_net (hr.mono (by decide)) (fun _ _ h => defD_len h) rfl (a_cons (e_ix (v 2) e_int) (a_cons (e_op oAdd (e_callTy cList rfl T.list PyProof.Rows.boot_list (a_cons (e_ix (v 2) e_int) a_nil)) (v 3)) a_nil))))))))
abbrev s_l_bitten : Stmt := topS 74
abbrev N_l_bitten : List Str := ["_law_net_here", "_law_left_so", "_law_piece_so"]
theorem sc_l_bitten : FnScope N_l_bitten ["_law_net_here", "_law_left_so", "_law_piece_so"] (defScope s_l_bitten) := ⟨rfl, rfl, rfl, by decide +kernel, rfl, by decide +kernel, by decide +kernel⟩
def b_l_bitten : DS := (sRet (eCall d_l_pieces (aCons (e2 gAnd (eCall d_l_bits (aCons (eV 1) aNil)) (e1 gInv (e2 gIx (eCall d_l_ups (aCons (eV 0) aNil)) (eV 2)))) aNil)))
def d_l_bitten : List PyData → Option PyData := defD 3 3 b_l_bitten
theorem ok_l_bitten {f : Addr} {fd : FuncData} (F : Fun K "_law_bitten" "_law_bitten" s_l_bitten f fd) (T : Tp mg) (c_l_pieces : CallD P w K mg base "_law_pieces" 1 1 d_l_pieces) (c_l_bits : CallD P w K mg base "_law_bits" 1 1 d_l_bits) (c_l_ups : CallD P w K mg base "_law_ups" 1 1 d_l_ups) : FnOk P w K mg base CX0 2 f fd ["_law_net_here", "_law_left_so", "_law_piece_so"] (spP 3 d_l_bitten) :=
  okP (k := 1) (g := b_l_bitten) F sc_l_bitten rfl rfl (by decide) rfl fun cdv A outer s H E hr => (ss_one (s_ret (e_callD c_l_pieces (hr.mono (by decide)) (fun _ _ h => defD_len h) rfl (a_cons (e_op oAnd (e_callD c_l_bits (hr.mono (by decide)) (fun _ _ h => defD_len h) rfl (a_cons (v 1) a_nil)) (e_inv (e_ix (e_callD c_l_ups (hr.mono (by decide)) (fun _ _ h => defD_len h) rfl (a_cons (v 0) a_nil)) (v 2)))) a_nil))))
abbrev s_l_behind_all : Stmt := topS 75
abbrev N_l_behind_all : List Str := ["_law_net_here", "_law_left_so", "_law_worths_so", "_law_up_so", "_law_bits_so", "_law_own"]
theorem sc_l_behind_all : FnScope N_l_behind_all ["_law_net_here", "_law_left_so"] (defScope s_l_behind_all) := ⟨rfl, rfl, rfl, by decide +kernel, rfl, by decide +kernel, by decide +kernel⟩
def b_l_behind_all : DS := (sSeq (sAsg (eTup (aCons (eCall d_l_worths (aCons (eV 0) aNil)) (aCons (eCall d_l_ups (aCons (eV 0) aNil)) (aCons (eCall d_l_bits (aCons (eV 1) aNil)) aNil)))) (gTupD 3 (gsCons (gN 2) (gsCons (gN 3) (gsCons (gN 4) gsNil))))) (sRet (eLc (iSeq (eV 1)) [5] (gN 5) dYes (eTup (aCons (eV 5) (aCons (e2 gDGet (eV 2) (e2 gAnd (eV 4) (e1 gInv (e2 gIx (eV 3) (eV 5))))) aNil))))))
def d_l_behind_all : List PyData → Option PyData := defD 2 6 b_l_behind_all
theorem ok_l_behind_all {f : Addr} {fd : FuncData} (F : Fun K "_law_behind_all" "_law_behind_all" s_l_behind_all f fd) (T : Tp mg) (c_l_bits : CallD P w K mg base "_law_bits" 1 1 d_l_bits) (c_l_ups : CallD P w K mg base "_law_ups" 1 1 d_l_ups) (c_l_worths : CallD P w K mg base "_law_worths" 3 1 d_l_worths) : FnOk P w K mg base CX0 4 f fd ["_law_net_here", "_law_left_so"] (spP 2 d_l_behind_all) :=
  okP (k := 3) (g := b_l_behind_all) F sc_l_behind_all rfl rfl (by decide) rfl fun cdv A outer s H E hr => (ss_cons (s_asg (e_tup (a_cons (e_callD c_l_worths (hr.mono (by decide)) (fun _ _ h => defD_len h) rfl (a_cons (v 0) a_nil)) (a_cons (e_callD c_l_ups (hr.mono (by decide)) (fun _ _ h => defD_len h) rfl (a_cons (v 0) a_nil)) (a_cons (e_callD c_l_bits (hr.mono (by decide)) (fun _ _ h => defD_len h) rfl (a_cons (v 1) a_nil)) a_nil)))) (g_tup rfl (gs_cons (g_name (i := 2) sc_l_behind_all.nd rfl (by first | exact Or.inl rfl | exact Or.inr rfl)) (gs_cons (g_name (i := 3) sc_l_behind_all.nd rfl (by first | exact Or.inl rfl | exact Or.inr rfl)) (gs_cons (g_name (i := 4) sc_l_behind_all.nd rfl (by first | exact Or.inl rfl | exact Or.inr rfl)) gs_nil))))) (ss_one (s_ret (e_lc (own := [("_law_own", 5)]) rfl sc_l_behind_all.nd (i_seq (v 1)) (blkOk_by (own := [("_law_own", 5)]) (N := N_l_behind_all) (sc := defScope s_l_behind_all) (by decide +kernel)) (fun _ _ _ _ _ => (g_name (i := 5) sc_l_behind_all.nd rfl (by first | exact Or.inl rfl | exact Or.inr rfl))) (fun _ _ _ _ _ => ts_nil) (fun _ _ _ _ _ => (e_tup (a_cons (v 5) (a_cons (e_dget (hu_of hr) (v 2) (e_op oAnd (v 4) (e_inv (e_ix (v 3) (v 5))))) a_nil))))))))
abbrev s_l_spots_of : Stmt := topS 77
abbrev N_l_spots_of : List Str := ["_law_nets", "_law_found", "_law_k", "_law_net_here", "_law_own"]
theorem sc_l_spots_of : FnScope N_l_spots_of ["_law_nets"] (defScope s_l_spots_of) := ⟨rfl, rfl, rfl, by decide +kernel, rfl, by decide +kernel, by decide +kernel⟩
def b_l_spots_of : DS := (sSeq (sSet 1 (eLst aNil)) (sSeq (sFor (iEnumD (eV 0)) (gTupD 2 (gsCons (gN 2) (gsCons (gN 3) gsNil))) (sSet 1 (e2 gAdd (eV 1) (eLc (iRg1 (e2 gIx (eV 3) (eC (.int 0)))) [4] (gN 4) dYes (eTup (aCons (eV 2) (aCons (eV 4) aNil))))))) (sRet (eV 1))))
def d_l_spots_of : List PyData → Option PyData := defD 1 5 b_l_spots_of
theorem ok_l_spots_of {f : Addr} {fd : FuncData} (F : Fun K "_law_spots_of" "_law_spots_of" s_l_spots_of f fd) (T : Tp mg) : FnOk P w K mg base CX0 1 f fd ["_law_nets"] (spP 1 d_l_spots_of) :=
  okP (k := 0) (g := b_l_spots_of) F sc_l_spots_of rfl rfl (by decide) rfl fun cdv A outer s H E hr => (ss_cons (s_set (i := 1) sc_l_spots_of.nd rfl (by first | exact Or.inl rfl | exact Or.inr rfl) (e_lst a_nil)) (ss_cons (s_for PassesOwn.never rfl (i_enum rfl T.enum (v 0)) (g_tup rfl (gs_cons (g_name (i := 2) sc_l_spots_of.nd rfl (by first | exact Or.inl rfl | exact Or.inr rfl)) (gs_cons (g_name (i := 3) sc_l_spots_of.nd rfl (by first | exact Or.inl rfl | exact Or.inr rfl)) gs_nil))) (ss_one (s_set (i := 1) sc_l_spots_of.nd rfl (by first | exact Or.inl rfl | exact Or.inr rfl) (e_op oAdd (v 1) (e_lc (own := [("_law_own", 4)]) rfl sc_l_spots_of.nd (i_rg1 rfl T.range (e_ix (v 3) e_int)) (blkOk_by (own := [("_law_own", 4)]) (N := N_l_spots_of) (sc := defScope s_l_spots_of) (by decide +kernel)) (fun _ _ _ _ _ => (g_name (i := 4) sc_l_spots_of.nd rfl (by first | exact Or.inl rfl | exact Or.inr rfl))) (fun _ _ _ _ _ => ts_nil) (fun _ _ _ _ _ => (e_tup (a_cons (v 2) (a_cons (v 4) a_nil))))))))) (ss_one (s_ret (v 1)))))
abbrev s_l_worths_of : Stmt := topS 78
abbrev N_l_worths_of : List Str := ["_law_nets", "_law_lefts_so", "_law_net_here", "_law_own"]
theorem sc_l_worths_of : FnScope N_l_worths_of ["_law_nets", "_law_lefts_so"] (defScope s_l_worths_of) := ⟨rfl, rfl, rfl, by decide +kernel, rfl, by decide +kernel, by decide +kernel⟩
def b_l_worths_of : DS := (sRet (eLc (iZipD (eV 0) (eV 1)) [2, 3] (gTupD 2 (gsCons (gN 2) (gsCons (gN 3) gsNil))) dYes (e2 gDGet (eCall d_l_worths (aCons (eV 2) aNil)) (eCall d_l_bits (aCons (eV 3) aNil)))))
def d_l_worths_of : List PyData → Option PyData := defD 2 4 b_l_worths_of
theorem ok_l_worths_of {f : Addr} {fd : FuncData} (F : Fun K "_law_worths_of" "_law_worths_of" s_l_worths_of f fd) (T : Tp mg) (c_l_worths : CallD P w K mg base "_law_worths" 3 1 d_l_worths) (c_l_bits : CallD P w K mg base "_law_bits" 1 1 d_l_bits) : FnOk P w K mg base CX0 4 f fd ["_law_nets", "_law_lefts_so"] (spP 2 d_l_worths_of) :=
  okP (k := 3) (g := b_l_worths_of) F sc_l_worths_of rfl rfl (by decide) rfl fun cdv A outer s H E hr => (ss_one (s_ret (e_lc (own := [("_law_net_here", 2), ("_law_own", 3)]) rfl sc_l_worths_of.nd (i_zip rfl T.zip (v 0) (v 1)) (blkOk_by (own := [("_law_net_here", 2), ("_law_own", 3)]) (N := N_l_worths_of) (sc := defScope s_l_worths_of) (by decide +kernel)) (fun _ _ _ _ _ => (g_tup rfl (gs_cons (g_name (i := 2) sc_l_worths_of.nd rfl (by first | exact Or.inl rfl | exact Or.inr rfl)) (gs_cons (g_name (i := 3) sc_l_worths_of.nd rfl (by first | exact Or.inl rfl | exact Or.inr rfl)) gs_nil)))) (fun _ _ _ _ _ => ts_nil) (fun _ _ _ _ _ => (e_dget (hu_of hr) (e_callD c_l_worths (hr.mono (by decide)) (fun _ _ h => defD_len h) rfl (a_cons (v 2) a_nil)) (e_callD c_l_bits (hr.mono (by decide)) (fun _ _ h => defD_len h) rfl (a_cons (v 3) a_nil)))))))
abbrev s_l_put_by_bits : Stmt := topS 79
abbrev N_l_put_by_bits : List Str := ["_law_some_so", "_law_found", "_law_own"]
theorem sc_l_put_by_bits : FnScope N_l_put_by_bits ["_law_some_so"] (defScope s_l_put_by_bits) := ⟨rfl, rfl, rfl, by decide +kernel, rfl, by decide +kernel, by decide +kernel⟩
def b_l_put_by_bits : DS := (sSeq (sSet 1 (eC (.int 0))) (sSeq (sFor (iSeq (eV 0)) (gN 2) (sSet 1 (e2 gXor (eV 1) (eV 2)))) (sRet (eV 1))))
def d_l_put_by_bits : List PyData → Option PyData := defD 1 3 b_l_put_by_bits
theorem ok_l_put_by_bits {f : Addr} {fd : FuncData} (F : Fun K "_law_put_by_bits" "_law_put_by_bits" s_l_put_by_bits f fd) (T : Tp mg) : FnOk P w K mg base CX0 1 f fd ["_law_some_so"] (spP 1 d_l_put_by_bits) :=
  okP (k := 0) (g := b_l_put_by_bits) F sc_l_put_by_bits rfl rfl (by decide) rfl fun cdv A outer s H E hr => (ss_cons (s_set (i := 1) sc_l_put_by_bits.nd rfl (by first | exact Or.inl rfl | exact Or.inr rfl) e_int) (ss_cons (s_for PassesOwn.never rfl (i_seq (v 0)) (g_name (i := 2) sc_l_put_by_bits.nd rfl (by first | exact Or.inl rfl | exact Or.inr rfl)) (ss_one (s_set (i := 1) sc_l_put_by_bits.nd rfl (by first | exact Or.inl rfl | exact Or.inr rfl) (e_op oXor (v 1) (v 2))))) (ss_one (s_ret (v 1)))))
abbrev s_l_good_spots : Stmt := topS 80
abbrev N_l_good_spots : List Str := ["_law_nets", "_law_lefts_so", "_law_whole_so", "_law_found", "_law_k", "_law_net_here", "_law_rows_so", "_law_mine_so", "_law_own", "_law_number_so"]
theorem sc_l_good_spots : FnScope N_l_good_spots ["_law_nets", "_law_lefts_so"] (defScope s_l_good_spots) := ⟨rfl, rfl, rfl, by decide +kernel, rfl, by decide +kernel, by decide +kernel⟩
def b_l_good_spots : DS := (sSeq (sAsg (eTup (aCons (eCall d_l_put_by_bits (aCons (eCall d_l_worths_of (aCons (eV 0) (aCons (eV 1) aNil))) aNil)) (aCons (eLst aNil) aNil))) (gTupD 2 (gsCons (gN 2) (gsCons (gN 3) gsNil)))) (sSeq (sFor (iEnumD (eV 0)) (gTupD 2 (gsCons (gN 4) (gsCons (gN 5) gsNil))) (sSeq (sSet 6 (eCall d_l_behind_all (aCons (eV 5) (aCons (e2 gIx (eV 1) (eV 4)) aNil)))) (sSeq (sSet 7 (e2 gDGet (eCall d_l_worths (aCons (eV 5) aNil)) (eCall d_l_bits (aCons (e2 gIx (eV 1) (eV 4)) aNil)))) (sSet 3 (e2 gAdd (eV 3) (eLc (iSeq (eV 6)) [8, 9] (gTupD 2 (gsCons (gN 8) (gsCons (gN 9) gsNil))) (bO (e2 gEqI (e2 gXor (e2 gXor (eV 2) (eV 7)) (eV 9)) (eC (.int 0)))) (eTup (aCons (eV 4) (aCons (eV 8) aNil))))))))) (sRet (eCall gTuple (aCons (eV 3) aNil)))))
def d_l_good_spots : List PyData → Option PyData := defD 2 10 b_l_good_spots
theorem ok_l_good_spots {f : Addr} {fd : FuncData} (F : Fun K "_law_good_spots" "_law_good_spots" s_l_good_spots f fd) (T : Tp mg) (c_l_put_by_bits : CallD P w K mg base "_law_put_by_bits" 1 1 d_l_put_by_bits) (c_l_worths_of : CallD P w K mg base "_law_worths_of" 4 2 d_l_worths_of) (c_l_behind_all : CallD P w K mg base "_law_behind_all" 4 2 d_l_behind_all) (c_l_worths : CallD P w K mg base "_law_worths" 3 1 d_l_worths) (c_l_bits : CallD P w K mg base "_law_bits" 1 1 d_l_bits) : FnOk P w K mg base CX0 5 f fd ["_law_nets", "_law_lefts_so"] (spP 2 d_l_good_spots) :=
  okP (k := 4) (g := b_l_good_spots) F sc_l_good_spots rfl rfl (by decide) rfl fun cdv A outer s H E hr => (ss_cons (s_asg (e_tup (a_cons (e_callD c_l_put_by_bits (hr.mono (by decide)) (fun _ _ h => defD_len h) rfl (a_cons (e_callD c_l_worths_of (hr.mono (by decide)) (fun _ _ h => defD_len h) rfl (a_cons (v 0) (a_cons (v 1) a_nil))) a_nil)) (a_cons (e_lst a_nil) a_nil))) (g_tup rfl (gs_cons (g_name (i := 2) sc_l_good_spots.nd rfl (by first | exact Or.inl rfl | exact Or.inr rfl)) (gs_cons (g_name (i := 3) sc_l_good_spots.nd rfl (by first | exact Or.inl rfl | exact Or.inr rfl)) gs_nil)))) (ss_cons (s_for PassesOwn.never rfl (i_enum rfl T.enum (v 0)) (g_tup rfl (gs_cons (g_name (i := 4) sc_l_good_spots.nd rfl (by first | exact Or.inl rfl | exact Or.inr rfl)) (gs_cons (g_name (i := 5) sc_l_good_spots.nd rfl (by first | exact Or.inl rfl | exact Or.inr rfl)) gs_nil))) (ss_cons (s_set (i := 6) sc_l_good_spots.nd rfl (by first | exact Or.inl rfl | exact Or.inr rfl) (e_callD c_l_behind_all (hr.mono (by decide)) (fun _ _ h => defD_len h) rfl (a_cons (v 5) (a_cons (e_ix (v 1) (v 4)) a_nil)))) (ss_cons (s_set (i := 7) sc_l_good_spots.nd rfl (by first | exact Or.inl rfl | exact Or.inr rfl) (e_dget (hu_of hr) (e_callD c_l_worths (hr.mono (by decide)) (fun _ _ h => defD_len h) rfl (a_cons (v 5) a_nil)) (e_callD c_l_bits (hr.mono (by decide)) (fun _ _ h => defD_len h) rfl (a_cons (e_ix (v 1) (v 4)) a_nil)))) (ss_one (s_set (i := 3) sc_l_good_spots.nd rfl (by first | exact Or.inl rfl | exact Or.inr rfl) (e_op oAdd (v 3) (e_lc (own := [("_law_own", 8), ("_law_number_so", 9)]) rfl sc_l_good_spots.nd (i_seq (v 6)) (blkOk_by (own := [("_law_own", 8), ("_law_number_so", 9)]) (N := N_l_good_spots) (sc := defScope s_l_good_spots) (by decide +kernel)) (fun _ _ _ _ _ => (g_tup rfl (gs_cons (g_name (i := 8) sc_l_good_spots.nd rfl (by first | exact Or.inl rfl | exact Or.inr rfl)) (gs_cons (g_name (i := 9) sc_l_good_spots.nd rfl (by first | exact Or.inl rfl | exact Or.inr rfl)) gs_nil)))) (fun _ _ _ _ _ => (ts_one (t_cmp oEqI (e_op oXor (e_op oXor (v 2) (v 7)) (v 9)) e_int))) (fun _ _ _ _ _ => (e_tup (a_cons (v 4) (a_cons (v 8) a_nil))))))))))) (ss_one (s_ret (e_callTy cTuple rfl T.tuple PyProof.Rows.boot_tuple (a_cons (v 3) a_nil))))))
end
end Ea
end
section
set_option Elab.async false
set_option linter.all false
set_option maxRecDepth 100000
set_option maxHeartbeats 4000000
/-! EaX: an own class over LookupError whose __init__ says super().__init__(piece); self.piece = piece -/
namespace Ea
open PySem PySem.Spec PySem.W PySem.Calls
open PyProof.Rows hiding St
open Builtin Builtin.ObjectAttr
abbrev leTail : List Value := [.type "LookupError", .type "Exception", .type "BaseException", .type "object"]
abbrev npScope : Scope := ⟨.function, [("self", .local), ("piece", .local), ("__class__", .free), ("super", .globalImplicit)], false, false, []⟩
abbrev npBody : List Stmt := [.Expr (.Call (.Attribute (.Call (.Name "super" ⟨5, 8, 5, 13⟩) [] [] ⟨5, 8, 5, 15⟩) "__init__" ⟨5, 8, 5, 24⟩) [.Name "piece" ⟨5, 25, 5, 30⟩] [] ⟨5, 8, 5, 31⟩) ⟨5, 8, 5, 31⟩,
  .Assign [.Attribute (.Name "self" ⟨6, 8, 6, 12⟩) "piece" ⟨6, 8, 6, 18⟩] (.Name "piece" ⟨6, 21, 6, 26⟩) ⟨6, 8, 6, 26⟩]
abbrev npEnv (L fI cda cc : Addr) : Env := envX "NoPiece.__init__" npScope L fI (.ref cda) [("__class__", cc)]
/-- the facts of such a class, of its __init__, of the code's record and of the cell of __class__ -/
structure NpK (P : Program) (K : Frag) (C fI : Addr) : Prop where
  q : excInitIn K C leTail "LookupError.__new__" = true
  ov : excOver K C leTail = true
  hi : findIn K (.ref C) "__init__" = some (some (.ref fI))
  fn : isFn K (.ref fI) = true
  tk : takerIn K C "piece" = some none
  nf : findIn K (.ref C) "piece" = some none
  sa : findIn K (.ref C) "__setattr__" = some (some (.builtin "object.__setattr__"))
  hd : hasDictIn K C = true
  sL : subIn K (.ref C) (.type "LookupError") = some true
  exC : subIn K (.ref C) (.type "BaseException") = some true
  tyC : typeIn K (.ref C) = some (.type "type")
  kC : keepIn K (.ref C) = true
  op : nsIn K cStatics "thirdparty.any" = some none
  su : ks_superIn K C C "__init__" = some (some (.builtin "LookupError.__init__"))
  mr : mroIn K C (.ref C) = some true
  fd : ∃ (oc : Value) (od : Option Addr) (kV doc pm ct : Value) (an : Option Addr) (cda cc : Addr) (osl : Array (Option Value)) (q1 q2 : Pos) (ccl cl : Value) (cdd cld : Option Addr) (ccs csl : Array (Option Value)) (vs : Array Value) (file : Str) (tf : Tok) (cdC : ClassData),
    K.lookup fI = some ⟨oc, od, .func (fnX "__init__" "NoPiece.__init__" ⟨[], [⟨"self", none, q1⟩, ⟨"piece", none, q2⟩], none, [], [], none, []⟩ npBody npScope [("__class__", cc)] .none kV doc pm an (.ref cda) ct), osl⟩ ∧
    codeIn K (.ref cda) "NoPiece.__init__" = true ∧ K.lookup cda = some ⟨ccl, cdd, .fields vs, ccs⟩ ∧ vs[2]? = some (.str file tf) ∧ ((P.main.file : Str) == file) = true ∧
    K.lookup cc = some ⟨cl, cld, .cell (some (.ref C)), csl⟩ ∧ clsIn K C = some cdC ∧ (P.main.scope.names.lookup ("super" : Str)).isSome = false

section
variable {P : Program} {w : World} {A : Around} {R : Result → Shared → Prop} {h hp : Heap} {g : Array GenState} {d : Drawn} {t : Nat} {os : OsState} {K : Frag} {C fI e t0 : Addr} {u : Value} {mg mb : Str → Option Value}

/-- self.piece = v on an exception without a dict -/
theorem np_set {A : Around} {E : Value → Shared → Prop} {c2 : Value} {v : Value} {Q : Unit → Shared → Prop} (X : K.In h) (N : NpK P K C fI) (he : h.get? e = some (excObj C t0 none c2))
    (hq : ∀ h' tk' dx, (∀ b o, b ≠ e → h.get? b = some o → h'.get? b = some o) → h.objs.size ≤ dx → dx ≠ e → h'.get? e = some (excObj C t0 (some dx) c2) →
      h'.Ns1 dx (fun y => if y = "piece" then some v else none) → Q () ⟨h', g, d, tk', os⟩) : wpAny (model P w) A (setAttr (.ref e) "piece" v) Q E ⟨h, g, d, t, os⟩ := by
  have I : InstAt h e (excObj C t0 none c2) C none := ⟨he, rfl, rfl, trivial⟩
  refine set_plain X I N.sa (osa_openX (s := ⟨h, g, d, t + 1, os⟩) F.store_LookupError X I N.ov N.tk fun b => ?_)
  dsimp only
  obtain ⟨cd, hc, hh⟩ := any_some N.hd
  have Lc : Looks (model P w) h (classData C) cd := looks_clsIn X hc
  have hes : e ≠ h.objs.size := Nat.ne_of_lt (Heap.lt_size he)
  obtain ⟨nm, bs, mro, ns, qn, hd, sn, sb, ab, col, del⟩ := cd
  dsimp only at hh
  subst hh
  unfold storeInOwnDict ownDictForStores
  repeat (first | with_reducible refine Lc.at ?_ | with_reducible refine wpAny_loadPart_at he ?_ | with_reducible refine HandSPX.store_in_new ?_ ?_ | wp_step)
  · exact ⟨_, #[], _, (Heap.get?_update_ne _ _ _ _ hes.symm).trans (Heap.get?_push_at rfl rfl), rfl, fun x hx => absurd hx (by simp), fun _ => rfl⟩
  · intro h' tk' hn' hs
    have he₁ : (h.push { cls := .type "dict", data := .dict #[] }).get? e = some (excObj C t0 none c2) := Heap.get?_push_of_some _ he
    refine hq h' tk' h.objs.size (fun b o hb ho => (hs.2 b (Nat.ne_of_lt (Heap.lt_size ho))).trans ((Heap.get?_update_ne _ _ _ _ hb).trans (Heap.get?_push_of_some _ ho))) (Nat.le_refl _) hes.symm ((hs.2 e hes).trans (Heap.get?_update_self _ he₁ rfl)) hn'

theorem isIt {M : Model} (X : K.In h) {ox : Obj} {od : Option Obj} (I : InstAt h e ox C od) {b : Value} (hs : subIn K (.ref C) b = some true) : Looks M h (isInstance (.ref e) b) true := I.type.andThen (looks_subIn X hs)

/-- the body of __init__ -/
theorem np_init (X : K.In hp) (N : NpK P K C fI) (k0 : ∀ b o, hp.get? b = some o → h.get? b = some o) (ne : hp.get? e = none) (he : h.get? e = some (excObj C t0 none .none))
    (hl : h.NoLimit) (hg : hp.Ns mainGlobals mg) (hms : mg "super" = none) (hb : hp.Ns builtinsNs mb) (hbs : mb "super" = some (.type "super")) (hroom : A.depth < recursionLimit)
    (hq : ∀ h' t' dx t1, (∀ b o, b ≠ e → h.get? b = some o → h'.get? b = some o) → h.objs.size ≤ dx → h'.get? e = some (excObj C t1 (some dx) .none) →
      h'.Ns1 dx (fun y => if y = "piece" then some u else none) → R (.ok (.ret .none)) ⟨h', g, d, t', os⟩) :
    codeAny (model P w) A (.call (.ref fI) ⟨[.ref e, u], []⟩) R ⟨h, g, d, t, os⟩ := by
  obtain ⟨oc, od, kV, doc, pm, ct, an, cda, cc, osl, q1, q2, ccl, cl, cdd, cld, ccs, csl, vs, file, tf, cdC, hfn, hcd, hcode, hvs, hfile, hcell, hC, htop⟩ := N.fd
  have X1 : K.In h := X.keeps k0
  refine ks_codeAny_call_defAt (binds := [("self", .ref e), ("piece", u)]) hroom (X1 _ _ hfn) rfl hl (codeRec_of X1 hcd) rfl (BindsTo.of_eq rfl) (show ∀ x ∈ npScope.names, x.2 ≠ .cell by decide) (locs (scope := npScope) rfl) (fun h₁ hns hk₁ => ?_) rfl rfl rfl
  have nK : ∀ {b : Addr} {o : Obj}, hp.get? b = some o → b ≠ e := fun {b o} q z => by rw [z, ne] at q; cases q
  have X0 : K.In (hideAll h [e]) := fun b o q => hideAll_get _ (X1 b o q) fun hm => nK (X b o q) (List.mem_singleton.mp hm)
  have kp : ∀ b o, hp.get? b = some o → (hideAll h [e]).get? b = some o := fun b o q => hideAll_get _ (k0 b o q) fun hm => nK q (List.mem_singleton.mp hm)
  have F1 : Fr (hideAll h [e]) h.objs.size h₁ (fun y => ([("self", Value.ref e), ("piece", u)] : List (Str × Value)).reverse.lookup y) := ⟨hns, fun b o q => hk₁ b o (of_hideAll _ q), Nat.le_of_eq (hideAll_size _ _)⟩
  have N1 : News (hideAll h [e]) h.objs.size h₁ [(e, excObj C t0 none .none)] := fun p hp => by
    obtain rfl := List.mem_singleton.mp hp
    exact ⟨hk₁ _ _ he, Nat.ne_of_lt (Heap.lt_size he), hideAll_none _ (List.mem_singleton.mpr rfl)⟩
  have XX : K.In h₁ := X1.keeps hk₁
  have I1 : InstAt h₁ e (excObj C t0 none .none) C none := InstAt.of_exc0 N1 (.head _)
  obtain ⟨oD, hD1, hD2⟩ : ∃ oD, h₁.get? C = some oD ∧ oD.data = .cls cdC := by
    unfold clsIn at hC
    split at hC
    · rename_i ho
      cases hC
      exact ⟨_, XX _ _ ho, rfl⟩
    · cases hC
  show PySem.wpAt (model P w) (A.deeper (npEnv h.objs.size fI cda cc)) (.func npBody (npEnv h.objs.size fI cda cc)) (execs npBody (npEnv h.objs.size fI cda cc)) _ _ ⟨h₁, g, d, t + 2, os⟩
  refine ks_wpAt_execs_cons (ks_wpAt_Expr_any (ks_wpAt_MethodCall ?_ (by rfl)))
  refine ks_wpAt_super_base (f := fI) (cc := cda) rfl rfl rfl rfl (XX _ _ hfn) rfl rfl rfl (XX _ _ hcode) rfl hvs hfile htop ?_
  refine ks_loadName_global rfl rfl (loadGlobal_builtin (mg := mg) (mb := mb) ((hg.keeps k0).keeps hk₁) hms ((hb.keeps k0).keeps hk₁) hbs ⟨rfl, ?_⟩)
  refine wpAny_loadName_free rfl rfl rfl ⟨_, XX _ _ hcell, rfl⟩ ?_
  refine wpAny_loadName_local rfl rfl F1.ns rfl ?_
  refine ks_wpAny_isType_cls hD1 hD2 ⟨rfl, ?_⟩
  refine ks_wpAny_call_super hD1 hD2 I1.at_ I1.cls (fun c z => by cases z) (looks_mroIn XX N.mr) (fun h2 e2 k2 => ?_)
  obtain ⟨F2, N2, l2⟩ := ks_newsPush (s := ⟨h₁, g, d, t + 2, os⟩) F1 N1 rfl e2 k2
  have I2 : InstAt h2 e (excObj C t0 none .none) C none := InstAt.of_exc0 N2 (.tail _ (.head _))
  refine kxs_method kxs_LookupError F2 X0 N2 (.head _) I2 N.op N.su N.sL (by decide) fun q h3 F3 N3 l3 => ?_
  have s1 : h₁.objs.size ≠ e := Nat.ne_of_gt (l2 _ (.head _))
  have s2 : q ≠ e := Nat.ne_of_gt (l3 _ (.tail _ (.head _)))
  refine kxs_callWith1 N3 (.head _) (args_cons (wpAny_Name (wpAny_loadName_local rfl rfl F3.ns rfl ?_) (by decide)))
  refine args_nil ⟨kxs_at N3 (.head _), ?_⟩
  have U3 : UpdF e (excObj C t0 none .none) ((q, kxs_mw "LookupError.__init__" e) :: (h₁.objs.size, ks_superObj C e C) :: [(e, excObj C t0 none .none)]) (fun o' => (q, kxs_mw "LookupError.__init__" e) :: (h₁.objs.size, ks_superObj C e C) :: [(e, o')]) :=
    .tail s2 (.tail s1 (.head fun _ z => nomatch z))
  refine kxs_call F3 X0 N3 F.excBase_LookupError N.q (.head _) U3 (by show 1 ≤ sizeLine; rw [sizeLine_eq]; omega) fun t1 h4 F4 N4 l4 => ?_
  refine ks_wpAt_execs_cons (wpAt_of_wpAny (plainObj_wpAny_Assign_Attribute ?_))
  refine wpAny_Name (wpAny_loadName_local rfl rfl F4.ns rfl ?_) (by decide)
  refine wpAny_Name (wpAny_loadName_local rfl rfl F4.ns rfl ?_) (by decide)
  have e4 := (N4 (e, excObj C t1 none .none) (by simp)).1
  refine np_set (X0.keeps F4.keep) N e4 fun h5 tk5 dx k5 l5 n5 e5 n1 => ?_
  refine wpAt_of_wpAny (wpAny_execs_nil ?_)
  have k4 : ∀ b o, b ≠ e → h.get? b = some o → h4.get? b = some o := fun b o hb ho => F4.keep b o (hideAll_get _ ho fun hm => hb (List.mem_singleton.mp hm))
  exact hq h5 _ dx t1 (fun b o hb ho => k5 b o hb (k4 b o hb ho)) (by
    refine Nat.le_trans ?_ l5
    have := Heap.lt_size F4.ns.choose_spec.choose_spec.choose_spec.1
    exact Nat.le_of_lt this) e5 n1
end

/-- NoPiece(e) made: the exception's dict lies in the heap -/
def tNp (C : Addr) (te : L2.TE) : L2.St → L2.Hp → L2.XK → Prop := fun σ H Q => te σ H fun v H1 => ∀ dx, H1 dx = none → Q (.ref C) (some dx) (L2.upd H1 dx (.xd [("piece", v)]))
open L2 in
def npPost (C : Addr) (Q : XK) : List V → Hp → Prop
  | [v], H1 => ∀ dx, H1 dx = none → Q (.ref C) (some dx) (upd H1 dx (.xd [("piece", v)]))
  | _, _ => False
open L2 in
theorem npPost_one {C : Addr} {Q : XK} {vs : List V} {H : Hp} (h : npPost C Q vs H) : ∃ v, vs = [v] ∧ ∀ dx, H dx = none → Q (.ref C) (some dx) (upd H dx (.xd [("piece", v)])) := by
  match vs, h with
  | [v], h => exact ⟨v, rfl, h⟩
open L2 in
theorem pmk_np {X : Cx} {C fI : Addr} {x : Str} {p pos : Pos} {ee : Expr} {te : TE} {k : Nat} (N : NpK X.prog X.K C fI) (hr : Room (k + 1) X.A) (hg : Gl X x) (hm : X.mg x = some (.ref C)) (hms : X.mg "super" = none) (ha : PE X ee te)
    (hdb : (x == ("__debug__" : Str)) = false := by decide) (hes : starEach [ee] X.env = (false, PySem.eval ee X.env) :: starEach [] X.env := by rfl) : PMk X (.Call (.Name x p) [ee] [] pos) (tNp C te) := by
  intro pins s σ H Q I h
  refine wpAny_Call_Name_kw (ld_glob I hg hm ?_ hdb)
  have hP : PA X [ee] (tCons te tNil) := pa_cons ha pa_nil hes
  refine PySem.W.callWith_K (h₀ := X.base) I.ok.mod.kin N.kC (thn (hP.run pos pins s σ H (npPost C Q) I h) fun us s1 ⟨vs, H1, I1, r1, q0⟩ => ⟨I1.kIn, ?_⟩) hes (by rfl)
  obtain ⟨v, ev, q1⟩ := npPost_one q0
  subst ev
  obtain ⟨u, eu, rv⟩ : ∃ u, us = [u] ∧ RelV v u := by
    cases r1 with
    | cons rv rn => cases rn; exact ⟨_, rfl, rv⟩
  subst eu
  show wpAny _ _ (call (.ref C) [u]) _ _ _
  obtain ⟨nm, N', qn, bs, bm, hdct, sn, sub, ab, col, dd, k0, k1, k2, k3, k5, hC, hT⟩ := excInit_of I1.kIn N.q
  obtain ⟨mb, hb1, hb2⟩ := I1.mod.blt
  have nl : s1.heap.NoLimit := I1.nolimit
  obtain ⟨hp, g, dr, tk, os⟩ := s1
  have kk : ∀ b o, hp.get? b = some o → ((hp.push (kdv_tup [u])).push (HandSPX.excO C hp.objs.size)).get? b = some o := fun b o e => Heap.get?_push_of_some _ (Heap.get?_push_of_some _ e)
  have hget : ((hp.push (kdv_tup [u])).push (HandSPX.excO C hp.objs.size)).get? (hp.objs.size + 1) = some (excObj C hp.objs.size none .none) := by heap_get
  have hnew : hp.get? (hp.objs.size + 1) = none := by
    cases q : hp.get? (hp.objs.size + 1) with
    | none => rfl
    | some o => exact absurd (Heap.lt_size q) (Nat.not_lt.mpr (Nat.le_succ _))
  have hmod : X.mg "super" = none := hms
  refine wpAny_call (HandSPX.call_own F.excBase_LookupError hT hC (looks_findIn I1.kIn N.hi) (fun self => bind_fn I1.kIn self (by have := N.fn; exact beq_iff_eq.mp this)) (by show 1 ≤ sizeLine; rw [sizeLine_eq]; omega) ?_)
  refine np_init (hp := hp) (mg := X.mg) (mb := mb) I1.kIn N kk hnew hget (nl.keeps kk) (I1.mod.glob.keeps I1.bk) hmod (hb1.keeps I1.bk) ((hb2 _ (by decide)).trans (by decide +kernel)) ((hr.make C [u] []).depth) fun h' t' dx t1 k' l' e' n' => ⟨rfl, ?_⟩
  have hsz : ((hp.push (kdv_tup [u])).push (HandSPX.excO C hp.objs.size)).objs.size = hp.objs.size + 2 := by simp [Heap.size_push]
  have ndx : hp.objs.size ≤ dx := by have := l'; rw [hsz] at this; omega
  have nde : dx ≠ hp.objs.size + 1 := by have := l'; rw [hsz] at this; omega
  obtain ⟨G, g1, g2⟩ := restrict h' fun b => decide (b ≠ hp.objs.size + 1)
  have gk : ∀ b, b ≠ hp.objs.size + 1 → G.get? b = h'.get? b := fun b hb => g1 b (decide_eq_true hb)
  have ge : G.get? (hp.objs.size + 1) = none := g2 _ (by simp)
  have old : ∀ b o, hp.get? b = some o → G.get? b = some o := fun b o q => by
    have hb : b ≠ hp.objs.size + 1 := fun z => by rw [z, hnew] at q; cases q
    rw [gk b hb]
    exact k' b o hb (kk b o q)
  have hn1 : H1 dx = none := I1.hok.fresh ndx
  have J : Inv X pins σ (upd H1 dx (.xd [("piece", v)])) ⟨G, g, dr, t', os⟩ := I1.laid (t' := t') (a := dx) (o := .xd [("piece", v)]) (h' := G) old ndx
    ⟨_, n'.at fun o y => (gk dx nde).trans y, relO_put (fs := []) rv fun g => True.intro⟩
  refine ⟨hp.objs.size + 1, _, _, ⟨G, g, dr, t', os⟩, _, .ref C, some dx, rfl, J, fun b o z => ?_, ge, e', ⟨rfl, rfl⟩, rfl, rfl, ?_, rfl, J.bare, raises_own N.exC N.tyC, q1 dx hn1⟩
  · by_cases hb : b = hp.objs.size + 1
    · rw [hb, ge] at z; cases z
    · exact (gk b hb).symm.trans z
  · rw [upd_ne (Ne.symm nde)]
    exact I1.hok.fresh (Nat.le_succ _)
end Ea
end
section
set_option Elab.async false
set_option linter.all false
set_option maxRecDepth 100000
set_option maxHeartbeats 4000000
/-! EaY: defs that raise, by their denotations; a try with two named clauses -/
namespace Ea
open PySem PySem.Spec L2
open PyProof.Rows hiding St
inductive Rs where
  | ok (d : PyData)
  | can
  | np (d : PyData)
/-- what is wished where the answer is an exception -/
structure Bad (W : XK) (CN NP : Addr) (F H : Hp) (r : Rs) : Prop where
  can : r = .can → ∀ F' H', Ext F H F' H' → W (.ref CN) none H'
  np : ∀ d, r = .np d → ∀ v dx F' H', Ext F H F' H' → Rp F' v d → H' dx = some (.xd [("piece", v)]) → W (.ref NP) (some dx) H'
theorem Bad.ext {W : XK} {CN NP : Addr} {F H F' H' : Hp} {r : Rs} (b : Bad W CN NP F H r) (x : Ext F H F' H') : Bad W CN NP F' H' r :=
  ⟨fun e F2 H2 y => b.can e F2 H2 (x.trans y), fun d e v dx F2 H2 y rv q => b.np d e v dx F2 H2 (x.trans y) rv q⟩
def tX (W : XK) (CN NP : Addr) (g : En → Option Rs) : TE := fun σ H Q => ∃ F ρ r, Same F H ∧ EnvR F H σ ρ ∧ g ρ = some r ∧ (∀ d, r = .ok d → ∀ v F' H', Ext F H F' H' → Rp F' v d → Q v H') ∧ Bad W CN NP F H r
def spR (n : Nat) (CN NP : Addr) (g : List PyData → Option Rs) : Sp := fun vs H Q E => vs.length = n ∧ ∃ F ds r, Same F H ∧ RpL F vs ds ∧ g ds = some r ∧ (∀ d, r = .ok d → ∀ v F' H', Ext F H F' H' → Rp F' v d → Q v H') ∧ Bad E CN NP F H r
section
variable {P : Program} {w : World} {K : PySem.W.Frag} {mg : Str → Option Value} {base : Heap}
/-- a promise that speaks of no exception, kept with exceptions barred -/
theorem toP {k n : Nat} {f : Addr} {fd : FuncData} {ps : List Str} {g : List PyData → Option PyData} (F : FnOk P w K mg base (L2.CX P w) k f fd ps (spP n g)) : FnOk P w K mg base CX0 k f fd ps (spP n g) :=
  ⟨fun vs H Q E h => F.len vs H Q E h, fun A outer s H args us vs Q E hr he hb hv hs => codeAny_mono (F.run A outer s H args us vs Q E0 hr he hb hv hs) fun r s' h => by
    cases r with
    | error e =>
      obtain ⟨a, B, H', cls, d, h1, h2, h3, h4, h5, h6, h7, h8⟩ := h
      exact h8.elim
    | ok fl =>
      cases fl with
      | ret u => exact h
      | next => exact h
      | brk => exact h
      | cont => exact h⟩
def okOf (r : Option Rs) : Option PyData := match r with | some (.ok d) => some d | _ => none
theorem okOf_some {r : Option Rs} {d : PyData} (h : okOf r = some d) : r = some (.ok d) := by
  unfold okOf at h
  split at h
  · cases h; rfl
  · cases h
/-- .. read only where it raises nothing -/
theorem toOk {k n : Nat} {f CN NP : Addr} {fd : FuncData} {ps : List Str} {g : List PyData → Option Rs} (F : FnOk P w K mg base (L2.CX P w) k f fd ps (spR n CN NP g)) : FnOk P w K mg base CX0 k f fd ps (spP n fun ds => okOf (g ds)) :=
  toP (F.imp fun vs H Q E ⟨hl, F', ds, d, s, r, q, k⟩ => ⟨hl, F', ds, .ok d, s, r, okOf_some q, fun d' e => by cases e; exact k, ⟨(fun e => nomatch e), fun d e => nomatch e⟩⟩)
end
section
variable {X : Cx} {e a b c tg : Expr} {es : List Expr} {st : Stmt} {sts rest : List Stmt} {pos : Pos} {W : XK} {CN NP : Addr}
theorem e_callX {x : Str} {p : Pos} {k n : Nat} {f : Addr} {fd : FuncData} {ps : List Str} {g : List PyData → Option Rs} {fs : DA}
    (F : FnOk X.prog X.w X.K X.mg X.base (L2.CX X.prog X.w) k f fd ps (spR n CN NP g)) (hx : Passes (L2.CX X.prog X.w) X W) (hr : Room k X.A) (hn : ∀ ds d, g ds = some d → ds.length = n) (hg : Gl X x) (hm : X.mg x = some (.ref f)) (hk : PySem.W.keepIn X.K (.ref f) = true) (hb : Binds X.K fd ps [])
    (ha : PA X (e :: es) (tA fs)) (hdb : (x == ("__debug__" : Str)) = false := by decide) (he : starEach (e :: es) X.env = (false, eval e X.env) :: starEach es X.env := by rfl) (hpl : (backTo pos (starEach es X.env)).any (·.1) = false := by rfl) :
    PE X (.Call (.Name x p) (e :: es) [] pos) (tX W CN NP fun ρ => (fs ρ).bind g) :=
  (pe_call F hr hg hm hk hb .nil hx ha hdb he hpl).imp fun σ H Q ⟨F, ρ, r, s, en, q, k, bd⟩ => by
    obtain ⟨ds, hd, q⟩ := Option.bind_eq_some_iff.mp q
    refine ⟨F, ρ, ds, s, en, hd, fun vs F1 H1 x1 r1 => ?_⟩
    show spR n CN NP g (vs ++ []) H1 Q W
    rw [List.append_nil]
    exact ⟨by rw [r1.length]; exact hn _ _ q, F1, ds, r, x1.fh, r1, q, fun d e v F2 H2 x2 r2 => k d e v F2 H2 (x1.trans x2) r2, bd.ext x1⟩
/-- f(..)[k] -/
def xIx (g : En → Option Rs) (fb : DE) : En → Option Rs := fun ρ => (g ρ).bind fun r => match r with
  | .ok a => (fb ρ).bind fun b => (gIx a b).map .ok
  | r => some r
theorem e_ixX {g : En → Option Rs} {fb : DE} (ha : PE X a (tX W CN NP g)) (hb : PE X b (tE fb)) (hs : PlainIx b := by exact fun _ _ => rfl) : PE X (.Subscript a b pos) (tX W CN NP (xIx g fb)) :=
  (pe_ix ixD ha hb hs).imp fun σ H Q ⟨F, ρ, r, s, en, q, k, bd⟩ => by
    obtain ⟨r0, h0, q⟩ := Option.bind_eq_some_iff.mp q
    refine ⟨F, ρ, r0, s, en, h0, ?_, ?_⟩
    · intro d0 e0 x F1 H1 x1 r1
      subst e0
      obtain ⟨db, hdb, q⟩ := Option.bind_eq_some_iff.mp q
      obtain ⟨d, hd, e⟩ := Option.map_eq_some_iff.mp q
      exact ⟨F1, ρ, db, x1.fh, en.ext x1, hdb, fun y F2 H2 x2 r2 => ⟨F2, d0, db, d, x2.fh, r1.mono x2.ff, r2, hd, fun v F3 H3 x3 r3 => k d e.symm v F3 H3 (x1.trans (x2.trans x3)) r3⟩⟩
    · cases r0 with
      | ok d => exact ⟨(fun e => nomatch e), fun d e => nomatch e⟩
      | can => cases q; exact bd
      | np d => cases q; exact bd

/-! statements -/
inductive OutR where
  | nx (ρ : En)
  | rt (d : PyData)
  | bad (r : Rs)
abbrev DR := En → Option OutR
def tR (W : XK) (CN NP : Addr) (f : DR) : TS := fun D σ H => ∃ F0 H0 F ρ out, StR F0 H0 ρ F σ H ∧ f ρ = some out ∧
  (∀ ρ', out = .nx ρ' → ∀ F' σ' H', StR F0 H0 ρ' F' σ' H' → D.nx σ' H') ∧ (∀ d, out = .rt d → ∀ v F' H', Ext F0 H0 F' H' → Rp F' v d → D.rt v H') ∧ (∀ r, out = .bad r → Bad W CN NP F0 H0 r)
def rOf (f : DS) : DR := fun ρ => match f ρ with | some (.nx ρ') => some (.nx ρ') | some (.rt d) => some (.rt d) | none => none
theorem r_of {f : DS} (h : PS X st (tS f)) : PS X st (tR W CN NP (rOf f)) := h.imp fun D σ H ⟨F0, H0, F, ρ, out, s, q, k1, k2, _⟩ => by
  unfold rOf at q
  split at q
  · rename_i ρ' hf
    cases q
    exact ⟨F0, H0, F, ρ, _, s, hf, fun ρ2 e => by cases e; exact k1 _ rfl, fun d e => nomatch e⟩
  · rename_i d hf
    cases q
    exact ⟨F0, H0, F, ρ, _, s, hf, (fun ρ2 e => nomatch e), fun d2 e => by cases e; exact k2 _ rfl⟩
  · cases q
def rSeq (f g : DR) : DR := fun ρ => match f ρ with | some (.nx ρ') => g ρ' | some o => some o | none => none
theorem rs_cons {f g : DR} (h1 : PS X st (tR W CN NP f)) (h2 : PSs X rest (tR W CN NP g)) : PSs X (st :: rest) (tR W CN NP (rSeq f g)) :=
  (pss_cons h1 h2).imp fun D σ H ⟨F0, H0, F, ρ, out, s, q, k1, k2, k3⟩ => by
    unfold rSeq at q
    split at q
    · rename_i ρ' hf
      refine ⟨F0, H0, F, ρ, _, s, hf, fun ρ2 e F' σ' H' s' => ?_, (fun d e => nomatch e), fun r e => nomatch e⟩
      cases e
      exact ⟨F0, H0, F', ρ', out, s', q, k1, k2, k3⟩
    · rename_i o hne hf
      cases q
      exact ⟨F0, H0, F, ρ, _, s, hf, (fun ρ2 e => (hne ρ2 e).elim), k2, k3⟩
    · cases q
theorem rs_one {f : DR} (h : PS X st (tR W CN NP f)) : PSs X [st] (tR W CN NP f) := pss_one h
theorem rs_nil : PSs X [] (tR W CN NP fun ρ => some (.nx ρ)) := pss_nil.imp fun D σ H ⟨F0, H0, F, ρ, out, s, q, k, _⟩ => by cases q; exact k ρ rfl F σ H s
/-- if t: raise .. -/
def rIf (t : DT) (f g : DR) : DR := fun ρ => match t ρ with | some true => f ρ | some false => g ρ | none => none
theorem r_if {t : DT} {f g : DR} {as bs : List Stmt} (hc : PT X c (tT t)) (ha : PSs X as (tR W CN NP f)) (hb : PSs X bs (tR W CN NP g)) : PS X (.If c as bs pos) (tR W CN NP (rIf t f g)) := (ps_if hc ha hb).imp fun D σ H ⟨F0, H0, F, ρ, out, s, q, k⟩ => by
  unfold rIf at q
  split at q
  · rename_i h
    exact ⟨F, ρ, _, s.fh, s.env, h, fun F' H' x => iteT ⟨F0, H0, F', ρ, out, s.ext x, q, k⟩⟩
  · rename_i h
    exact ⟨F, ρ, _, s.fh, s.env, h, fun F' H' x => iteF ⟨F0, H0, F', ρ, out, s.ext x, q, k⟩⟩
  · cases q
/-- a, b, .. = f(..) -/
def rAsg (f : En → Option Rs) (g : DG) : DR := fun ρ => (f ρ).bind fun r => match r with
  | .ok d => (g d ρ).map .nx
  | r => some (.bad r)
theorem r_asg {vs : List Nat} {f : En → Option Rs} {g : DG} (he : PE X e (tX W CN NP f)) (hg : PG X tg (tG vs g)) (hs : swapsWithSole [tg] e pos.line X.env = pure false := by rfl) (hw : swappedStores [tg] e X.env = pure none := by rfl)
    (h1 : (assignEach [tg] X.env).map (·.2) = [assign tg X.env] := by rfl) : PS X (.Assign [tg] e pos) (tR W CN NP (rAsg f g)) := (ps_asg he hg hs hw h1).imp fun D σ H ⟨F0, H0, F, ρ, out, s, q, k, _, k3⟩ => by
  obtain ⟨r, hr, q⟩ := Option.bind_eq_some_iff.mp q
  refine ⟨F, ρ, r, s.fh, s.env, hr, fun d e v F' H' x rv => ?_, ?_⟩
  · subst e
    obtain ⟨ρ', hg, q⟩ := Option.map_eq_some_iff.mp q
    subst q
    exact ⟨F', ρ, d, ρ', x.fh, s.env.ext x, rv, hg, fun σ' r a => k ρ' rfl F' σ' H' ((s.ext x).agr r a)⟩
  · cases r with
    | ok d => exact ⟨(fun e => nomatch e), fun d e => nomatch e⟩
    | can => cases q; exact ⟨fun e F' H' x => (k3 _ rfl).can rfl F' H' (s.out.trans x), fun d e => nomatch e⟩
    | np d => cases q; exact ⟨(fun e => nomatch e), fun d' e v dx F' H' x rv z => (k3 _ rfl).np d' e v dx F' H' (s.out.trans x) rv z⟩
/-- return f(..) -/
def rRet (f : En → Option Rs) : DR := fun ρ => (f ρ).map fun r => match r with | .ok d => .rt d | r => .bad r
theorem r_ret {f : En → Option Rs} (he : PE X e (tX W CN NP f)) : PS X (.Return (some e) pos) (tR W CN NP (rRet f)) := (ps_ret he).imp fun D σ H ⟨F0, H0, F, ρ, out, s, q, _, k, k3⟩ => by
  obtain ⟨r, hr, q⟩ := Option.map_eq_some_iff.mp q
  refine ⟨F, ρ, r, s.fh, s.env, hr, fun d e v F' H' x rv => ?_, ?_⟩
  · subst e
    exact k d q.symm v F' H' (s.out.trans x) rv
  · cases r with
    | ok d => exact ⟨(fun e => nomatch e), fun d e => nomatch e⟩
    | can => exact ⟨fun e F' H' x => (k3 _ q.symm).can rfl F' H' (s.out.trans x), fun d e => nomatch e⟩
    | np d => exact ⟨(fun e => nomatch e), fun d' e v dx F' H' x rv z => (k3 _ q.symm).np d' e v dx F' H' (s.out.trans x) rv z⟩
/-- CanNot() -/
theorem pmk_own0 {C : Addr} {bmB : List Value} {B newId initId : String} {x : Str} {p : Pos} (F : ExcBaseFacts B newId initId bmB) (q : PySem.W.excIn X.K C bmB newId = true) (gC : X.mg x = some (.ref C)) (kC : PySem.W.keepIn X.K (.ref C) = true) (r : Raises X (.ref C)) (hg : Gl X x)
    (hdb : (x == ("__debug__" : Str)) = false := by decide) : PMk X (.Call (.Name x p) [] [] pos) (fun _ H Q => Q (.ref C) none H) := by
  intro pins s σ H Q I h
  refine wpAny_Call_Name_kw (ld_glob I hg gC (PySem.W.callWith_K0 I.kIn kC ?_) hdb)
  obtain ⟨bm, N, nm, qn, bs, hdct, sn, sub, ab, col, dd, k0, k1, k2, k3, k5, mN, c1, c2, c3, T⟩ := exc_obj I.kIn q
  exact wpAny_call_exc_subT F T c1 c2 c3 (fun h' e hm => mk_of I hm r h (I.hok.gone hm.new)) (Nat.zero_le _)
/-- the facts of CanNot -/
structure CnK (K : PySem.W.Frag) (C : Addr) : Prop where
  q : PySem.W.excIn K C [.type "ValueError", .type "Exception", .type "BaseException", .type "object"] "ValueError.__new__" = true
  kC : PySem.W.keepIn K (.ref C) = true
  exC : PySem.W.subIn K (.ref C) (.type "BaseException") = some true
  tyC : PySem.W.typeIn K (.ref C) = some (.type "type")
theorem r_can {x : Str} {p pos' : Pos} (hc : X.calm = true) (tk : Takes X fun cls d _ H => W cls d H) (N : CnK X.K CN) (hg : Gl X x) (hm : X.mg x = some (.ref CN)) (hdb : (x == ("__debug__" : Str)) = false := by decide) :
    PS X (.Raise (some (.Call (.Name x p) [] [] pos)) none pos') (tR W CN NP fun _ => some (.bad .can)) :=
  (ps_raise hc tk (pmk_own0 F.excBase_ValueError N.q hm N.kC (raises_own N.exC N.tyC) hg hdb)).imp fun D σ H ⟨F0, H0, F, ρ, out, s, q, _, _, k⟩ => by
    cases q
    exact (k _ rfl).can rfl F H s.out
theorem r_np {x : Str} {p pos' : Pos} {fI : Addr} {k : Nat} {f : DE} (hc : X.calm = true) (tk : Takes X fun cls d _ H => W cls d H) (N : NpK X.prog X.K NP fI) (hr : Room (k + 1) X.A) (hg : Gl X x) (hm : X.mg x = some (.ref NP)) (hms : X.mg "super" = none) (he : PE X e (tE f))
    (hdb : (x == ("__debug__" : Str)) = false := by decide) (hes : starEach [e] X.env = (false, PySem.eval e X.env) :: starEach [] X.env := by rfl) :
    PS X (.Raise (some (.Call (.Name x p) [e] [] pos)) none pos') (tR W CN NP fun ρ => (f ρ).map fun d => .bad (.np d)) :=
  (ps_raise hc tk (pmk_np N hr hg hm hms he hdb hes)).imp fun D σ H ⟨F0, H0, F, ρ, out, s, q, _, _, kk⟩ => by
    obtain ⟨d, hd, q⟩ := Option.map_eq_some_iff.mp q
    subst q
    refine ⟨F, ρ, d, s.fh, s.env, hd, fun v F' H' x rv dx hn => ?_⟩
    have y : Ext F0 H0 F' (upd H' dx (.xd [("piece", v)])) := (s.out.trans x).trans (Ext.fresh x.fh hn)
    exact (kk _ rfl).np d rfl v dx F' _ y rv upd_same
end

/-! defs -/
def defR (n m : Nat) (g : DR) : List PyData → Option Rs := fun ds => if ds.length = n then (match g (startE m ds) with | some (.rt d) => some (.ok d) | some (.nx _) => some (.ok .none) | some (.bad r) => some r | none => none) else none
theorem defR_len {n m : Nat} {g : DR} {ds : List PyData} {d : Rs} (h : defR n m g ds = some d) : ds.length = n := by
  unfold defR at h
  split at h
  · assumption
  · cases h
section
variable {P : Program} {w : World} {K : PySem.W.Frag} {mg : Str → Option Value} {base : Heap}
theorem okR {x qual : Str} {st : Stmt} {f CN NP : Addr} {fd : FuncData} {N ps : List Str} {k n m : Nat} {g : DR} {d : List PyData → Option Rs} (F : Fun K x qual st f fd) (S : FnScope N ps (defScope st)) (hn : ps.length = n) (hm : N.length = m) (hN : n ≤ m) (hd : d = defR n m g)
    (body : ∀ (cdv : Value) (A : Around) (outer : List Env) (s : Shared) (H : Hp) (E : XK), Room k (A.deeper (envOfC qual (defScope st) s.heap.objs.size f cdv)) →
      PSs (cxOf (L2.CX P w) P w K mg base N qual (defScope st) f cdv A outer s H E) (defBody st) (tR E CN NP g)) : FnOk P w K mg base (L2.CX P w) (k + 1) f fd ps (spR n CN NP d) := by
  subst hd hn hm
  refine F.okX S (fun vs H Q E h => h.1) (fun cdv A outer s H vs Q E hr h => ⟨_, body cdv A outer s H E hr, ?_⟩)
  obtain ⟨hl, F', ds, r, sm, rr, q, k, bd⟩ := h
  have hd := defR_len q
  unfold defR at q
  rw [if_pos hd] at q
  have st : StR F' H (startE N.length ds) F' (L2.start N vs) H := StR.start sm (start_env rr (by omega)) startE_pure
  split at q
  · rename_i d' hg'
    cases q
    exact ⟨F', H, F', _, _, st, hg', (fun ρ' e => nomatch e), (fun d2 e v F2 H2 x2 r2 => by cases e; exact k _ rfl v F2 H2 x2 r2), fun r e => nomatch e⟩
  · rename_i ρ' hg'
    cases q
    exact ⟨F', H, F', _, _, st, hg', (fun ρ2 e F2 σ2 H2 s2 => by cases e; exact k _ rfl _ F2 H2 s2.out .non), (fun d2 e => nomatch e), fun r e => nomatch e⟩
  · rename_i r' hg'
    cases q
    exact ⟨F', H, F', _, _, st, hg', (fun ρ2 e => nomatch e), (fun d2 e => nomatch e), fun r2 e => by cases e; exact bd⟩
  · cases q
structure CallX (P : Program) (w : World) (K : PySem.W.Frag) (mg : Str → Option Value) (base : Heap) (CN NP : Addr) (x : Str) (k n : Nat) (g : List PyData → Option Rs) : Prop where
  ex : ∃ f fd ps, FnOk P w K mg base (L2.CX P w) k f fd ps (spR n CN NP g) ∧ mg x = some (.ref f) ∧ PySem.W.keepIn K (.ref f) = true ∧ Binds K fd ps []
theorem CallX.mk' {CN NP : Addr} {x : Str} {k n : Nat} {g : List PyData → Option Rs} {f : Addr} {fd : FuncData} {ps : List Str} (F : FnOk P w K mg base (L2.CX P w) k f fd ps (spR n CN NP g)) (m : mg x = some (.ref f)) (kp : PySem.W.keepIn K (.ref f) = true) (b : Binds K fd ps []) : CallX P w K mg base CN NP x k n g := ⟨f, fd, ps, F, m, kp, b⟩
/-- where it raises nothing -/
theorem CallX.ok {CN NP : Addr} {x : Str} {k n : Nat} {g : List PyData → Option Rs} (c : CallX P w K mg base CN NP x k n g) : CallD P w K mg base x k n fun ds => okOf (g ds) :=
  let ⟨f, fd, ps, F, m, kp, b⟩ := c.ex
  ⟨f, fd, ps, toOk F, m, kp, b⟩
end
theorem e_callXD {X : Cx} {e : Expr} {pos : Pos} {W : XK} {CN NP : Addr} {x : Str} {p : Pos} {es : List Expr} {k n : Nat} {g : List PyData → Option Rs} {fs : DA} (C : CallX X.prog X.w X.K X.mg X.base CN NP x k n g) (hx : Passes (L2.CX X.prog X.w) X W) (hr : Room k X.A) (hn : ∀ ds d, g ds = some d → ds.length = n) (hg : Gl X x)
    (ha : PA X (e :: es) (tA fs)) (hdb : (x == ("__debug__" : Str)) = false := by decide) (he : starEach (e :: es) X.env = (false, PySem.eval e X.env) :: starEach es X.env := by rfl) (hpl : (backTo pos (starEach es X.env)).any (·.1) = false := by rfl) :
    PE X (.Call (.Name x p) (e :: es) [] pos) (tX W CN NP fun ρ => (fs ρ).bind g) := by
  obtain ⟨f, fd, ps, F, m, kp, bb⟩ := C.ex
  exact e_callX F hx hr hn hg m kp bb ha hdb he hpl
end Ea
end
section
set_option Elab.async false
set_option linter.all false
set_option maxRecDepth 100000
set_option maxHeartbeats 4000000
/-! EaZ: a try whose clauses all bear a name; what their suites hold -/
namespace Ea
open PySem PySem.Spec L2
open PyProof.Rows hiding St
abbrev Cl := Value × Nat × (Addr → Value → Option Addr → TS)
/-- behind the suite the name of slot i is gone -/
abbrev outE (D : Ends) (i : Nat) : Ends := { nx := fun z G => D.nx (z.set i none) G, rt := D.rt, bk := fun z G => D.bk (z.set i none) G, ct := fun z G => D.ct (z.set i none) G }
def wNm (K : PySem.W.Frag) (D : Ends) : List Cl → WX
  | [] => fun _ _ _ _ => False
  | (c, i, ts) :: r => fun cls d σ H => ∃ b, PySem.W.exmOne K cls c = some b ∧ (b = true → ∀ a, H a = none → ts a cls d (outE D i) (σ.set i (some (.ref a))) H) ∧ (b = false → wNm K D r cls d σ H)
inductive HdN (X : Cx) : List ExceptHandler → List Cl → Prop
  | nil : HdN X [] []
  | cons {x n : Str} {i : Nat} {c : Value} {ts : Addr → Value → Option Addr → TS} {t0 : Stmt} {ss : List Stmt} {np q : Pos} {hds : List ExceptHandler} {l : List Cl} (hi : X.N[i]? = some n) (hl : X.env.kindOf n = some .local) (hc : Names X x c)
      (hs : ∀ (a : Addr) (oe : Obj) (cls : Value) (d : Option Addr) (pn : List (Addr × Obj)), Zc cls d oe → (∃ vs, oe.data = .fields vs) → PSs (X.suite a ((a, oe) :: pn)) (t0 :: ss) (ts a cls d)) (r : HdN X hds l) :
      HdN X (.ExceptHandler (some (.Name x np)) (some n) (t0 :: ss) q :: hds) ((c, i, ts) :: l)
section
variable {X : Cx} {bd : List Stmt} {hds : List ExceptHandler} {l : List Cl} {pos : Pos} {tb : WX → TS}
/-- the clauses, one after the other, of an exception that stands noted on the ground -/
theorem clauses {pins pins' : List (Addr × Obj)} {D : Ends} {a : Addr} {B : Heap} {sI s' : Shared} {σ : St} {H : Hp} {cls : Value} {d : Option Addr} {g3 : Heap} (hN : X.N.Nodup) (hf : X.env.frame = some X.env.locals) (hs : X.stack = X.env :: X.outer) (J : Inv X pins σ H sI) (nb : ∀ b o, sI.heap.get? b = some o → b ∉ frs X.stack → B.get? b = some o)
    (up : sI.heap.UpToSlots g3) (fl : HandSPX.FlyingZ B (X.env :: X.outer) a (Zc cls d) g3) (na : H a = none) (os : s'.os = sI.os) (ag : AllBare s'.gens) (hk : HdN X hds l) (w : wNm X.K D l cls d σ H) :
    wpAny (model X.prog X.w) X.A (handleBy (.ref a) X.env hds) (SP X pins D) X.xe { s' with heap := g3 } := by
  have okX := J.ok
  have away : ∀ {h : Heap} {o : Obj} {vs : Array Value}, h.FunFrames B (X.env :: X.outer) → h.get? a = some o → o.data = .fields vs → a ≠ X.env.locals ∧ a ∉ X.fs := fun {h o vs} ff e dd => by
    have no : a ∉ frs (X.env :: X.outer) := fun hm => by
      obtain ⟨_, o2, e2, nf⟩ := ff.mem hm
      rw [e2] at e
      cases e
      exact nf _ dd
    refine ⟨fun z => no (List.mem_filterMap.mpr ⟨X.env, .head _, by rw [z]; exact hf⟩), fun hm => ?_⟩
    obtain ⟨en, h1, h2⟩ := List.mem_filterMap.mp hm
    exact no (List.mem_filterMap.mpr ⟨en, .tail _ h1, h2⟩)
  obtain ⟨o3, v3, e3, z3, d3⟩ := fl.there
  obtain ⟨nL, nF⟩ := away fl.2.2.1 e3 d3
  have J3 : Inv X pins σ H { s' with heap := g3 } := J.landed nb fl.1 up os ag
  have S3 := J3.suite e3 d3 na nL nF
  induction hk with
  | nil => exact w.elim
  | @cons x n i c ts t0 ss np q hds2 l2 hi hl hc hsu r ih =>
    obtain ⟨b, hb, yes, no⟩ := w
    refine wpAny_handleBy_cons (codeAny_handlers_test ?_) (fun z => by cases z)
    have LT : PySem.W.Looks (model X.prog X.w) g3 (typeOf (.ref a)) cls := fun A Q E s k z => wpAny_typeOf_ref (k _ _ e3) (by rw [z3.1]; exact z)
    have LM := PySem.W.exm_one (M := model X.prog X.w) J3.kIn LT hb
    have named : ∀ {Q : Value → Shared → Prop} {E : Value → Shared → Prop}, Q c { s' with heap := g3 } → wpAny (model X.prog X.w) (X.A.mark (some (.ref a))) (PySem.eval (.Name x np) X.env) Q E { s' with heap := g3 } := fun {Q E} z => by
      obtain ⟨h1, h2, h3 | ⟨h3, h4, h5⟩⟩ := hc
      · exact ld_glob (X := X.suite a ((a, o3) :: (X.pn ++ pins))) S3 h1 h3 z h2
      · exact ld_blt (X := X.suite a ((a, o3) :: (X.pn ++ pins))) S3 h1 h3 h4 z h5 h2
    refine named (LM.here ?_)
    cases b with
    | false =>
      show wpAny _ X.A (handleBy (.ref a) X.env hds2) _ _ _
      exact ih (no rfl)
    | true =>
      refine codeAny_handlers_suite_as (HandSPX.lands_againZ fl fun g4 fl4 up4 => ?_)
      obtain ⟨o4, v4, e4, z4, d4⟩ := fl4.there
      have J4 : Inv X pins σ H { s' with heap := g4 } := J.landed nb fl4.1 (up.trans up4) os ag
      have S4 := J4.suite e4 d4 na nL nF
      refine store_ok (X := X.suite a ((a, o4) :: (X.pn ++ pins))) (v := .ref a) S4 hN hi (.inl hl) rfl (fun s5 S5 => ?_) (.inr hl)
      refine wpAny_mono ((hsu a o4 cls d (X.pn ++ pins) z4 ⟨_, d4⟩).run [] s5 _ H _ S5 (yes rfl a na)) (fun f s6 hsp => ?_) (fun _ _ z => z.elim)
      have fin : ∀ {z6 : St} {G6 : Hp} {Q : Shared → Prop}, Inv (X.suite a ((a, o4) :: (X.pn ++ pins))) [] z6 G6 s6 → (∀ s7, Inv X pins (z6.set i none) G6 s7 → Q s7) →
          wpAny (model X.prog X.w) X.A (do bindName X.env n .none; unbindBehindTheSuite X.env n q) (fun _ s7 => Q s7) X.xe s6 := fun {z6 G6 Q} T6 hq => gone_ok (T6.unsuite okX) hN hi hl hq
      cases f with
      | next => obtain ⟨z6, G6, T6, q6⟩ := hsp; exact fin T6 fun s7 J7 => ⟨_, _, J7, q6⟩
      | brk => obtain ⟨z6, G6, T6, q6⟩ := hsp; exact fin T6 fun s7 J7 => ⟨_, _, J7, q6⟩
      | cont => obtain ⟨z6, G6, T6, q6⟩ := hsp; exact fin T6 fun s7 J7 => ⟨_, _, J7, q6⟩
      | ret u => obtain ⟨v6, z6, G6, T6, r6, q6⟩ := hsp; exact fin T6 fun s7 J7 => ⟨_, _, _, J7, r6, q6⟩
theorem ps_tryN (hs : X.stack = X.env :: X.outer) (hf : X.env.frame = some X.env.locals) (hN : X.N.Nodup)
    (hb : ∀ (W : WX) (pn : List (Addr × Obj)) (xe : Value → Shared → Prop), Takes (X.tr pn xe) W → PSs (X.tr pn xe) bd (tb W)) {hd0 : ExceptHandler} (hk : HdN X (hd0 :: hds) l) : PS X (.Try bd (hd0 :: hds) [] [] pos) (fun D σ H => tb (wNm X.K D l) D σ H) := by
  refine ⟨fun pins s σ H D I h => ?_⟩
  have okX := I.ok
  have hfr : X.A.frames = some (X.env :: X.outer) := by rw [okX.frames, hs]
  refine wpAny_Try_except ?_
  refine wpAny_mono ((hb (wNm X.K D l) (X.pn ++ pins) (fun e s₁ => wpAny (model X.prog X.w) X.A (noteFrame e X.env) (fun _ s₂ => wpAny (model X.prog X.w) X.A (setFlight e none) (fun _ s₃ =>
    wpAny (model X.prog X.w) X.A (handleBy e X.env (hd0 :: hds)) (SP X pins D) X.xe s₃) X.xe s₂) X.xe s₁) (fun u s' xx => ?_)).run [] s σ H D (I.toTry _) h) (fun f s1 sp => ?_) (fun e s1 z => z)
  · obtain ⟨a, B, sI, pins', z, G, cls, d, rfl, J', nb, up, sky, na, os, ag, w⟩ := xx
    have J : Inv X pins z G sI := J'.ofTry okX
    have sk : Sky B (X.env :: X.outer) a (Zc cls d) X.env.locals s'.heap := by rw [← hs]; exact sky
    show wpAny (model X.prog X.w) X.A (noteFrame (.ref a) X.env) _ _ _
    exact Sky.land Zc.steady hfr hf sk fun g3 fl up3 => clauses (pins' := pins') hN hf hs J nb (up.trans up3) fl na os ag hk w
  · cases f with
    | next => obtain ⟨z, G, J, q⟩ := sp; exact wpAny_execs_nil ⟨z, G, J.ofTry okX, q⟩
    | brk => obtain ⟨z, G, J, q⟩ := sp; exact ⟨z, G, J.ofTry okX, q⟩
    | cont => obtain ⟨z, G, J, q⟩ := sp; exact ⟨z, G, J.ofTry okX, q⟩
    | ret u => obtain ⟨v, z, G, J, r, q⟩ := sp; exact ⟨v, z, G, J.ofTry okX, r, q⟩
end
end Ea
end
section
set_option Elab.async false
set_option linter.all false
set_option maxRecDepth 100000
set_option maxHeartbeats 4000000
namespace Ea
open PySem PySem.Spec L2
open PyProof.Rows hiding St
section
variable {P : Program} {w : World} {K : PySem.W.Frag} {mg : Str → Option Value} {base : Heap}
abbrev s_spot_sure : Stmt := topS 46
abbrev N_spot_sure : List Str := ["orders", "lefts", "number", "piece", "own", "told", "whole", "later"]
theorem sc_spot_sure : FnScope N_spot_sure ["orders", "lefts", "number", "piece"] (defScope s_spot_sure) := ⟨rfl, rfl, rfl, by decide +kernel, rfl, by decide +kernel, by decide +kernel⟩
def b_spot_sure : DR := (rSeq (rOf (sAsg (eCall d_lefts_sure (aCons (eV 0) (aCons (eV 1) aNil))) (gTupD 2 (gsCons (gN 4) (gsCons (gN 5) gsNil))))) (rSeq (rOf (sIf (tOrD (tNotD (bO (eCall d_is_number (aCons (eV 2) aNil)))) (tNotD (bO (eCall d_is_number (aCons (eV 3) aNil))))) sNo sNil)) (rSeq (rOf (sSet 6 (eCall d_put_together (aCons (eCall d_lefts_worths (aCons (eV 4) (aCons (eV 5) aNil))) aNil)))) (rSeq (rIf (tOrD (tNotD (bO (eCh gLe gLt (eC (.int 0)) (eV 2) (eCall gLen (aCons (eV 4) aNil))))) (bO (e2 gNotIn (eV 3) (e2 gIx (eV 5) (eV 2))))) (fun ρ => ((eTup (aCons (eV 2) (aCons (eV 3) aNil))) ρ).map fun d => .bad (.np d)) (fun ρ => some (.nx ρ))) (rSeq (rOf (sSet 7 (eCall d_pieces_for (aCons (e2 gAnd (eCall d_bits_for (aCons (e2 gIx (eV 5) (eV 2)) aNil)) (e1 gInv (e2 gIx (eCall d_tops_by_bits (aCons (e2 gIx (eV 4) (eV 2)) aNil)) (eV 3)))) aNil)))) (rOf (sRet (eTup (aCons (eV 4) (aCons (eV 5) (aCons (eV 6) (aCons (e2 gAdd (e2 gAdd (eCut (eV 5) pNo (pSome (eV 2))) (eTup (aCons (eV 7) aNil))) (eCut (eV 5) (pSome (e2 gAdd (eV 2) (eC (.int 1)))) pNo)) aNil))))))))))))
def d_spot_sure : List PyData → Option Rs := defR 4 8 b_spot_sure
theorem ok_spot_sure {f CN NP fI : Addr} {fd : FuncData} (F : Fun K "spot_sure" "spot_sure" s_spot_sure f fd) (T : Tp mg) (kC : CnK K CN) (kN : NpK P K NP fI) (mC : mg "CanNot" = some (.ref CN)) (mN : mg "NoPiece" = some (.ref NP)) (hsu : mg "super" = none) (c_lefts_sure : CallD P w K mg base "lefts_sure" 11 2 d_lefts_sure) (c_is_number : CallD P w K mg base "is_number" 1 1 d_is_number) (c_put_together : CallD P w K mg base "put_together" 1 1 d_put_together) (c_lefts_worths : CallD P w K mg base "lefts_worths" 5 2 d_lefts_worths) (c_pieces_for : CallD P w K mg base "pieces_for" 1 1 d_pieces_for) (c_bits_for : CallD P w K mg base "bits_for" 1 1 d_bits_for) (c_tops_by_bits : CallD P w K mg base "tops_by_bits" 1 1 d_tops_by_bits) : FnOk P w K mg base (L2.CX P w) 12 f fd ["orders", "lefts", "number", "piece"] (spR 4 CN NP d_spot_sure) :=
  okR (k := 11) (g := b_spot_sure) F sc_spot_sure rfl rfl (by decide) rfl fun cdv A outer s H E hr => (rs_cons (r_of (s_asg (e_callD c_lefts_sure (hr.mono (by decide)) (fun _ _ h => defD_len h) rfl (a_cons (v 0) (a_cons (v 1) a_nil))) (g_tup rfl (gs_cons (g_name (i := 4) sc_spot_sure.nd rfl (by first | exact Or.inl rfl | exact Or.inr rfl)) (gs_cons (g_name (i := 5) sc_spot_sure.nd rfl (by first | exact Or.inl rfl | exact Or.inr rfl)) gs_nil))))) (rs_cons (r_of (s_if (PW.pt (w_or (t_not (t_val (e_callD c_is_number (hr.mono (by decide)) (fun _ _ h => defD_len h) rfl (a_cons (v 2) a_nil)))) (w_or1 (t_not (t_val (e_callD c_is_number (hr.mono (by decide)) (fun _ _ h => defD_len h) rfl (a_cons (v 3) a_nil))))))) (ss_one s_never) ss_nil)) (rs_cons (r_of (s_set (i := 6) sc_spot_sure.nd rfl (by first | exact Or.inl rfl | exact Or.inr rfl) (e_callD c_put_together (hr.mono (by decide)) (fun _ _ h => defD_len h) rfl (a_cons (e_callD c_lefts_worths (hr.mono (by decide)) (fun _ _ h => defD_len h) rfl (a_cons (v 4) (a_cons (v 5) a_nil))) a_nil)))) (rs_cons (r_if (PW.pt (w_or (t_not (t_chain oLe oLt e_int (v 2) (e_callB cLen rfl T.len PySem.boot_len (a_cons (v 4) a_nil)))) (w_or1 (t_cmp oNotIn (v 3) (e_ix (v 5) (v 2)))))) (rs_one (r_np (k := 0) rfl (L2.takes_of rfl rfl rfl rfl) kN (hr.mono (by decide)) rfl mN hsu (e_tup (a_cons (v 2) (a_cons (v 3) a_nil))))) rs_nil) (rs_cons (r_of (s_set (i := 7) sc_spot_sure.nd rfl (by first | exact Or.inl rfl | exact Or.inr rfl) (e_callD c_pieces_for (hr.mono (by decide)) (fun _ _ h => defD_len h) rfl (a_cons (e_op oAnd (e_callD c_bits_for (hr.mono (by decide)) (fun _ _ h => defD_len h) rfl (a_cons (e_ix (v 5) (v 2)) a_nil)) (e_inv (e_ix (e_callD c_tops_by_bits (hr.mono (by decide)) (fun _ _ h => defD_len h) rfl (a_cons (e_ix (v 4) (v 2)) a_nil)) (v 3)))) a_nil)))) (rs_one (r_of (s_ret (e_tup (a_cons (v 4) (a_cons (v 5) (a_cons (v 6) (a_cons (e_op oAdd (e_op oAdd (e_cut (v 5) p_no (p_some (v 2))) (e_tup (a_cons (v 7) a_nil))) (e_cut (v 5) (p_some (e_op oAdd (v 2) e_int)) p_no)) a_nil)))))))))))))
def dk_spot_sure (ds : List PyData) : Option PyData := okOf (d_spot_sure ds)
theorem dk_len_spot_sure {ds : List PyData} {d : PyData} (h : dk_spot_sure ds = some d) : ds.length = 4 := defR_len (okOf_some h)
abbrev s_behind_spot : Stmt := topS 51
abbrev N_behind_spot : List Str := ["orders", "lefts", "number", "piece"]
theorem sc_behind_spot : FnScope N_behind_spot ["orders", "lefts", "number", "piece"] (defScope s_behind_spot) := ⟨rfl, rfl, rfl, by decide +kernel, rfl, by decide +kernel, by decide +kernel⟩
def b_behind_spot : DR := (rRet (xIx (fun ρ => ((aCons (eV 0) (aCons (eV 1) (aCons (eV 2) (aCons (eV 3) aNil)))) ρ).bind d_spot_sure) (eC (.int 3))))
def d_behind_spot : List PyData → Option Rs := defR 4 4 b_behind_spot
theorem ok_behind_spot {f CN NP fI : Addr} {fd : FuncData} (F : Fun K "behind_spot" "behind_spot" s_behind_spot f fd) (T : Tp mg) (kC : CnK K CN) (kN : NpK P K NP fI) (mC : mg "CanNot" = some (.ref CN)) (mN : mg "NoPiece" = some (.ref NP)) (hsu : mg "super" = none) (c_spot_sure : CallX P w K mg base CN NP "spot_sure" 12 4 d_spot_sure) : FnOk P w K mg base (L2.CX P w) 13 f fd ["orders", "lefts", "number", "piece"] (spR 4 CN NP d_behind_spot) :=
  okR (k := 12) (g := b_behind_spot) F sc_behind_spot rfl rfl (by decide) rfl fun cdv A outer s H E hr => (rs_one (r_ret (e_ixX (e_callXD c_spot_sure (passes_call (L2.takes_of rfl rfl rfl rfl) fun _ _ _ _ h => h) (hr.mono (by decide)) (fun _ _ h => defR_len h) rfl (a_cons (v 0) (a_cons (v 1) (a_cons (v 2) (a_cons (v 3) a_nil))))) e_int)))
def dk_behind_spot (ds : List PyData) : Option PyData := okOf (d_behind_spot ds)
theorem dk_len_behind_spot {ds : List PyData} {d : PyData} (h : dk_behind_spot ds = some d) : ds.length = 4 := defR_len (okOf_some h)
abbrev s_answer_spot : Stmt := topS 52
abbrev N_answer_spot : List Str := ["orders", "lefts", "number", "piece", "own", "told", "whole", "later"]
theorem sc_answer_spot : FnScope N_answer_spot ["orders", "lefts", "number", "piece"] (defScope s_answer_spot) := ⟨rfl, rfl, rfl, by decide +kernel, rfl, by decide +kernel, by decide +kernel⟩
def b_answer_spot : DR := (rSeq (rAsg (fun ρ => ((aCons (eV 0) (aCons (eV 1) (aCons (eV 2) (aCons (eV 3) aNil)))) ρ).bind d_spot_sure) (gTupD 4 (gsCons (gN 4) (gsCons (gN 5) (gsCons (gN 6) (gsCons (gN 7) gsNil)))))) (rSeq (rIf (bO (e2 gNeI (eV 6) (eC (.int 0)))) (fun _ => some (.bad .can)) (fun ρ => some (.nx ρ))) (rOf (sRet (e2 gIx (eCall d_winning_in (aCons (eV 4) (aCons (eV 7) aNil))) (eC (.int 0)))))))
def d_answer_spot : List PyData → Option Rs := defR 4 8 b_answer_spot
theorem ok_answer_spot {f CN NP fI : Addr} {fd : FuncData} (F : Fun K "answer_spot" "answer_spot" s_answer_spot f fd) (T : Tp mg) (kC : CnK K CN) (kN : NpK P K NP fI) (mC : mg "CanNot" = some (.ref CN)) (mN : mg "NoPiece" = some (.ref NP)) (hsu : mg "super" = none) (c_spot_sure : CallX P w K mg base CN NP "spot_sure" 12 4 d_spot_sure) (c_winning_in : CallD P w K mg base "winning_in" 6 2 d_winning_in) : FnOk P w K mg base (L2.CX P w) 13 f fd ["orders", "lefts", "number", "piece"] (spR 4 CN NP d_answer_spot) :=
  okR (k := 12) (g := b_answer_spot) F sc_answer_spot rfl rfl (by decide) rfl fun cdv A outer s H E hr => (rs_cons (r_asg (e_callXD c_spot_sure (passes_call (L2.takes_of rfl rfl rfl rfl) fun _ _ _ _ h => h) (hr.mono (by decide)) (fun _ _ h => defR_len h) rfl (a_cons (v 0) (a_cons (v 1) (a_cons (v 2) (a_cons (v 3) a_nil))))) (g_tup rfl (gs_cons (g_name (i := 4) sc_answer_spot.nd rfl (by first | exact Or.inl rfl | exact Or.inr rfl)) (gs_cons (g_name (i := 5) sc_answer_spot.nd rfl (by first | exact Or.inl rfl | exact Or.inr rfl)) (gs_cons (g_name (i := 6) sc_answer_spot.nd rfl (by first | exact Or.inl rfl | exact Or.inr rfl)) (gs_cons (g_name (i := 7) sc_answer_spot.nd rfl (by first | exact Or.inl rfl | exact Or.inr rfl)) gs_nil)))))) (rs_cons (r_if (t_cmp oNeI (v 6) e_int) (rs_one (r_can rfl (L2.takes_of rfl rfl rfl rfl) kC rfl mC)) rs_nil) (rs_one (r_of (s_ret (e_ix (e_callD c_winning_in (hr.mono (by decide)) (fun _ _ h => defD_len h) rfl (a_cons (v 4) (a_cons (v 7) a_nil))) e_int))))))
def dk_answer_spot (ds : List PyData) : Option PyData := okOf (d_answer_spot ds)
theorem dk_len_answer_spot {ds : List PyData} {d : PyData} (h : dk_answer_spot ds = some d) : ds.length = 4 := defR_len (okOf_some h)
abbrev s_is_answer_spot : Stmt := topS 53
abbrev N_is_answer_spot : List Str := ["orders", "lefts", "number", "piece", "thing", "own", "told", "whole", "later"]
theorem sc_is_answer_spot : FnScope N_is_answer_spot ["orders", "lefts", "number", "piece", "thing"] (defScope s_is_answer_spot) := ⟨rfl, rfl, rfl, by decide +kernel, rfl, by decide +kernel, by decide +kernel⟩
def b_is_answer_spot : DS := (sSeq (sAsg (eCall dk_spot_sure (aCons (eV 0) (aCons (eV 1) (aCons (eV 2) (aCons (eV 3) aNil))))) (gTupD 4 (gsCons (gN 5) (gsCons (gN 6) (gsCons (gN 7) (gsCons (gN 8) gsNil)))))) (sRet (eAnd (eCall d_is_spot (aCons (eV 4) aNil)) (e2 gInT (eV 4) (eCall d_winning_in (aCons (eV 5) (aCons (eV 8) aNil)))))))
def d_is_answer_spot : List PyData → Option PyData := defD 5 9 b_is_answer_spot
theorem ok_is_answer_spot {f : Addr} {fd : FuncData} (F : Fun K "is_answer_spot" "is_answer_spot" s_is_answer_spot f fd) (T : Tp mg) (c_spot_sure : CallD P w K mg base "spot_sure" 12 4 dk_spot_sure) (c_is_spot : CallD P w K mg base "is_spot" 2 1 d_is_spot) (c_winning_in : CallD P w K mg base "winning_in" 6 2 d_winning_in) : FnOk P w K mg base CX0 13 f fd ["orders", "lefts", "number", "piece", "thing"] (spP 5 d_is_answer_spot) :=
  okP (k := 12) (g := b_is_answer_spot) F sc_is_answer_spot rfl rfl (by decide) rfl fun cdv A outer s H E hr => (ss_cons (s_asg (e_callD c_spot_sure (hr.mono (by decide)) (fun _ _ h => dk_len_spot_sure h) rfl (a_cons (v 0) (a_cons (v 1) (a_cons (v 2) (a_cons (v 3) a_nil))))) (g_tup rfl (gs_cons (g_name (i := 5) sc_is_answer_spot.nd rfl (by first | exact Or.inl rfl | exact Or.inr rfl)) (gs_cons (g_name (i := 6) sc_is_answer_spot.nd rfl (by first | exact Or.inl rfl | exact Or.inr rfl)) (gs_cons (g_name (i := 7) sc_is_answer_spot.nd rfl (by first | exact Or.inl rfl | exact Or.inr rfl)) (gs_cons (g_name (i := 8) sc_is_answer_spot.nd rfl (by first | exact Or.inl rfl | exact Or.inr rfl)) gs_nil)))))) (ss_one (s_ret (e_and (e_callD c_is_spot (hr.mono (by decide)) (fun _ _ h => defD_len h) rfl (a_cons (v 4) a_nil)) (e_one (e_cmp (oInT hr.u65) (v 4) (e_callD c_winning_in (hr.mono (by decide)) (fun _ _ h => defD_len h) rfl (a_cons (v 5) (a_cons (v 8) a_nil)))))))))
end
end Ea
end
section
set_option Elab.async false
set_option linter.all false
set_option maxRecDepth 100000
set_option maxHeartbeats 4000000
/-! EaW: _law_heard: a def chosen from a list, called by keywords in a try -/
namespace Ea
open PySem PySem.Spec L2
open PyProof.Rows hiding St
theorem StR.setNo {F0 H0 F H : Hp} {σ : St} {ρ : En} (h : StR F0 H0 ρ F σ H) (i : Nat) (y : Option V) : StR F0 H0 (ρ.set i .no) F (σ.set i y) H := by
  refine ⟨⟨by simp [h.env.len], fun {j t} e => ?_⟩, h.fh, h.ff, h.hh, h.nw, fun j z t a e1 e2 ha => ?_, fun j k z z' t t' a ne e1 e2 e3 e4 h1 h2 => ?_⟩
  · rcases set_get e with ⟨rfl, rfl, hl⟩ | ⟨nj, e2⟩
    · exact ⟨y, List.getElem?_set_self (by rw [h.env.len]; exact hl), trivial⟩
    · obtain ⟨z, q, r⟩ := h.env.get e2
      exact ⟨z, by rw [List.getElem?_set_ne (Ne.symm nj)]; exact q, r⟩
  · rcases set_get e2 with ⟨rfl, rfl, _⟩ | ⟨nj, e2⟩
    · exact ha.elim
    · rw [List.getElem?_set_ne (Ne.symm nj)] at e1
      exact h.od j z t a e1 e2 ha
  · rcases set_get e2 with ⟨rfl, rfl, _⟩ | ⟨nj, e2⟩
    · exact h1.elim
    · rcases set_get e4 with ⟨rfl, rfl, _⟩ | ⟨nk, e4⟩
      · exact h2.elim
      · rw [List.getElem?_set_ne (Ne.symm nj)] at e1
        rw [List.getElem?_set_ne (Ne.symm nk)] at e3
        exact h.dj j k z z' t t' a ne e1 e2 e3 e4 h1 h2
theorem StR.forget {F0 H0 F H : Hp} {σ : St} {ρ : En} (h : StR F0 H0 ρ F σ H) (i : Nat) : StR F0 H0 (ρ.set i .no) F σ H := by
  have k := h.setNo i (σ[i]?.getD none)
  by_cases hi : i < σ.length
  · rw [List.getElem?_eq_getElem hi, Option.getD_some, List.set_getElem_self] at k
    exact k
  · rw [List.set_eq_of_length_le (l := σ) (by omega)] at k
    exact k
section
variable {X : Cx} {e a b : Expr} {pos q : Pos}
/-- [f, g][k](x = ..): the def is a list's item -/
def tCallL (X : Cx) (W : WX) (tf : TE) (ks : List Str) (tk : TA) : TE := fun σ H Q => tf σ H fun v H1 => ∃ (f : Addr) (k : Nat) (fd : FuncData) (ps : List Str) (sp : Sp) (g : List Value → List Value → List Value) (gV : List V → List V → List V),
  v = .ref f ∧ FnOk X.prog X.w X.K X.mg X.base (L2.CX X.prog X.w) k f fd ps sp ∧ Room k X.A ∧ PySem.W.keepIn X.K (.ref f) = true ∧ KBinds X.K fd ps ks g gV ∧ tk σ H1 fun zs H2 => sp (gV [] zs) H2 Q fun cls d H' => W cls d σ H'
theorem pe_callL {W : WX} {tf : TE} {tk : TA} {ks : List Str} {kws : List Keyword} (tkW : Takes X W) (hf : PE X (.Subscript a b q) tf) (hkw : PK X kws tk) (hall : (backToKw pos (keywordEach kws X.env)).all (·.1.isSome) = true := by rfl) (hks : (backToKw pos (keywordEach kws X.env)).filterMap (·.1) = ks := by rfl)
    (hpl : ((backTo pos (starEach [] X.env)).any (·.1) || (backToKw pos (keywordEach kws X.env)).any (·.1.isNone)) = false := by rfl) : PE X (.Call (.Subscript a b q) [] kws pos) (tCallL X W tf ks tk) := by
  refine ⟨fun pins s σ H Q I h => ?_⟩
  have he : PySem.eval (.Call (.Subscript a b q) [] kws pos) X.env = (do callWith pos (← PySem.eval (.Subscript a b q) X.env) [] (backTo pos (starEach [] X.env)) (backToKw pos (keywordEach kws X.env))) := rfl
  rw [he]
  refine wpAny_bind (thn (hf.run pins s σ H _ I h) fun u s1 ⟨v, H1, I1, rv, f, k, fd, ps, sp, g, gV, ev, F, hr, kp, hb, q1⟩ => ?_)
  subst ev
  obtain rfl : u = Value.ref f := rv
  refine PySem.W.callWith_KW0 (h₀ := X.base) I1.ok.mod.kin kp hall ?_ hpl
  refine thn (hkw.run pos pins s1 σ H1 _ I1 q1) fun ws s2 ⟨zs, H2, I2, rz, q2⟩ => ⟨I2.kIn, ?_⟩
  rw [hks]
  have r2 := hb.rel (vs := []) (us := []) .nil rz
  have hl : (g [] ws).length = ps.length := by rw [← r2.length]; exact F.len _ _ _ _ q2
  refine wpAny_call (codeAny_mono (F.run X.A X.stack s2 H2 ⟨[], ks.zip ws⟩ (g [] ws) (gV [] zs) Q _ hr I2.env0 (hb.to s2 [] ws I2.kIn hl) r2 q2) fun r s' hq => ?_)
  cases r with
  | error e => exact passAt tkW σ pins H2 s2 e s' I2 hq
  | ok fl =>
    cases fl with
    | ret u => exact I2.after hq
    | next => exact hq.elim
    | brk => exact hq.elim
    | cont => exact hq.elim
/-- isinstance(e, T) of the exception that a suite holds, with or without fields -/
def rIsX (K : PySem.W.Frag) (D a : Addr) (cls : Value) (d : Option Addr) : List V → Hp → VK → Prop := fun xs H Q => cls = .ref D ∧ (d = none ∨ ∃ dd fs, d = some dd ∧ H dd = some (.xd fs)) ∧
  ∃ (c : V) (cv : Value) (b : Bool), xs = [.ref a, c] ∧ (∀ u, RelV c u → u = cv) ∧ PySem.W.kitOne K (.ref D) cv = some b ∧ Q (.bl b) H
theorem call_isX {a D : Addr} {oe : Obj} {cls : Value} {d : Option Addr} {pn : List (Addr × Obj)} (C : ExcC X.K D) (hz : Zc cls d oe) (hf : ∃ vs, oe.data = .fields vs) : CallR (X.suite a ((a, oe) :: pn)) (.builtin "isinstance") (rIsX X.K D a cls d) := by
  intro pins s σ H xs us Q I r h
  obtain ⟨ec, hd, c, cv, b, rfl, hcv, e, q⟩ := h
  cases r with
  | cons rx rr =>
  cases rr with
  | cons rt rr =>
  cases rr
  cases rx
  obtain rfl := hcv _ rt
  obtain ⟨hget, _⟩ := I.pin (a, oe) (List.mem_append.mpr (.inl (.head _)))
  obtain ⟨vs, hv⟩ := hf
  have hcl : (PySem.W.clsIn X.K D).isSome = true := by obtain ⟨cd, hc, _⟩ := PySem.W.any_some C.hd; rw [hc]; rfl
  have nc : PySem.W.notCls oe = true := by unfold PySem.W.notCls; rw [hv]
  obtain ⟨od, J⟩ : ∃ od, PySem.W.InstAt s.heap a oe D od := by
    rcases hd with hd | ⟨dd, fs, hd, hH⟩
    · exact ⟨none, hget, hz.1.trans ec, nc, by rw [hz.2, hd]; trivial⟩
    · have hx : ObjOk X.prog X.w H s.heap dd (.xd fs) := I.hok dd _ hH
      obtain ⟨mA, ⟨o, es, ep, ho, hr⟩, _⟩ := hx
      exact ⟨some o, hget, hz.1.trans ec, nc, by rw [hz.2, hd]; exact ho⟩
  exact PySem.W.kia_one (PySem.W.kitx_exc hcl C.hg C.hk C.hs C.ha C.hn C.ht C.hm) I.kIn J e (fun z => nomatch z) fun tk => ⟨.bl b, H, I.kept (t' := tk) fun _ _ z => z, rfl, q⟩
end
/-! ### the def -/
def hDoor (gb ga : List PyData → Option Rs) : PyData → List PyData → Option Rs
  | .int i, ds => if i = 0 then gb ds else if i = 1 then ga ds else none
  | _, _ => none
def hRes : Rs → PyData
  | .ok d => d
  | .can => .list [.str "can not", .bool true]
  | .np p => .list [.str "piece", p, .bool true]
def sTry (gb ga : List PyData → Option Rs) : DS := fun ρ => if ρ.length = 8 then (eV 0 ρ).bind fun door => (aCons (eV 1) (aCons (eV 2) (aCons (eV 3) (aCons (eV 4) aNil))) ρ).bind fun ds => (hDoor gb ga door ds).map fun r => .nx (((ρ.set 5 (.d (hRes r))).set 6 .no).set 7 .no) else none
def kbG {α : Type} : List α → List α → List α
  | [], [a, b, c, d] => [d, c, b, a]
  | _, _ => []
structure HeardK (K : PySem.W.Frag) (CN NP : Addr) : Prop where
  e1 : PySem.W.exmOne K (.ref CN) (.ref CN) = some true
  e2 : PySem.W.exmOne K (.ref NP) (.ref CN) = some false
  e3 : PySem.W.exmOne K (.ref NP) (.ref NP) = some true
  k1 : PySem.W.kitOne K (.ref CN) (.type "ValueError") = some true
  k2 : PySem.W.kitOne K (.ref NP) (.type "LookupError") = some true
  cC : ExcC K CN
  cN : ExcC K NP
  xf : XfC K NP
  nf : PySem.W.findIn K (.ref NP) "piece" = some none
abbrev kw4 : List Str := ["piece", "number", "lefts", "orders"]
/-- a raising def of four parameters, to be called by keywords -/
structure CallKX (P : Program) (w : World) (K : PySem.W.Frag) (mg : Str → Option Value) (base : Heap) (CN NP : Addr) (x : Str) (k : Nat) (g : List PyData → Option Rs) : Prop where
  ex : ∃ f fd ps, FnOk P w K mg base (L2.CX P w) k f fd ps (spR 4 CN NP g) ∧ mg x = some (.ref f) ∧ PySem.W.keepIn K (.ref f) = true ∧ KBinds K fd ps kw4 kbG kbG
theorem kbG_rel {vs : List V} {us : List Value} {zs : List V} {ws : List Value} (r : Vals vs us) (rz : Vals zs ws) : Vals (kbG vs zs) (kbG us ws) := by
  cases r with
  | cons _ _ => exact .nil
  | nil =>
    cases rz with
    | nil => exact .nil
    | cons r1 t1 => cases t1 with
      | nil => exact .nil
      | cons r2 t2 => cases t2 with
        | nil => exact .nil
        | cons r3 t3 => cases t3 with
          | nil => exact .nil
          | cons r4 t4 => cases t4 with
            | nil => exact .cons r4 (.cons r3 (.cons r2 (.cons r1 .nil)))
            | cons _ _ => exact .nil
abbrev s_l_heard : Stmt := topS 81
abbrev N_l_heard : List Str := ["_law_door", "_law_nets", "_law_lefts_so", "_law_number_so", "_law_piece_so", "_law_found", "error_a", "error_b"]
theorem sc_l_heard : FnScope N_l_heard ["_law_door", "_law_nets", "_law_lefts_so", "_law_number_so", "_law_piece_so"] (defScope s_l_heard) := ⟨rfl, rfl, rfl, by decide +kernel, rfl, by decide +kernel, by decide +kernel⟩
def b_l_heard : DS := sSeq (sSet 5 (eC .none)) (sSeq (sTry d_behind_spot d_answer_spot) (sRet (eV 5)))
def d_l_heard : List PyData → Option PyData := defD 5 8 b_l_heard
/-- the reading of a suite's row [m, isinstance(e, T)] -/
def tsA (K : PySem.W.Frag) (CN : Addr) : Addr → Value → Option Addr → TS := fun a cls d => tAsg (tLst (tCons (tC (.str "can not")) (tCons (tCB (rIsX K CN a cls d) (tCons (tVar 6) (tCons (tC (.ty "ValueError")) tNil))) tNil))) (gName 5)
def tsB (K : PySem.W.Frag) (NP : Addr) : Addr → Value → Option Addr → TS := fun a cls d => tAsg (tLst (tCons (tC (.str "piece")) (tCons (tXf a cls d NP "piece" (tVar 7)) (tCons (tCB (rIsX K NP a cls d) (tCons (tVar 7) (tCons (tC (.ty "LookupError")) tNil))) tNil)))) (gName 5)
abbrev cls2 (K : PySem.W.Frag) (CN NP : Addr) : List Cl := [(.ref CN, 6, tsA K CN), (.ref NP, 7, tsB K NP)]
section
variable {P : Program} {w : World} {K : PySem.W.Frag} {mg : Str → Option Value} {base : Heap}
theorem ok_l_heard {f CN NP fb fa : Addr} {fd : FuncData} (F : Fun K "_law_heard" "_law_heard" s_l_heard f fd) (T : Tp mg) (hk : HeardK K CN NP) (mC : mg "CanNot" = some (.ref CN)) (mN : mg "NoPiece" = some (.ref NP)) (mV : mg "ValueError" = none) (mL : mg "LookupError" = none)
    (B : CallKX P w K mg base CN NP "behind_spot" 13 d_behind_spot) (A : CallKX P w K mg base CN NP "answer_spot" 13 d_answer_spot) : FnOk P w K mg base CX0 14 f fd ["_law_door", "_law_nets", "_law_lefts_so", "_law_number_so", "_law_piece_so"] (spP 5 d_l_heard) := by
  obtain ⟨fb, fdb, psb, Fb, mB, kB, KB⟩ := B.ex
  obtain ⟨fa, fda, psa, Fa, mA, kA, KA⟩ := A.ex
  refine toP (F.okX (k := 13) sc_l_heard (fun vs H Q E h => h.1) fun cdv Ar outer s H vs Q E hr h => ⟨tS b_l_heard, ?_, ?_⟩)
  · refine ss_cons (s_set (i := 5) sc_l_heard.nd rfl (.inl rfl) e_non) (ss_cons ?tr (ss_one (s_ret (v 5))))
    have hb : ∀ (W : WX) (pn : List (Addr × Obj)) (xe : Value → Shared → Prop), Takes ((cxOf (L2.CX P w) P w K mg base N_l_heard "_law_heard" (defScope s_l_heard) f cdv Ar outer s H E).tr pn xe) W → PSs ((cxOf (L2.CX P w) P w K mg base N_l_heard "_law_heard" (defScope s_l_heard) f cdv Ar outer s H E).tr pn xe)
        (match s_l_heard with | .FunctionDef (body := [_, .Try b _ _ _ _, _]) .. => b | _ => []) (tAsg (tCallL (cxOf (L2.CX P w) P w K mg base N_l_heard "_law_heard" (defScope s_l_heard) f cdv Ar outer s H E) W (tOp (rIxL K) (tLst (tCons (tC (.ref fb)) (tCons (tC (.ref fa)) tNil))) (tE (eV 0))) kw4 (tA (aCons (eV 4) (aCons (eV 3) (aCons (eV 2) (aCons (eV 1) aNil)))))) (gName 5)) := fun W pn xe tk =>
      pss_one (ps_set (i := 5) sc_l_heard.nd rfl (.inl rfl) (pe_callL tk (pe_ix ix_list (pe_lst (pa_cons (pe_glob (v := .ref fb) rfl mB rfl) (pa_cons (pe_glob (v := .ref fa) rfl mA rfl) pa_nil))) (v 0) fun _ _ => rfl) (k_cons (v 4) (k_cons (v 3) (k_cons (v 2) (k_cons (v 1) k_nil))))))
    refine PS.imp (ps_tryN (l := cls2 K CN NP) rfl rfl sc_l_heard.nd hb ?hd) ?im
    · exact .cons (i := 6) rfl rfl ⟨rfl, by decide, .inl mC⟩ (fun a oe cls d pn hz hf => pss_one (ps_set (i := 5) sc_l_heard.nd rfl (.inl rfl) (pe_lst (pa_cons pe_str (pa_cons (pe_callB (call_isX hk.cC hz hf) rfl T.isi boot_isinstance (pa_cons (pe_var (i := 6) rfl (.inl rfl)) (pa_cons (pe_bltn (v := .ty "ValueError") rfl mV boot_ValueError rfl) pa_nil))) pa_nil)))))
        (.cons (i := 7) rfl rfl ⟨rfl, by decide, .inl mN⟩ (fun a oe cls d pn hz hf => pss_one (ps_set (i := 5) sc_l_heard.nd rfl (.inl rfl) (pe_lst (pa_cons pe_str (pa_cons (pe_xf hk.xf hk.nf hz hf (pe_var (i := 7) rfl (.inl rfl))) (pa_cons (pe_callB (call_isX hk.cN hz hf) rfl T.isi boot_isinstance (pa_cons (pe_var (i := 7) rfl (.inl rfl)) (pa_cons (pe_bltn (v := .ty "LookupError") rfl mL (by decide +kernel) rfl) pa_nil))) pa_nil)))))) .nil)
    · intro D σ H ⟨F0, H0, F, ρ, out, s, q, k, _⟩
      unfold sTry at q
      split at q
      case isFalse => cases q
      rename_i h8
      have l8 : σ.length = 8 := by rw [s.env.len]; exact h8
      obtain ⟨door, hdo, q⟩ := Option.bind_eq_some_iff.mp q
      obtain ⟨ds, hds, q⟩ := Option.bind_eq_some_iff.mp q
      obtain ⟨r, hr', q⟩ := Option.map_eq_some_iff.mp q
      subst q
      obtain ⟨d1, h1, q1⟩ := Option.bind_eq_some_iff.mp hds
      obtain ⟨l1, q1, e1⟩ := Option.bind_eq_some_iff.mp q1
      obtain ⟨d2, h2, q2⟩ := Option.bind_eq_some_iff.mp q1
      obtain ⟨l2, q2, e2⟩ := Option.bind_eq_some_iff.mp q2
      obtain ⟨d3, h3, q3⟩ := Option.bind_eq_some_iff.mp q2
      obtain ⟨l3, q3, e3⟩ := Option.bind_eq_some_iff.mp q3
      obtain ⟨d4, h4, q4⟩ := Option.bind_eq_some_iff.mp q3
      obtain ⟨l4, q4, e4⟩ := Option.bind_eq_some_iff.mp q4
      cases q4
      cases e4
      cases e3
      cases e2
      cases e1
      have hrev : aCons (eV 4) (aCons (eV 3) (aCons (eV 2) (aCons (eV 1) aNil))) ρ = some [d4, d3, d2, d1] := by simp [aCons, aNil, h1, h2, h3, h4]
      unfold hDoor at hr'
      split at hr'
      case h_2 => cases hr'
      rename_i i _
      have back : ∀ (x5 : V) (d5 : PyData) (F' H' : Hp), Ext F H F' H' → Rp F' x5 d5 → d5 = hRes r → D.nx (σ.set 5 (some x5)) H' := fun x5 d5 F' H' x rv e => by
        subst e
        exact k _ rfl F' _ H' ((((s.ext x).setD rv).forget 6).forget 7)
      have ls : ∀ {F' G : Hp} {p : Addr} {vs : List V} {dd : List PyData}, Ext F H F' G → G p = none → RpL F' vs dd → Ext F H (upd F' p (.lst vs)) (upd G p (.lst vs)) ∧ Rp (upd F' p (.lst vs)) (.ref p) (.list dd) := fun {F' G p vs dd} x hp rr =>
        ⟨x.trans (Ext.alloc x.fh hp), .lst upd_same (rr.mono (same_upd (x.fh.noneL hp)))⟩
      have bad : ∀ F2 H2, Ext F H F2 H2 → Bad (fun cls d H' => wNm K D (cls2 K CN NP) cls d σ H') CN NP F2 H2 r := fun F2 H2 x => by
        refine ⟨fun e F3 H3 y => ?_, fun pd e v dx F3 H3 y rv hx => ?_⟩
        · subst e
          refine ⟨true, hk.e1, fun _ a ha => ?_, fun z => nomatch z⟩
          have x3 := x.trans y
          dsimp only [tsA, tAsg, tLst, tCons, tC, tCB, tVar, tNil, rIsX, gName, outE]
          refine ⟨.ref a, by simp [l8], rfl, .inl rfl, .ty "ValueError", .type "ValueError", true, rfl, fun u z => z, hk.k1, by show 2 ≤ sizeLine; rw [sizeLine_eq]; omega, fun p hp => ?_⟩
          obtain ⟨y1, y2⟩ := ls (dd := [.str "can not", .bool true]) x3 hp (.cons (.str _) (.cons (.bl _) .nil))
          have z := ((((s.setNo 6 (some (.ref a))).ext y1).setD (i := 5) y2).setNo 6 none).forget 7
          rw [List.set_comm _ _ (show (6 : Nat) ≠ 5 by decide), List.set_set] at z
          exact k _ rfl _ _ _ z
        · subst e
          refine ⟨false, hk.e2, (fun z => nomatch z), fun _ => ⟨true, hk.e3, fun _ a ha => ?_, fun z => nomatch z⟩⟩
          have x3 := x.trans y
          dsimp only [tsB, tAsg, tLst, tCons, tC, tCB, tVar, tNil, rIsX, gName, outE, tXf]
          refine ⟨.ref a, by simp [l8], rfl, rfl, dx, [("piece", v)], v, rfl, hx, rfl, .ref a, by simp [l8], rfl, .inr ⟨dx, _, rfl, hx⟩, .ty "LookupError", .type "LookupError", true, rfl, fun u z => z, hk.k2, by show 3 ≤ sizeLine; rw [sizeLine_eq]; omega, fun p hp => ?_⟩
          obtain ⟨y1, y2⟩ := ls (dd := [.str "piece", pd, .bool true]) x3 hp (.cons (.str _) (.cons rv (.cons (.bl _) .nil)))
          have z := ((((s.setNo 7 (some (.ref a))).ext y1).setD (i := 5) y2).setNo 7 none).forget 6
          rw [List.set_comm _ _ (show (7 : Nat) ≠ 5 by decide), List.set_set, List.set_comm _ _ (show (7 : Nat) ≠ 6 by decide)] at z
          exact k _ rfl _ _ _ z
      refine ⟨by show 2 ≤ sizeLine; rw [sizeLine_eq]; omega, fun p hp => ?_⟩
      have x1 : Ext F H F (upd H p (.lst [.ref fb, .ref fa])) := Ext.fresh s.fh hp
      refine ⟨F, ρ, .int i, x1.fh, s.env.ext x1, hdo, fun y F1 H1 x2 r1 => ?_⟩
      cases r1
      have run : ∀ (g : List PyData → Option Rs) (ff : Addr) (k : Nat) (fdd : FuncData) (pp : List Str), FnOk P w K mg base (L2.CX P w) k ff fdd pp (spR 4 CN NP g) → k ≤ 13 → PySem.W.keepIn K (.ref ff) = true → KBinds K fdd pp kw4 kbG kbG → g [d1, d2, d3, d4] = some r →
          tA (aCons (eV 4) (aCons (eV 3) (aCons (eV 2) (aCons (eV 1) aNil)))) σ H1 fun zs G => spR 4 CN NP g (kbG [] zs) G (fun v G' => D.nx (σ.set 5 (some v)) G') fun cls d H' => wNm K D (cls2 K CN NP) cls d σ H' := fun g ff k fdd pp Fg kl kp KB hg => by
        refine ⟨F1, ρ, [d4, d3, d2, d1], x2.fh, s.env.ext (x1.trans x2), hrev, fun zs F2 H2 x3 r3 => ?_⟩
        cases r3 with | cons a4 r3 =>
        cases r3 with | cons a3 r3 =>
        cases r3 with | cons a2 r3 =>
        cases r3 with | cons a1 r3 =>
        cases r3
        have xx := (x1.trans x2).trans x3
        exact ⟨rfl, F2, [d1, d2, d3, d4], r, xx.fh, .cons a1 (.cons a2 (.cons a3 (.cons a4 .nil))), hg, fun d e v F' H' x rv => by
          subst e
          exact back v d F' H' (xx.trans x) rv rfl, bad F2 H2 xx⟩
      refine ⟨p, [.ref fb, .ref fa], i, if i = 0 then .ref fb else .ref fa, rfl, rfl, SqL.of (x2.hh _ _ upd_same), ?_, ?_⟩
      · split
        · rename_i h0; subst h0; rfl
        · rename_i h0
          rw [if_neg h0] at hr'
          split at hr'
          · rename_i h1'; subst h1'; rfl
          · cases hr'
      · by_cases h0 : i = 0
        · rw [if_pos h0] at hr' ⊢
          exact ⟨fb, _, fdb, psb, _, kbG, kbG, rfl, Fb, (hr.mono (by decide)), kB, KB, run d_behind_spot fb _ fdb psb Fb (by decide) kB KB hr'⟩
        · rw [if_neg h0] at hr' ⊢
          by_cases h1' : i = 1
          · rw [if_pos h1'] at hr'
            exact ⟨fa, _, fda, psa, _, kbG, kbG, rfl, Fa, (hr.mono (by decide)), kA, KA, run d_answer_spot fa _ fda psa Fa (by decide) kA KA hr'⟩
          · rw [if_neg h1'] at hr'; cases hr'
  · obtain ⟨hl, F', ds, d, sm, r, q, k⟩ := h
    have hd := defD_len q
    unfold d_l_heard defD at q
    rw [if_pos hd] at q
    have st : StR F' H (startE N_l_heard.length ds) F' (L2.start N_l_heard vs) H := StR.start sm (start_env r (by show _ ≤ 8; omega)) startE_pure
    split at q
    · rename_i d' hg
      cases q
      exact ⟨F', H, F', _, _, st, hg, (fun ρ' e => nomatch e), fun d2 e v F2 H2 x2 r2 => by cases e; exact k v F2 H2 x2 r2⟩
    · rename_i ρ' hg
      cases q
      exact ⟨F', H, F', _, _, st, hg, (fun ρ2 e F2 σ2 H2 s2 => by cases e; exact k _ F2 H2 s2.out .non), (fun d2 e => nomatch e)⟩
    · cases q
end
end Ea
end
section
set_option Elab.async false
set_option linter.all false
set_option maxRecDepth 100000
set_option maxHeartbeats 4000000
/-! EaT: defs that draw: a list of three ints at t changes; what they give is told by a list of all that may come -/
namespace Ea
open PySem PySem.Spec L2
open PyProof.Rows hiding St
def CAP : Nat := 1099511627776
def TinAt (n : Nat) (H : Hp) (t : Addr) : Prop := ∃ a b c : Int, H t = some (.lst [.int a, .int b, .int c]) ∧ 0 ≤ a ∧ 0 ≤ b ∧ b < 4611686018427387904 ∧ 0 ≤ c ∧ c ≤ n
theorem TinAt.mono {n m : Nat} {H : Hp} {t : Addr} (h : TinAt n H t) (l : n ≤ m) : TinAt m H t := by
  obtain ⟨a, b, c, e, h1, h2, h3, h4, h5⟩ := h
  exact ⟨a, b, c, e, h1, h2, h3, h4, by omega⟩
theorem TinAt.keep {n : Nat} {H H' : Hp} {t : Addr} (h : TinAt n H t) (k : Same H H') : TinAt n H' t := by
  obtain ⟨a, b, c, e, r⟩ := h
  exact ⟨a, b, c, k _ _ e, r⟩
theorem TinAt.there {n : Nat} {H : Hp} {t : Addr} (h : TinAt n H t) : ∃ o, H t = some o := by
  obtain ⟨a, b, c, e, r⟩ := h
  exact ⟨_, e⟩
structure ExtT (t : Addr) (F H F' H' : Hp) : Prop where
  ff : Same F F'
  fh : Same F' H'
  hh : ∀ b o, b ≠ t → H b = some o → H' b = some o
  nw : ∀ b o, F' b = some o → F b = none → H b = none
theorem Ext.toT {t : Addr} {F H F' H' : Hp} (x : Ext F H F' H') : ExtT t F H F' H' := ⟨x.ff, x.fh, fun b o _ e => x.hh b o e, x.nw⟩
theorem ExtT.refl {t : Addr} {F H : Hp} (s : Same F H) : ExtT t F H F H := (Ext.refl s).toT
theorem ExtT.free {t b : Addr} {F H F' H' : Hp} (x : ExtT t F H F' H') (hb : b ≠ t) (n : H' b = none) : H b = none := by
  cases q : H b with
  | none => rfl
  | some o => rw [x.hh b o hb q] at n; cases n
theorem ExtT.trans {t : Addr} {F H F1 H1 F2 H2 : Hp} (a : ExtT t F H F1 H1) (b : ExtT t F1 H1 F2 H2) (nt : F1 t = none) (ht : ∃ o, H1 t = some o) : ExtT t F H F2 H2 :=
  ⟨a.ff.trans b.ff, b.fh, fun c o hc e => b.hh c o hc (a.hh c o hc e), fun c o h n => by
    cases q : F1 c with
    | some u => exact a.nw c u q n
    | none =>
      have z := b.nw c o h q
      exact a.free (fun e => by obtain ⟨w, hw⟩ := ht; rw [e, hw] at z; cases z) z⟩
theorem ExtT.ft {t : Addr} {F H F' H' : Hp} (x : ExtT t F H F' H') (n : F t = none) (h : ∃ o, H t = some o) : F' t = none := by
  cases q : F' t with
  | none => rfl
  | some u =>
    obtain ⟨o, ho⟩ := h
    rw [x.nw _ _ q n] at ho; cases ho
structure NSt (t : Addr) (n : Nat) (F H : Hp) (σ : St) (ρ : En) : Prop where
  fh : Same F H
  env : EnvR F H σ ρ
  z0 : σ[0]? = some (some (.ref t))
  ft : F t = none
  tin : TinAt n H t
  pu : ∀ (i : Nat) (s : Sl), ρ[i]? = some s → (∃ d, s = .d d) ∨ s = .no
theorem EnvR.extT {t : Addr} {F H F' H' : Hp} {σ : St} {ρ : En} (h : EnvR F H σ ρ) (pu : ∀ (i : Nat) (s : Sl), ρ[i]? = some s → (∃ d, s = .d d) ∨ s = .no) (ff : Same F F') : EnvR F' H' σ ρ :=
  ⟨h.len, fun {i s} e => by
    obtain ⟨y, q, r⟩ := h.get e
    refine ⟨y, q, ?_⟩
    rcases pu i s e with ⟨d, rfl⟩ | rfl
    · obtain ⟨v, e', rv⟩ := r
      exact ⟨v, e', rv.mono ff⟩
    · trivial⟩
theorem NSt.ext {t : Addr} {n m : Nat} {F H F' H' : Hp} {σ : St} {ρ : En} (h : NSt t n F H σ ρ) (x : ExtT t F H F' H') (i : TinAt m H' t) : NSt t m F' H' σ ρ :=
  ⟨x.fh, h.env.extT (t := t) h.pu x.ff, h.z0, x.ft h.ft h.tin.there, i, h.pu⟩
theorem NSt.mono {t : Addr} {n m : Nat} {F H : Hp} {σ : St} {ρ : En} (h : NSt t n F H σ ρ) (l : n ≤ m) : NSt t m F H σ ρ := ⟨h.fh, h.env, h.z0, h.ft, h.tin.mono l, h.pu⟩
abbrev LD := En → Option (List PyData × Nat)
def tN (f : LD) : TE := fun σ H Q => ∃ F ρ t n l c, NSt t n F H σ ρ ∧ f ρ = some (l, c) ∧ n + c ≤ CAP ∧ ∀ d ∈ l, ∀ v F' H', ExtT t F H F' H' → TinAt (n + c) H' t → Rp F' v d → Q v H'
/-- every one -/
def allD {α β : Type} (g : α → Option β) : List α → Option (List β)
  | [] => some []
  | a :: r => (g a).bind fun b => (allD g r).map (b :: ·)
theorem allD_mem {α β : Type} {g : α → Option β} : ∀ {l : List α} {m : List β}, allD g l = some m → ∀ a ∈ l, ∃ b ∈ m, g a = some b
  | x :: r, m, h, a, ha => by
    obtain ⟨b, hb, h⟩ := Option.bind_eq_some_iff.mp h
    obtain ⟨m', hm, e⟩ := Option.map_eq_some_iff.mp h
    subst e
    rcases List.mem_cons.mp ha with rfl | ha
    · exact ⟨b, .head _, hb⟩
    · obtain ⟨b', h1, h2⟩ := allD_mem hm a ha
      exact ⟨b', .tail _ h1, h2⟩
theorem allD_back {α β : Type} {g : α → Option β} : ∀ {l : List α} {m : List β}, allD g l = some m → ∀ b ∈ m, ∃ a ∈ l, g a = some b
  | [], m, h, b, hb => by cases h; cases hb
  | x :: r, m, h, b, hb => by
    obtain ⟨b1, hb1, h⟩ := Option.bind_eq_some_iff.mp h
    obtain ⟨m', hm, e⟩ := Option.map_eq_some_iff.mp h
    subst e
    rcases List.mem_cons.mp hb with rfl | hb
    · exact ⟨x, .head _, hb1⟩
    · obtain ⟨a, h1, h2⟩ := allD_back hm b hb
      exact ⟨a, .tail _ h1, h2⟩
def cross {α β γ : Type} (g : α → β → Option γ) (la : List α) (lb : List β) : Option (List γ) := (allD (fun a => allD (g a) lb) la).map List.flatten
theorem cross_mem {α β γ : Type} {g : α → β → Option γ} {la : List α} {lb : List β} {ls : List γ} (h : cross g la lb = some ls) {a : α} {b : β} (ha : a ∈ la) (hb : b ∈ lb) : ∃ c ∈ ls, g a b = some c := by
  obtain ⟨m, hm, e⟩ := Option.map_eq_some_iff.mp h
  subst e
  obtain ⟨r, hr, h1⟩ := allD_mem hm a ha
  obtain ⟨c, hc, h2⟩ := allD_mem h1 b hb
  exact ⟨c, List.mem_flatten.mpr ⟨r, hr, hc⟩, h2⟩
section
variable {X : Cx} {e a b c tg iter : Expr} {es : List Expr} {pos : Pos}
def nP (f : DE) : LD := fun ρ => (f ρ).map fun d => ([d], 0)
theorem n_of {f : DE} (h : PE X e (tE f)) : PE X e (tN (nP f)) := h.imp fun σ H Q ⟨F, ρ, t, n, l, c, s, q, hc, k⟩ => by
  obtain ⟨d, hd, e⟩ := Option.map_eq_some_iff.mp q
  cases e
  exact ⟨F, ρ, d, s.fh, s.env, hd, fun v F' H' x rv => k d (.head _) v F' H' x.toT (s.tin.keep x.hh) rv⟩
def n2 (g : PyData → PyData → Option PyData) (fa fb : LD) : LD := fun ρ => (fa ρ).bind fun p => (fb ρ).bind fun q => (cross g p.1 q.1).map fun ls => (ls, p.2 + q.2)
theorem n2_of {g : PyData → PyData → Option PyData} {fa fb : LD} {σ : St} {H : Hp} {Q : VK} (h : tN (n2 g fa fb) σ H Q) : tOp (rD g) (tN fa) (tN fb) σ H Q := by
  obtain ⟨F, ρ, t, n, l, c, s, q, hc, k⟩ := h
  obtain ⟨⟨la, ca⟩, ha, q⟩ := Option.bind_eq_some_iff.mp q
  obtain ⟨⟨lb, cb⟩, hb, q⟩ := Option.bind_eq_some_iff.mp q
  obtain ⟨ls, hl, e⟩ := Option.map_eq_some_iff.mp q
  cases e
  have hc' : n + (ca + cb) ≤ CAP := hc
  refine ⟨F, ρ, t, n, la, ca, s, ha, by omega, fun da hda v F1 H1 x1 i1 r1 => ?_⟩
  have s1 := s.ext x1 i1
  refine ⟨F1, ρ, t, n + ca, lb, cb, s1, hb, by omega, fun db hdb u F2 H2 x2 i2 r2 => ?_⟩
  have s2 := s1.ext x2 i2
  obtain ⟨d, hd, hg⟩ := cross_mem hl hda hdb
  refine ⟨F2, da, db, d, x2.fh, r1.mono x2.ff, r2, hg, fun z F3 H3 x3 r3 => k d hd z F3 H3 ((x1.trans x2 s1.ft i1.there).trans x3.toT s2.ft i2.there) ?_ r3⟩
  exact (i2.keep x3.hh).mono (by omega)
theorem n_op {op : Operator} {g : PyData → PyData → Option PyData} {fa fb : LD} (ho : OpR X (binaryOp op) (rD g)) (ha : PE X a (tN fa)) (hb : PE X b (tN fb)) : PE X (.BinOp a op b pos) (tN (n2 g fa fb)) := (pe_op ho ha hb).imp fun _ _ _ h => n2_of h
theorem n_ix {fa fb : LD} (ha : PE X a (tN fa)) (hb : PE X b (tN fb)) (hs : PlainIx b := by exact fun _ _ => rfl) : PE X (.Subscript a b pos) (tN (n2 gIx fa fb)) := (pe_ix ixD ha hb hs).imp fun _ _ _ h => n2_of h
/-! tests -/
abbrev LT := En → Option (List Bool × Nat)
def tTN (f : LT) : TT := fun σ H Q => ∃ F ρ t n l c, NSt t n F H σ ρ ∧ f ρ = some (l, c) ∧ n + c ≤ CAP ∧ ∀ d ∈ l, ∀ F' H', ExtT t F H F' H' → TinAt (n + c) H' t → Q d H'
def boolOf : PyData → Option Bool
  | .bool b => some b
  | _ => none
def dedB (l : List Bool) : List Bool := (if l.contains true then [true] else []) ++ (if l.contains false then [false] else [])
theorem dedB_mem {l : List Bool} {b : Bool} (h : b ∈ l) : b ∈ dedB l := by
  unfold dedB
  cases b with
  | true => rw [if_pos (List.contains_iff_mem.mpr h)]; exact .head _
  | false => exact List.mem_append_right _ (by rw [if_pos (List.contains_iff_mem.mpr h)]; exact .head _)
def nB (f : LD) : LT := fun ρ => (f ρ).bind fun p => (allD boolOf p.1).map fun l => (dedB l, p.2)
theorem n_cmp {op : CmpOp} {g : PyData → PyData → Option PyData} {fa fb : LD} (ho : OpR X (compareOp op) (rD g)) (ha : PE X a (tN fa)) (hb : PE X b (tN fb)) (hm : behindInMarks op b = false := by first | exact nomark _ | rfl) : PT X (.Compare a [op] [b] pos) (tTN (nB (n2 g fa fb))) :=
  (pt_cmpR ho ha hb hm).imp fun σ H Q ⟨F, ρ, t, n, l, c, s, q, hc, k⟩ => n2_of (by
    obtain ⟨⟨ld, cd⟩, hd, q⟩ := Option.bind_eq_some_iff.mp q
    obtain ⟨ls, hl, e⟩ := Option.map_eq_some_iff.mp q
    cases e
    refine ⟨F, ρ, t, n, ld, cd, s, hd, hc, fun d hd v F' H' x i r => ?_⟩
    obtain ⟨b, hb, e⟩ := allD_mem hl d hd
    unfold boolOf at e
    split at e
    · cases e; cases r
      exact ⟨_, rfl, k _ (dedB_mem hb) F' H' x i⟩
    · cases e)
theorem nt_of {f : DT} (h : PT X e (tT f)) : PT X e (tTN fun ρ => (f ρ).map fun b => ([b], 0)) := h.imp fun σ H Q ⟨F, ρ, t, n, l, c, s, q, hc, k⟩ => by
  obtain ⟨d, hd, e⟩ := Option.map_eq_some_iff.mp q
  cases e
  exact ⟨F, ρ, d, s.fh, s.env, hd, fun F' H' x => k d (.head _) F' H' x.toT (s.tin.keep x.hh)⟩
def ntAnd (f g : LT) : LT := fun ρ => (f ρ).bind fun p => if p.1.contains true then (g ρ).map fun q => (dedB (q.1 ++ p.1.filter (! ·)), p.2 + q.2) else some (p.1, p.2)
theorem nw_and {f g : LT} {rest : List Expr} (ha : PT X a (tTN f)) (hb : PW X (.BoolOp .And (b :: rest) pos) (tTN g)) : PW X (.BoolOp .And (a :: b :: rest) pos) (tTN (ntAnd f g)) := (pw_and ha hb).imp fun σ H Q ⟨F, ρ, t, n, l, c, s, q, hc, k⟩ => by
  obtain ⟨⟨la, ca⟩, ha, q⟩ := Option.bind_eq_some_iff.mp q
  dsimp only at q
  split at q
  · rename_i ht
    obtain ⟨⟨lb, cb⟩, hb, e⟩ := Option.map_eq_some_iff.mp q
    cases e
    have hc' : n + (ca + cb) ≤ CAP := hc
    refine ⟨F, ρ, t, n, la, ca, s, ha, by omega, fun d hd F1 H1 x1 i1 => ?_⟩
    have s1 := s.ext x1 i1
    cases d with
    | true => exact iteT ⟨F1, ρ, t, n + ca, lb, cb, s1, hb, by omega, fun d hd F2 H2 x2 i2 => k d (dedB_mem (List.mem_append_left _ hd)) F2 H2 (x1.trans x2 s1.ft i1.there) (i2.mono (by omega))⟩
    | false => exact iteF (k false (dedB_mem (List.mem_append_right _ (List.mem_filter.mpr ⟨hd, rfl⟩))) F1 H1 x1 (i1.mono (by omega)))
  · rename_i ht
    cases q
    refine ⟨F, ρ, t, n, _, _, s, ha, hc, fun d hd F1 H1 x1 i1 => ?_⟩
    cases d with
    | true => exact absurd (List.contains_iff_mem.mpr hd) ht
    | false => exact iteF (k false hd F1 H1 x1 i1)
theorem nw_and1 {f : LT} (h : PT X a (tTN f)) : PW X (.BoolOp .And [a] pos) (tTN f) := pw_and1 h
/-! arguments, displays, calls -/
abbrev LA := En → Option (List (List PyData) × Nat)
def tAN (f : LA) : TA := fun σ H Q => ∃ F ρ t n l c, NSt t n F H σ ρ ∧ f ρ = some (l, c) ∧ n + c ≤ CAP ∧ ∀ ds ∈ l, ∀ vs F' H', ExtT t F H F' H' → TinAt (n + c) H' t → RpL F' vs ds → Q vs H'
def naNil : LA := fun _ => some ([[]], 0)
def naCons (f : LD) (fs : LA) : LA := fun ρ => (f ρ).bind fun p => (fs ρ).bind fun q => (cross (fun d ds => some (d :: ds)) p.1 q.1).map fun ls => (ls, p.2 + q.2)
theorem na_nil : PA X [] (tAN naNil) := pa_nil.imp fun σ H Q ⟨F, ρ, t, n, l, c, s, q, hc, k⟩ => by
  cases q
  exact k [] (.head _) [] F H (ExtT.refl s.fh) s.tin .nil
theorem na_cons {f : LD} {fs : LA} (h : PE X e (tN f)) (hr : PA X es (tAN fs)) (hs : starEach (e :: es) X.env = (false, PySem.eval e X.env) :: starEach es X.env := by rfl) : PA X (e :: es) (tAN (naCons f fs)) :=
  (pa_cons h hr hs).imp fun σ H Q ⟨F, ρ, t, n, l, c, s, q, hc, k⟩ => by
    obtain ⟨⟨la, ca⟩, ha, q⟩ := Option.bind_eq_some_iff.mp q
    obtain ⟨⟨lb, cb⟩, hb, q⟩ := Option.bind_eq_some_iff.mp q
    obtain ⟨ls, hl, e⟩ := Option.map_eq_some_iff.mp q
    cases e
    have hc' : n + (ca + cb) ≤ CAP := hc
    refine ⟨F, ρ, t, n, la, ca, s, ha, by omega, fun d hd v F1 H1 x1 i1 r1 => ?_⟩
    have s1 := s.ext x1 i1
    refine ⟨F1, ρ, t, n + ca, lb, cb, s1, hb, by omega, fun ds hds vs F2 H2 x2 i2 r2 => ?_⟩
    obtain ⟨z, hz, e⟩ := cross_mem hl hd hds
    cases e
    exact k _ hz _ F2 H2 (x1.trans x2 s1.ft i1.there) (i2.mono (by omega)) (.cons (r1.mono x2.ff) r2)
def nCB (g : List PyData → Option PyData) (fs : LA) : LD := fun ρ => (fs ρ).bind fun p => (allD g p.1).map fun l => (l, p.2)
theorem nCB_of {g : List PyData → Option PyData} {fs : LA} {σ : St} {H : Hp} {Q : VK} (h : tN (nCB g fs) σ H Q) : tCB (rDs g) (tAN fs) σ H Q := by
  obtain ⟨F, ρ, t, n, l, c, s, q, hc, k⟩ := h
  obtain ⟨⟨la, ca⟩, ha, q⟩ := Option.bind_eq_some_iff.mp q
  obtain ⟨ls, hl, e⟩ := Option.map_eq_some_iff.mp q
  cases e
  refine ⟨F, ρ, t, n, la, ca, s, ha, hc, fun ds hds vs F1 H1 x1 i1 r1 => ?_⟩
  obtain ⟨d, hd, hg⟩ := allD_mem hl ds hds
  have s1 := s.ext x1 i1
  exact ⟨F1, ds, d, x1.fh, r1, hg, fun v F2 H2 x2 r2 => k d hd v F2 H2 (x1.trans x2.toT s1.ft i1.there) (i1.keep x2.hh) r2⟩
theorem n_callTy {x : Str} {p : Pos} {T : String} {g : List PyData → Option PyData} {fs : LA} (hc : CallR X (.type T) (rDs g)) (hg : Gl X x) (hm : X.mg x = none) (hv : bootBuiltins x = some (.type T)) (ha : PA X (e :: es) (tAN fs))
    (hn : x ≠ "__name__" := by decide) (hdb : (x == ("__debug__" : Str)) = false := by decide) (he : starEach (e :: es) X.env = (false, PySem.eval e X.env) :: starEach es X.env := by rfl) (hpl : (backTo pos (starEach es X.env)).any (·.1) = false := by rfl) : PE X (.Call (.Name x p) (e :: es) [] pos) (tN (nCB g fs)) :=
  (pe_callTy hc hg hm hv ha hn hdb he hpl).imp fun _ _ _ h => nCB_of h
theorem n_callD {x : Str} {p : Pos} {k n : Nat} {g : List PyData → Option PyData} {fs : LA} (C : CallD X.prog X.w X.K X.mg X.base x k n g) (hr : Room k X.A) (hn : ∀ ds d, g ds = some d → ds.length = n) (hg : Gl X x)
    (ha : PA X (e :: es) (tAN fs)) (hdb : (x == ("__debug__" : Str)) = false := by decide) (he : starEach (e :: es) X.env = (false, PySem.eval e X.env) :: starEach es X.env := by rfl) (hpl : (backTo pos (starEach es X.env)).any (·.1) = false := by rfl) :
    PE X (.Call (.Name x p) (e :: es) [] pos) (tN (nCB g fs)) := by
  obtain ⟨f, fd, ps, F, m, kp, bb⟩ := C.ex
  refine (pe_call F hr hg m kp bb .nil pass0 ha hdb he hpl).imp fun σ H Q h => ?_
  obtain ⟨F, ρ, t, n, l, c, s, q, hc, k⟩ := h
  obtain ⟨⟨la, ca⟩, ha, q⟩ := Option.bind_eq_some_iff.mp q
  obtain ⟨ls, hl, e⟩ := Option.map_eq_some_iff.mp q
  cases e
  refine ⟨F, ρ, t, n, la, ca, s, ha, hc, fun ds hds vs F1 H1 x1 i1 r1 => ?_⟩
  obtain ⟨d, hd, hg⟩ := allD_mem hl ds hds
  have s1 := s.ext x1 i1
  show spP _ g (vs ++ []) H1 Q E0
  rw [List.append_nil]
  exact ⟨by rw [r1.length]; exact hn _ _ hg, F1, ds, d, x1.fh, r1, hg, fun v F2 H2 x2 r2 => k d hd v F2 H2 (x1.trans x2.toT s1.ft i1.there) (i1.keep x2.hh) r2⟩
def nTup (fs : LA) : LD := fun ρ => (fs ρ).bind fun p => (allD (fun ds => if okLen ds.length then some (PyData.tuple ds) else none) p.1).map fun l => (l, p.2)
theorem n_tup {fs : LA} {x1 : Nat} (h : PA X es (tAN fs)) : PE X (.Tuple es x1 pos) (tN (nTup fs)) := (pe_tup h).imp fun σ H Q ⟨F, ρ, t, n, l, c, s, q, hc, k⟩ => by
  obtain ⟨⟨la, ca⟩, ha, q⟩ := Option.bind_eq_some_iff.mp q
  obtain ⟨ls, hl, e⟩ := Option.map_eq_some_iff.mp q
  cases e
  refine ⟨F, ρ, t, n, la, ca, s, ha, hc, fun ds hds vs F1 H1 x1 i1 r1 => ?_⟩
  obtain ⟨d, hd, hg⟩ := allD_mem hl ds hds
  have s1 := s.ext x1 i1
  split at hg
  · rename_i ok
    cases hg
    refine ⟨by rw [r1.length]; exact okLen_le ok, fun p hp => ?_⟩
    have x2 : Ext F1 H1 (upd F1 p (.tup vs)) (upd H1 p (.tup vs)) := Ext.alloc x1.fh hp
    exact k _ hd _ _ _ (x1.trans x2.toT s1.ft i1.there) (i1.keep x2.hh) (.tup upd_same (r1.mono x2.ff))
  · cases hg
/-! calls of defs that draw -/
def spN (m : Nat) (g : List PyData → Option (List PyData × Nat)) : Sp := fun vs H Q _ => ∃ F ds t n ws l c, vs = .ref t :: ws ∧ ws.length = m ∧ Same F H ∧ F t = none ∧ TinAt n H t ∧ RpL F ws ds ∧ g ds = some (l, c) ∧ n + c ≤ CAP ∧
  ∀ d ∈ l, ∀ v F' H', ExtT t F H F' H' → TinAt (n + c) H' t → Rp F' v d → Q v H'
structure CallN (P : Program) (w : World) (K : PySem.W.Frag) (mg : Str → Option Value) (base : Heap) (x : Str) (k m : Nat) (g : List PyData → Option (List PyData × Nat)) : Prop where
  ex : ∃ f fd ps, FnOk P w K mg base CX0 k f fd ps (spN m g) ∧ mg x = some (.ref f) ∧ PySem.W.keepIn K (.ref f) = true ∧ Binds K fd ps []
def nCall (g : List PyData → Option (List PyData × Nat)) (fs : DA) : LD := fun ρ => (fs ρ).bind g
theorem n_call {x : Str} {p : Pos} {k m : Nat} {g : List PyData → Option (List PyData × Nat)} {fs : DA} (C : CallN X.prog X.w X.K X.mg X.base x k m g) (hr : Room k X.A) (hn : ∀ ds d, g ds = some d → ds.length = m) (hg : Gl X x) (h0 : PE X e (tVar 0)) (ha : PA X es (tA fs))
    (hdb : (x == ("__debug__" : Str)) = false := by decide) (he : starEach (e :: es) X.env = (false, PySem.eval e X.env) :: starEach es X.env := by rfl) (hpl : (backTo pos (starEach es X.env)).any (·.1) = false := by rfl) :
    PE X (.Call (.Name x p) (e :: es) [] pos) (tN (nCall g fs)) := by
  obtain ⟨f, fd, ps, F, mm, kp, bb⟩ := C.ex
  refine (pe_call F hr hg mm kp bb .nil pass0 (pa_cons h0 ha he) hdb he hpl).imp fun σ H Q h => ?_
  obtain ⟨F, ρ, t, n, l, c, s, q, hc, k⟩ := h
  obtain ⟨ds, hds, q⟩ := Option.bind_eq_some_iff.mp q
  refine ⟨_, s.z0, F, ρ, ds, s.fh, s.env, hds, fun vs F1 H1 x1 r1 => ?_⟩
  show spN m g ((V.ref t :: vs) ++ []) H1 Q E0
  rw [List.append_nil]
  have i1 := s.tin.keep x1.hh
  have s1 := s.ext x1.toT i1
  exact ⟨F1, ds, t, n, vs, l, c, rfl, by rw [r1.length]; exact hn _ _ q, x1.fh, s1.ft, i1, r1, q, hc, fun d hd v F2 H2 x2 i2 r2 => k d hd v F2 H2 (x1.toT.trans x2 s1.ft i1.there) i2 r2⟩
end
end Ea
end
section
set_option Elab.async false
set_option linter.all false
set_option maxRecDepth 100000
set_option maxHeartbeats 4000000
/-! EaU: comprehensions, statements, defs that draw -/
namespace Ea
open PySem PySem.Spec L2
open PyProof.Rows hiding St
/-! iterators: what may be walked -/
abbrev LI := En → Option (List (List PyData) × Nat)
def tIN (f : LI) : TI := fun σ H R => ∃ F ρ t n l c, NSt t n F H σ ρ ∧ f ρ = some (l, c) ∧ n + c ≤ CAP ∧ ∀ xs ∈ l, ∀ J F1 H1, ExtT t F H F1 H1 → TinAt (n + c) H1 t → WalkD J F1 xs → R J H1
section
variable {X : Cx} {e a b c tg iter : Expr} {es : List Expr} {pos : Pos}
def niP (f : DI) : LI := fun ρ => (f ρ).map fun xs => ([xs], 0)
theorem ni_of {f : DI} (h : PI X tg iter (tI f)) : PI X tg iter (tIN (niP f)) := h.imp fun σ H R ⟨F, ρ, t, n, l, c, s, q, hc, k⟩ => by
  obtain ⟨xs, hx, e⟩ := Option.map_eq_some_iff.mp q
  cases e
  exact ⟨F, ρ, xs, s.fh, s.env, hx, fun J F1 H1 x W => k xs (.head _) J F1 H1 x.toT (s.tin.keep x.hh) W⟩
def rgOf : PyData → Option (List PyData)
  | .int n => if small62 n then some (rgD 0 n.toNat) else none
  | _ => none
def niRg (f : LD) : LI := fun ρ => (f ρ).bind fun p => (allD rgOf p.1).map fun l => (l, p.2)
theorem ni_rg1 {p : Pos} {f : LD} (hg : Gl X "range") (hm : X.mg "range" = none) (ha : PE X a (tN f)) (hs : starEach [a] X.env = [(false, PySem.eval a X.env)] := by rfl) : PI X tg (.Call (.Name "range" p) [a] [] pos) (tIN (niRg f)) :=
  (pi_range1 hg hm (pa_cons ha pa_nil hs) hs).imp fun σ H R ⟨F, ρ, t, n, l, c, s, q, hc, k⟩ => by
    obtain ⟨⟨la, ca⟩, hd, q⟩ := Option.bind_eq_some_iff.mp q
    obtain ⟨ls, hl, e⟩ := Option.map_eq_some_iff.mp q
    cases e
    refine ⟨F, ρ, t, n, la, ca, s, hd, hc, fun d hd v F1 H1 x1 i1 r1 => ?_⟩
    obtain ⟨xs, hx, e⟩ := allD_mem hl d hd
    unfold rgOf at e
    split at e
    · split at e
      · rename_i hn
        cases e; cases r1
        obtain ⟨h1, h2⟩ := small62_ok hn
        exact ⟨_, rfl, h1, h2, k _ hx _ F1 H1 x1 i1 walkD_rng⟩
      · cases e
    · cases e
/-! comprehensions -/
def lcN (ρ : En) (g : DG) (ft : LT) (fe : LD) : List PyData → Option (List (List PyData) × Nat)
  | [] => some ([[]], 0)
  | x :: r => (g x ρ).bind fun ρ1 => (ft ρ1).bind fun p => (lcN ρ g ft fe r).bind fun q =>
      if p.1.contains true then (fe ρ1).bind fun y => (cross (fun d ds => some (d :: ds)) y.1 q.1).map fun ls => ((if p.1.contains false then q.1 else []) ++ ls, p.2 + (y.2 + q.2))
      else some (q.1, p.2 + q.2)
def lcAll (ρ : En) (g : DG) (ft : LT) (fe : LD) : List (List PyData) → Option (List (List PyData) × Nat)
  | [] => some ([], 0)
  | xs :: r => if okLen xs.length then (lcN ρ g ft fe xs).bind fun p => (lcAll ρ g ft fe r).map fun q => (p.1 ++ q.1, Nat.max p.2 q.2) else none
theorem lcAll_mem {ρ : En} {g : DG} {ft : LT} {fe : LD} : ∀ {l : List (List PyData)} {m : List (List PyData)} {c : Nat}, lcAll ρ g ft fe l = some (m, c) → ∀ xs ∈ l, okLen xs.length = true ∧ ∃ l1 c1, lcN ρ g ft fe xs = some (l1, c1) ∧ c1 ≤ c ∧ ∀ y ∈ l1, y ∈ m
  | ys :: r, m, c, h, xs, hx => by
    unfold lcAll at h
    split at h
    · rename_i ok
      obtain ⟨⟨l1, c1⟩, h1, h⟩ := Option.bind_eq_some_iff.mp h
      obtain ⟨⟨l2, c2⟩, h2, e⟩ := Option.map_eq_some_iff.mp h
      cases e
      rcases List.mem_cons.mp hx with rfl | hx
      · exact ⟨ok, l1, c1, h1, Nat.le_max_left _ _, fun y hy => List.mem_append_left _ hy⟩
      · obtain ⟨o, l3, c3, h3, h4, h5⟩ := lcAll_mem h2 xs hx
        exact ⟨o, l3, c3, h3, Nat.le_trans h4 (Nat.le_max_right _ _), fun y hy => List.mem_append_right _ (h5 y hy)⟩
    · cases h
def nLc (fi : LI) (vs : List Nat) (g : DG) (ft : LT) (fe : LD) : LD := fun ρ => (fi ρ).bind fun p => (lcAll (wipeE ρ vs) g ft fe p.1).map fun q => (q.1.map .list, p.2 + q.2)
theorem wipeE_get : ∀ (vs : List Nat) (ρ : En) (i : Nat) (s : Sl), (wipeE ρ vs)[i]? = some s → s = .no ∨ ρ[i]? = some s
  | [], ρ, i, s, h => .inr h
  | v :: vs, ρ, i, s, h => by
    rcases set_get h with ⟨rfl, rfl, _⟩ | ⟨_, h⟩
    · exact .inl rfl
    · exact wipeE_get vs ρ i s h
theorem NSt.wipe {t : Addr} {n : Nat} {F H : Hp} {σ : St} {ρ : En} (h : NSt t n F H σ ρ) {vs : List Nat} (h0 : 0 ∉ vs) : NSt t n F H (wipe σ vs) (wipeE ρ vs) :=
  ⟨h.fh, h.env.wipe vs, by rw [wipe_get, if_neg h0]; exact h.z0, h.ft, h.tin, fun i s e => by
    rcases wipeE_get vs ρ i s e with rfl | e
    · exact .inr rfl
    · exact h.pu i s e⟩
/-- after a target took its parts -/
theorem NSt.agr {t : Addr} {n : Nat} {F H : Hp} {σ σ' : St} {ρ ρ' : En} {vs : List Nat} (h : NSt t n F H σ ρ) (h0 : 0 ∉ vs) (r : EnvR F H σ' ρ') (a : Agr vs σ σ' ρ ρ') : NSt t n F H σ' ρ' :=
  ⟨h.fh, r, (a.out 0 h0).1.trans h.z0, h.ft, h.tin, fun i s e => by
    by_cases hi : i ∈ vs
    · exact .inl (a.is i s hi e)
    · rw [(a.out i hi).2] at e
      exact h.pu i s e⟩
theorem nLc_of {fi : LI} {vs : List Nat} {g : DG} {ft : LT} {fe : LD} {σ : St} {H : Hp} {Q : VK} (h0 : 0 ∉ vs) (h : tN (nLc fi vs g ft fe) σ H Q) : tLc (tIN fi) (tG vs g) (tTN ft) (tN fe) vs σ H Q := by
  obtain ⟨F, ρ, t, n, l, c, s, q, hc, k⟩ := h
  obtain ⟨⟨li, ci⟩, hi, q⟩ := Option.bind_eq_some_iff.mp q
  obtain ⟨⟨L, cL⟩, hL, e⟩ := Option.map_eq_some_iff.mp q
  cases e
  have hc' : n + (ci + cL) ≤ CAP := hc
  refine ⟨F, ρ, t, n, li, ci, s, hi, by omega, fun xs hxs J F1 H1 x1 i1 W D nD => ?_⟩
  have s1 := s.ext x1 i1
  obtain ⟨ok, l1, c1, hl1, hc1, hsub⟩ := lcAll_mem hL xs hxs
  have okl := okLen_le ok
  have tD : t ≠ D := fun e => by obtain ⟨o, ho⟩ := i1.there; rw [e, nD] at ho; cases ho
  refine lc_it (J := J) (n := xs.length) (G := fun H => ∃ F2, Same F1 F2 ∧ Same F2 H) (Y := fun i H x H' => ∀ F2, Same F1 F2 → Same F2 H → ∃ F' d, Ext F2 H F' H' ∧ xs[i]? = some d ∧ Rp F' x d)
    ⟨fun i H hi ⟨F2, s1, s2⟩ => W.goes i H hi (s1.trans s2), fun H ⟨F2, s1, s2⟩ => W.stops H (s1.trans s2), fun i H x H' hi _ y F2 s1 s2 => W.yields i F2 H x H' hi s1 s2 y⟩
    (fun i H' => ∃ F2 acc accD zs m cz, ExtT t F1 H1 F2 H' ∧ TinAt m H' t ∧ F2 D = none ∧ H' D = some (.lst acc) ∧ acc.length ≤ i ∧ RpL F2 acc accD ∧ lcN (wipeE ρ vs) g ft fe (xs.drop i) = some (zs, cz) ∧ m + cz ≤ n + ci + cL ∧ ∀ z ∈ zs, accD ++ z ∈ L)
    ⟨F1, [], [], l1, n + ci, c1, (Ext.fresh x1.fh nD).toT, i1.keep (same_upd nD), x1.fh.noneL nD, upd_same, Nat.le_refl _, .nil, hl1, by omega, fun z hz => hsub z hz⟩ (fun i H' _ ⟨F2, _, _, _, _, _, x2, _⟩ => ⟨F2, x2.ff, x2.fh⟩) ?_ ?_
  · rintro i x H2 H3 hi ⟨F2, acc, accD, zs, m, cz, x2, i2, nF, hD, hl, ra, hz, hm, hys⟩ hY
    obtain ⟨F3, d, x3, hd, rd⟩ := hY F2 x2.ff x2.fh
    have hdr : xs.drop i = d :: xs.drop (i + 1) := by
      rw [List.drop_eq_getElem_cons hi]
      have := List.getElem?_eq_getElem hi
      rw [hd] at this
      cases this; rfl
    rw [hdr] at hz
    obtain ⟨ρ1, hg, hz⟩ := Option.bind_eq_some_iff.mp hz
    obtain ⟨⟨bs, cb⟩, ht, hz⟩ := Option.bind_eq_some_iff.mp hz
    obtain ⟨⟨rs, cr⟩, hr, hz⟩ := Option.bind_eq_some_iff.mp hz
    dsimp only at hz
    have i3 := i2.keep x3.hh
    have x13 := x2.trans x3.toT (x2.ft s1.ft i1.there) i2.there
    have nF3 : F3 D = none := x3.stays nF hD
    have hD3 := x3.hh _ _ hD
    have ra3 := ra.mono x3.ff
    have s3 : NSt t m F3 H3 (wipe σ vs) (wipeE ρ vs) := (s1.ext x13 i3).wipe h0
    have fin : ∀ {F4 H4 : Hp} {m4 : Nat} {acc4 : List V} {accD4 : List PyData}, ExtT t F1 H1 F4 H4 → TinAt m4 H4 t → F4 D = none → H4 D = some (.lst acc4) → acc4.length ≤ i + 1 → RpL F4 acc4 accD4 → m4 + cr ≤ n + ci + cL → (∀ z ∈ rs, accD4 ++ z ∈ L) →
        ∃ F2 acc accD zs m cz, ExtT t F1 H1 F2 H4 ∧ TinAt m H4 t ∧ F2 D = none ∧ H4 D = some (.lst acc) ∧ acc.length ≤ i + 1 ∧ RpL F2 acc accD ∧ lcN (wipeE ρ vs) g ft fe (xs.drop (i + 1)) = some (zs, cz) ∧ m + cz ≤ n + ci + cL ∧ ∀ z ∈ zs, accD ++ z ∈ L :=
      fun {F4 H4 m4 acc4 accD4} a1 a2 a3 a4 a5 a6 a7 a8 => ⟨F4, acc4, accD4, rs, m4, cr, a1, a2, a3, a4, a5, a6, hr, a7, a8⟩
    have stay : ∀ {F4 H4 : Hp}, ExtT t F3 H3 F4 H4 → F4 D = none ∧ H4 D = some (.lst acc) := fun {F4 H4} x4 => by
      refine ⟨?_, x4.hh _ _ (Ne.symm tD) hD3⟩
      cases z : F4 D with
      | none => rfl
      | some u =>
        have z2 := x4.nw _ _ z nF3
        rw [hD3] at z2
        cases z2
    refine ⟨F3, wipeE ρ vs, d, ρ1, x3.fh, s3.env, rd, hg, fun σ2 r2 agr => ⟨wipe_agr agr, ?_⟩⟩
    have s4 := s3.agr h0 r2 agr
    split at hz
    · rename_i htrue
      obtain ⟨⟨ly, cy⟩, hy, hz⟩ := Option.bind_eq_some_iff.mp hz
      obtain ⟨ls, hls, e⟩ := Option.map_eq_some_iff.mp hz
      cases e
      have hm' : m + (cb + (cy + cr)) ≤ n + ci + cL := hm
      refine ⟨F3, ρ1, t, m, bs, cb, s4, ht, by omega, fun bb hbb F4 H4 x4 i4 => ?_⟩
      have s5 := s4.ext x4 i4
      have x14 := x13.trans x4 s4.ft i3.there
      obtain ⟨nF4, hD4⟩ := stay x4
      cases bb with
      | true =>
        refine iteT ⟨F4, ρ1, t, m + cb, ly, cy, s5, hy, by omega, fun y hyy w F5 H5 x5 i5 rw5 => ?_⟩
        have x45 := x4.trans x5 s5.ft i4.there
        obtain ⟨nF5, hD5⟩ := stay x45
        have x15 := x14.trans x5 s5.ft i4.there
        refine ⟨acc, hD5, by omega, fin (m4 := m + cb + cy) (accD4 := accD ++ [y]) ⟨x15.ff, same_upd2 x15.fh nF5, fun b o hb e => ?_, x15.nw⟩ ?_ nF5 upd_same (by simp; omega) ((ra3.mono x45.ff).append (.cons rw5 .nil)) (by omega) fun z hz => ?_⟩
        · rw [upd_ne (ne_of_none e nD)]
          exact x15.hh _ _ hb e
        · obtain ⟨a1, a2, a3, a4, a5⟩ := i5
          exact ⟨a1, a2, a3, by rw [upd_ne tD]; exact a4, a5⟩
        · obtain ⟨u, hu, e⟩ := cross_mem hls hyy hz
          cases e
          have := hys _ (List.mem_append_right _ hu)
          simpa using this
      | false =>
        refine iteF (fin (m4 := m + cb) (accD4 := accD) x14 i4 nF4 hD4 (by omega) (ra3.mono x4.ff) (by omega) fun z hz => hys z (List.mem_append_left _ ?_))
        rw [if_pos (List.contains_iff_mem.mpr hbb)]
        exact hz
    · rename_i htrue
      cases hz
      have hm' : m + (cb + cr) ≤ n + ci + cL := hm
      refine ⟨F3, ρ1, t, m, bs, cb, s4, ht, by omega, fun bb hbb F4 H4 x4 i4 => ?_⟩
      have x14 := x13.trans x4 s4.ft i3.there
      obtain ⟨nF4, hD4⟩ := stay x4
      cases bb with
      | true => exact absurd (List.contains_iff_mem.mpr hbb) htrue
      | false => exact iteF (fin (m4 := m + cb) (accD4 := accD) x14 i4 nF4 hD4 (by omega) (ra3.mono x4.ff) (by omega) hys)
  · rintro H2 ⟨F2, acc, accD, zs, m, cz, x2, i2, nF, hD, hl, ra, hz, hm, hys⟩
    rw [List.drop_length] at hz
    cases hz
    have hin := hys [] (.head _)
    rw [List.append_nil] at hin
    have xx := x1.trans x2 s1.ft i1.there
    refine k (.list accD) (List.mem_map.mpr ⟨accD, hin, rfl⟩) (.ref D) (upd F2 D (.lst acc)) H2 ⟨xx.ff.trans (same_upd nF), fun b o e => ?_, xx.hh, fun b o e z => ?_⟩ (i2.mono (by omega)) (.lst upd_same (ra.mono (same_upd nF)))
    · by_cases hb : b = D
      · subst hb; rw [upd_same] at e; rw [hD]; exact e
      · rw [upd_ne hb] at e; exact xx.fh _ _ e
    · by_cases hb : b = D
      · subst hb
        exact x1.free (Ne.symm tD) nD
      · rw [upd_ne hb] at e; exact xx.nw _ _ e z
theorem n_lc {ifs : List Expr} {scope : Scope} {own : List (Str × Nat)} {fi : LI} {g : DG} {ft : LT} {fe : LD} (hc : X.calm = true) (hN : X.N.Nodup) (h0 : 0 ∉ own.map (·.2)) (hi : PI X tg iter (tIN fi)) (ok : BlkOk X.N X.env.scope scope own)
    (hg : ∀ (s : Shared) (H : Hp) (C : Addr) (cl : List (Str × Addr)) (fp : List Addr), PG (X.blk s H scope (compEnvC scope cl C X.env) fp) tg (tG (own.map (·.2)) g))
    (ht : ∀ (s : Shared) (H : Hp) (C : Addr) (cl : List (Str × Addr)) (fp : List Addr), PTs (X.blk s H scope (compEnvC scope cl C X.env) fp) ifs (tTN ft))
    (he : ∀ (s : Shared) (H : Hp) (C : Addr) (cl : List (Str × Addr)) (fp : List Addr), PE (X.blk s H scope (compEnvC scope cl C X.env) fp) a (tN fe))
    (hs : ∀ x, foldedSetIterable iter X.env x = pure x := by intro _; rfl) : PE X (.ListComp a [⟨tg, iter, ifs, 0⟩] scope pos) (tN (nLc fi (own.map (·.2)) g ft fe)) :=
  (pe_lc hc hN hi ok hg ht he hs).imp fun _ _ _ h => nLc_of h0 h
def ntYes : LT := fun _ => some ([true], 0)
theorem nts_nil : PTs X [] (tTN ntYes) := pts_nil.imp fun σ H Q ⟨F, ρ, t, n, l, c, s, q, hc, k⟩ => by cases q; exact k true (.head _) F H (ExtT.refl s.fh) s.tin
theorem nts_one {t : LT} (h : PT X a (tTN t)) : PTs X [a] (tTN t) := pts_one h
end
/-! ### statements -/
abbrev LS := En → Option (List Out × Nat)
def tNS (f : LS) : TS := fun D σ H => ∃ F0 H0 F ρ t n l c, ExtT t F0 H0 F H ∧ F0 t = none ∧ (∃ o, H0 t = some o) ∧ NSt t n F H σ ρ ∧ f ρ = some (l, c) ∧ n + c ≤ CAP ∧
  (∀ ρ', .nx ρ' ∈ l → ∀ F' σ' H', ExtT t F0 H0 F' H' → NSt t (n + c) F' H' σ' ρ' → D.nx σ' H') ∧ (∀ d, .rt d ∈ l → ∀ v F' H', ExtT t F0 H0 F' H' → TinAt (n + c) H' t → Rp F' v d → D.rt v H')
def seqL (g : LS) : List Out → Option (List Out × Nat)
  | [] => some ([], 0)
  | .nx ρ :: r => (g ρ).bind fun p => (seqL g r).map fun q => (p.1 ++ q.1, Nat.max p.2 q.2)
  | .rt d :: r => (seqL g r).map fun q => (.rt d :: q.1, q.2)
theorem seqL_nx {g : LS} : ∀ {l m : List Out} {c : Nat}, seqL g l = some (m, c) → ∀ ρ, .nx ρ ∈ l → ∃ l1 c1, g ρ = some (l1, c1) ∧ c1 ≤ c ∧ ∀ o ∈ l1, o ∈ m
  | .nx ρ0 :: r, m, c, h, ρ, hx => by
    obtain ⟨⟨l1, c1⟩, h1, h⟩ := Option.bind_eq_some_iff.mp h
    obtain ⟨⟨l2, c2⟩, h2, e⟩ := Option.map_eq_some_iff.mp h
    cases e
    rcases List.mem_cons.mp hx with e | hx
    · cases e
      exact ⟨l1, c1, h1, Nat.le_max_left _ _, fun y hy => List.mem_append_left _ hy⟩
    · obtain ⟨l3, c3, h3, h4, h5⟩ := seqL_nx h2 ρ hx
      exact ⟨l3, c3, h3, Nat.le_trans h4 (Nat.le_max_right _ _), fun y hy => List.mem_append_right _ (h5 y hy)⟩
  | .rt d :: r, m, c, h, ρ, hx => by
    obtain ⟨⟨l2, c2⟩, h2, e⟩ := Option.map_eq_some_iff.mp h
    cases e
    rcases List.mem_cons.mp hx with e | hx
    · cases e
    · obtain ⟨l3, c3, h3, h4, h5⟩ := seqL_nx h2 ρ hx
      exact ⟨l3, c3, h3, h4, fun y hy => .tail _ (h5 y hy)⟩
theorem seqL_rt {g : LS} : ∀ {l m : List Out} {c : Nat}, seqL g l = some (m, c) → ∀ d, .rt d ∈ l → .rt d ∈ m
  | .nx ρ0 :: r, m, c, h, d, hx => by
    obtain ⟨⟨l1, c1⟩, h1, h⟩ := Option.bind_eq_some_iff.mp h
    obtain ⟨⟨l2, c2⟩, h2, e⟩ := Option.map_eq_some_iff.mp h
    cases e
    rcases List.mem_cons.mp hx with e | hx
    · cases e
    · exact List.mem_append_right _ (seqL_rt h2 d hx)
  | .rt d0 :: r, m, c, h, d, hx => by
    obtain ⟨⟨l2, c2⟩, h2, e⟩ := Option.map_eq_some_iff.mp h
    cases e
    rcases List.mem_cons.mp hx with e | hx
    · cases e; exact .head _
    · exact .tail _ (seqL_rt h2 d hx)
section
variable {X : Cx} {e a b c tg iter : Expr} {st : Stmt} {sts rest : List Stmt} {es : List Expr} {pos : Pos}
def nsSeq (f g : LS) : LS := fun ρ => (f ρ).bind fun p => (seqL g p.1).map fun q => (q.1, p.2 + q.2)
theorem nss_cons {f g : LS} (h1 : PS X st (tNS f)) (h2 : PSs X rest (tNS g)) : PSs X (st :: rest) (tNS (nsSeq f g)) :=
  (pss_cons h1 h2).imp fun D σ H ⟨F0, H0, F, ρ, t, n, l, c, x0, f0, h0, s, q, hc, k1, k2⟩ => by
    obtain ⟨⟨lf, cf⟩, hf, q⟩ := Option.bind_eq_some_iff.mp q
    obtain ⟨⟨lg, cg⟩, hg, e⟩ := Option.map_eq_some_iff.mp q
    cases e
    have hc' : n + (cf + cg) ≤ CAP := hc
    refine ⟨F0, H0, F, ρ, t, n, lf, cf, x0, f0, h0, s, hf, by omega, fun ρ' hr F' σ' H' x' s' => ?_, fun d hd v F' H' x' i' rv => k2 d (seqL_rt hg d hd) v F' H' x' (i'.mono (by omega)) rv⟩
    obtain ⟨l1, c1, e1, hc1, sub⟩ := seqL_nx hg ρ' hr
    exact ⟨F0, H0, F', ρ', t, n + cf, l1, c1, x', f0, h0, s', e1, by omega, fun ρ2 h2 F2 σ2 H2 x2 s2 => k1 ρ2 (sub _ h2) F2 σ2 H2 x2 (s2.mono (by omega)), fun d hd v F2 H2 x2 i2 rv => k2 d (sub _ hd) v F2 H2 x2 (i2.mono (by omega)) rv⟩
theorem nss_one {f : LS} (h : PS X st (tNS f)) : PSs X [st] (tNS f) := pss_one h
def nsNil : LS := fun ρ => some ([.nx ρ], 0)
theorem nss_nil : PSs X [] (tNS nsNil) := pss_nil.imp fun D σ H ⟨F0, H0, F, ρ, t, n, l, c, x0, f0, h0, s, q, hc, k1, k2⟩ => by cases q; exact k1 ρ (.head _) F σ H x0 s
def nsRet (f : LD) : LS := fun ρ => (f ρ).map fun p => (p.1.map .rt, p.2)
theorem ns_ret {f : LD} (h : PE X e (tN f)) : PS X (.Return (some e) pos) (tNS (nsRet f)) := (ps_ret h).imp fun D σ H ⟨F0, H0, F, ρ, t, n, l, c, x0, f0, h0, s, q, hc, k1, k2⟩ => by
  obtain ⟨⟨ld, cd⟩, hd, e⟩ := Option.map_eq_some_iff.mp q
  cases e
  exact ⟨F, ρ, t, n, ld, cd, s, hd, hc, fun d hd v F' H' x i r => k2 d (List.mem_map.mpr ⟨d, hd, rfl⟩) v F' H' (x0.trans x s.ft s.tin.there) i r⟩
def nsAsg (f : LD) (g : DG) : LS := fun ρ => (f ρ).bind fun p => (allD (fun d => g d ρ) p.1).map fun l => (l.map .nx, p.2)
theorem ns_asg {vs : List Nat} {f : LD} {g : DG} (h0 : 0 ∉ vs) (he : PE X e (tN f)) (hg : PG X tg (tG vs g)) (hs : swapsWithSole [tg] e pos.line X.env = pure false := by rfl) (hw : swappedStores [tg] e X.env = pure none := by rfl)
    (h1 : (assignEach [tg] X.env).map (·.2) = [assign tg X.env] := by rfl) : PS X (.Assign [tg] e pos) (tNS (nsAsg f g)) := (ps_asg he hg hs hw h1).imp fun D σ H ⟨F0, H0, F, ρ, t, n, l, c, x0, f0, hh, s, q, hc, k1, k2⟩ => by
  obtain ⟨⟨ld, cd⟩, hd, q⟩ := Option.bind_eq_some_iff.mp q
  obtain ⟨ls, hl, e⟩ := Option.map_eq_some_iff.mp q
  cases e
  refine ⟨F, ρ, t, n, ld, cd, s, hd, hc, fun d hd v F' H' x i r => ?_⟩
  obtain ⟨ρ', hr, hg⟩ := allD_mem hl d hd
  have s' := s.ext x i
  exact ⟨F', ρ, d, ρ', x.fh, s'.env, r, hg, fun σ' r2 a => k1 ρ' (List.mem_map.mpr ⟨ρ', hr, rfl⟩) F' σ' H' (x0.trans x s.ft s.tin.there) (s'.agr h0 r2 a)⟩
theorem NSt.set {t : Addr} {n : Nat} {F H : Hp} {σ : St} {ρ : En} (h : NSt t n F H σ ρ) {i : Nat} (hi : i ≠ 0) {v : V} {d : PyData} (r : Rp F v d) : NSt t n F H (σ.set i (some v)) (ρ.set i (.d d)) :=
  ⟨h.fh, h.env.set (i := i) (y := some v) (s := .d d) ⟨v, rfl, r⟩, by rw [List.getElem?_set_ne hi]; exact h.z0, h.ft, h.tin, fun j s e => by
    rcases set_get e with ⟨rfl, rfl, _⟩ | ⟨_, e⟩
    · exact .inl ⟨d, rfl⟩
    · exact h.pu j s e⟩
/-- a, b = e1, e2 -/
def nsPar (i j : Nat) (fa fb : LD) : LS := fun ρ => (fa ρ).bind fun p => (fb ρ).bind fun q => (cross (fun x y => some (Out.nx ((ρ.set i (.d x)).set j (.d y)))) p.1 q.1).map fun ls => (ls, p.2 + q.2)
theorem ns_par {i j : Nat} {x y : Str} {a b : Expr} {fa fb : LD} {px py pt : Pos} {kt k2 : Nat} {pt2 : Pos} (hi0 : i ≠ 0) (hj0 : j ≠ 0) (hc : X.calm = true) (hN : X.N.Nodup) (hi : X.N[i]? = some x) (hj : X.N[j]? = some y) (hij : i ≠ j)
    (hx : X.env.scope.names.lookup x = some .local) (hy : X.env.scope.names.lookup y = some .local) (ha : PE X a (tN fa)) (hb : PE X b (tN fb))
    (hw : swappedStores [.Tuple [.Name x px, .Name y py] kt pt] (.Tuple [a, b] k2 pt2) X.env = pure (some [x, y]))
    (hs : swapsWithSole [.Tuple [.Name x px, .Name y py] kt pt] (.Tuple [a, b] k2 pt2) pos.line X.env = pure false := by rfl)
    (h1 : starEach [a, b] X.env = (false, PySem.eval a X.env) :: starEach [b] X.env := by rfl) (h2 : starEach [b] X.env = (false, PySem.eval b X.env) :: starEach [] X.env := by rfl) :
    PS X (.Assign [.Tuple [.Name x px, .Name y py] kt pt] (.Tuple [a, b] k2 pt2) pos) (tNS (nsPar i j fa fb)) :=
  (ps_par hc hN hi hj hij hx hy (pa_cons ha (pa_cons hb pa_nil h2) h1) hw hs).imp fun D σ H ⟨F0, H0, F, ρ, t, n, l, c, x0, f0, hh, s, q, hc, k1, _⟩ => by
    obtain ⟨⟨la, ca⟩, ha, q⟩ := Option.bind_eq_some_iff.mp q
    obtain ⟨⟨lb, cb⟩, hb, q⟩ := Option.bind_eq_some_iff.mp q
    obtain ⟨ls, hl, e⟩ := Option.map_eq_some_iff.mp q
    cases e
    have hc' : n + (ca + cb) ≤ CAP := hc
    refine ⟨F, ρ, t, n, la, ca, s, ha, by omega, fun da hda v F1 H1 x1 i1 r1 => ?_⟩
    have s1 := s.ext x1 i1
    refine ⟨F1, ρ, t, n + ca, lb, cb, s1, hb, by omega, fun db hdb w F2 H2 x2 i2 r2 => ⟨v, w, rfl, ?_⟩⟩
    obtain ⟨o, ho, e⟩ := cross_mem hl hda hdb
    cases e
    have s2 := (s1.ext x2 i2).mono (m := n + (ca + cb)) (by omega)
    exact k1 _ ho F2 _ H2 (x0.trans (x1.trans x2 s1.ft i1.there) s.ft s.tin.there) ((s2.set hi0 (r1.mono x2.ff)).set hj0 r2)
/-- .. where a name is captured by a comprehension -/
theorem ns_tup2 {i j : Nat} {x y : Str} {a b : Expr} {fa fb : LD} {px py pt : Pos} {kt k2 : Nat} {pt2 : Pos} (hi0 : i ≠ 0) (hj0 : j ≠ 0) (hc : X.calm = true) (hN : X.N.Nodup) (h : PS X (.Assign [.Tuple [.Name x px, .Name y py] kt pt] (.Tuple [a, b] k2 pt2) pos) (tNS (nsAsg (nTup (naCons fa (naCons fb naNil))) (gTupD 2 (gsCons (gN i) (gsCons (gN j) gsNil)))))) :
    PS X (.Assign [.Tuple [.Name x px, .Name y py] kt pt] (.Tuple [a, b] k2 pt2) pos) (tNS (nsAsg (nTup (naCons fa (naCons fb naNil))) (gTupD 2 (gsCons (gN i) (gsCons (gN j) gsNil))))) := h
def nsIf (t : LT) (f g : LS) : LS := fun ρ => (t ρ).bind fun p => (if p.1.contains true then f ρ else some ([], 0)).bind fun q => (if p.1.contains false then g ρ else some ([], 0)).map fun r => (q.1 ++ r.1, p.2 + Nat.max q.2 r.2)
theorem ns_if {t : LT} {f g : LS} {as bs : List Stmt} (hc : PT X c (tTN t)) (ha : PSs X as (tNS f)) (hb : PSs X bs (tNS g)) : PS X (.If c as bs pos) (tNS (nsIf t f g)) := (ps_if hc ha hb).imp fun D σ H ⟨F0, H0, F, ρ, t, n, l, c, x0, f0, hh, s, q, hc, k1, k2⟩ => by
  obtain ⟨⟨bs, cb⟩, ht, q⟩ := Option.bind_eq_some_iff.mp q
  obtain ⟨⟨lf, cf⟩, hf, q⟩ := Option.bind_eq_some_iff.mp q
  obtain ⟨⟨lg, cg⟩, hg, e⟩ := Option.map_eq_some_iff.mp q
  cases e
  have hc' : n + (cb + Nat.max cf cg) ≤ CAP := hc
  have m1 := Nat.le_max_left cf cg
  have m2 := Nat.le_max_right cf cg
  have m3 : Nat.max cf cg = max cf cg := rfl
  have e1 : n + cb + cf ≤ n + (cb + Nat.max cf cg) := by omega
  have e2 : n + cb + cg ≤ n + (cb + Nat.max cf cg) := by omega
  refine ⟨F, ρ, t, n, bs, cb, s, ht, by omega, fun bb hbb F' H' x i => ?_⟩
  have s' := s.ext x i
  have xx := x0.trans x s.ft s.tin.there
  cases bb with
  | true =>
    dsimp only at hf
    rw [if_pos (List.contains_iff_mem.mpr hbb)] at hf
    exact iteT ⟨F0, H0, F', ρ, t, n + cb, lf, cf, xx, f0, hh, s', hf, by omega, fun ρ' hr F2 σ2 H2 x2 s2 => k1 ρ' (List.mem_append_left _ hr) F2 σ2 H2 x2 (s2.mono e1), fun d hd v F2 H2 x2 i2 rv => k2 d (List.mem_append_left _ hd) v F2 H2 x2 (i2.mono e1) rv⟩
  | false =>
    dsimp only at hg
    rw [if_pos (List.contains_iff_mem.mpr hbb)] at hg
    exact iteF ⟨F0, H0, F', ρ, t, n + cb, lg, cg, xx, f0, hh, s', hg, by omega, fun ρ' hr F2 σ2 H2 x2 s2 => k1 ρ' (List.mem_append_right _ hr) F2 σ2 H2 x2 (s2.mono e2), fun d hd v F2 H2 x2 i2 rv => k2 d (List.mem_append_right _ hd) v F2 H2 x2 (i2.mono e2) rv⟩
/-- for over what is pure -/
def forL (g : DG) (fb : LS) : List PyData → LS
  | [] => fun ρ => some ([.nx ρ], 0)
  | x :: r => fun ρ => (g x ρ).bind fun ρ1 => (fb ρ1).bind fun p => (seqL (forL g fb r) p.1).map fun q => (q.1, p.2 + q.2)
def nsFor (fi : DI) (g : DG) (fb : LS) : LS := fun ρ => (fi ρ).bind fun xs => forL g fb xs ρ
theorem ns_for {body : List Stmt} {vs : List Nat} {fi : DI} {g : DG} {fb : LS} (h0 : 0 ∉ vs) (hp : PassesOwn (model X.prog X.w) X.A X.env X.xe) (hc : X.calm = true) (hi : PI X tg iter (tI fi)) (hg : PG X tg (tG vs g)) (hb : PSs X body (tNS fb))
    (hs : ∀ x, foldedSetIterable iter X.env x = pure x := by intro _; rfl) : PS X (.For tg iter body [] pos) (tNS (nsFor fi g fb)) := (ps_for hp hc hi hg hb hs).imp fun D σ H ⟨F0, H0, F, ρ, t, n, l, c, x0, f0, hh, s, q, hc, k1, k2⟩ => by
  obtain ⟨xs, hx, hg⟩ := Option.bind_eq_some_iff.mp q
  refine ⟨F, ρ, xs, s.fh, s.env, hx, fun J F1 H1 x1 W => ?_⟩
  have i1 := s.tin.keep x1.hh
  have s1 := s.ext x1.toT i1
  refine for_it (J := J) (n := xs.length) (G := fun H => ∃ F2, Same F1 F2 ∧ Same F2 H) (Y := fun i H x H' => ∀ F2, Same F1 F2 → Same F2 H → ∃ F' d, Ext F2 H F' H' ∧ xs[i]? = some d ∧ Rp F' x d)
    ⟨fun i H hi ⟨F2, s1, s2⟩ => W.goes i H hi (s1.trans s2), fun H ⟨F2, s1, s2⟩ => W.stops H (s1.trans s2), fun i H x H' hi _ y F2 s1 s2 => W.yields i F2 H x H' hi s1 s2 y⟩
    (fun i σ' H' => ∃ F2 ρ2 m l2 c2, ExtT t F0 H0 F2 H' ∧ Same F1 F2 ∧ NSt t m F2 H' σ' ρ2 ∧ forL g fb (xs.drop i) ρ2 = some (l2, c2) ∧ m + c2 ≤ n + c ∧ ∀ o ∈ l2, o ∈ l)
    ⟨F1, ρ, n, l, c, x0.trans x1.toT s.ft s.tin.there, Same.refl _, s1, hg, Nat.le_refl _, fun o h => h⟩ (fun i σ' H' _ ⟨F2, ρ2, m, l2, c2, _, s1, s2, _⟩ => ⟨F2, s1, s2.fh⟩) ?_ ?_
  · rintro i x σ2 H2 H3 hi ⟨F2, ρ2, m, l2, c2, x2, s12, s2, hgo, hm, sub⟩ hY
    obtain ⟨F3, d, x3, hd, rd⟩ := hY F2 s12 s2.fh
    have hdr : xs.drop i = d :: xs.drop (i + 1) := by
      rw [List.drop_eq_getElem_cons hi]
      have := List.getElem?_eq_getElem hi
      rw [hd] at this
      cases this; rfl
    rw [hdr] at hgo
    obtain ⟨ρ3, h3, hgo⟩ := Option.bind_eq_some_iff.mp hgo
    obtain ⟨⟨lb, cb⟩, hb, hgo⟩ := Option.bind_eq_some_iff.mp hgo
    obtain ⟨⟨lr, cr⟩, hr, e⟩ := Option.map_eq_some_iff.mp hgo
    cases e
    have hm' : m + (cb + cr) ≤ n + c := hm
    have i3 := s2.tin.keep x3.hh
    have s3 := s2.ext x3.toT i3
    refine ⟨F3, ρ2, d, ρ3, x3.fh, s3.env, rd, h3, fun σ4 r4 agr => ?_⟩
    have s4 := s3.agr h0 r4 agr
    have x03 := x2.trans x3.toT s2.ft s2.tin.there
    refine ⟨F3, H3, F3, ρ3, t, m, lb, cb, ExtT.refl s4.fh, s4.ft, i3.there, s4, hb, by omega, fun ρ5 h5 F5 σ5 H5 x5 s5 => ?_, fun d hd v F5 H5 x5 i5 rv => k2 d (sub _ (seqL_rt hr d hd)) v F5 H5 (x03.trans x5 s4.ft i3.there) (i5.mono (by omega)) rv⟩
    obtain ⟨l5, c5, e5, hc5, sub5⟩ := seqL_nx hr ρ5 h5
    exact ⟨F5, ρ5, m + cb, l5, c5, x03.trans x5 s4.ft i3.there, s12.trans (x3.ff.trans x5.ff), s5, e5, by omega, fun o ho => sub o (sub5 o ho)⟩
  · rintro σ2 H2 ⟨F2, ρ2, m, l2, c2, x2, s12, s2, hgo, hm, sub⟩
    rw [List.drop_length] at hgo
    cases hgo
    exact k1 ρ2 (sub _ (.head _)) F2 σ2 H2 x2 (s2.mono hm)
end
end Ea
end
section
set_option Elab.async false
set_option linter.all false
set_option maxRecDepth 100000
set_option maxHeartbeats 4000000
/-! EaV: the rule of a def that draws; code that reads and writes the three ints by their values -/
namespace Ea
open PySem PySem.Spec L2
open PyProof.Rows hiding St
def startN (m : Nat) (ds : List PyData) : En := .no :: startE (m - 1) ds
def outD : Out → PyData
  | .rt d => d
  | .nx _ => .none
def defN (n m : Nat) (g : LS) : List PyData → Option (List PyData × Nat) := fun ds => if ds.length = n then (g (startN m ds)).map fun p => (p.1.map outD, p.2) else none
theorem defN_len {n m : Nat} {g : LS} {ds : List PyData} {d : List PyData × Nat} (h : defN n m g ds = some d) : ds.length = n := by
  unfold defN at h
  split at h
  · assumption
  · cases h
theorem EnvR.cons {F H : Hp} {σ : St} {ρ : En} (h : EnvR F H σ ρ) (y : Option V) : EnvR F H (y :: σ) (.no :: ρ) :=
  ⟨by simp [h.len], fun {i s} e => by
    cases i with
    | zero => cases e; exact ⟨y, rfl, trivial⟩
    | succ i => exact h.get (by simpa using e)⟩
theorem start_NSt {F H : Hp} {t : Addr} {n m : Nat} {N : List Str} {ws : List V} {ds : List PyData} (s : Same F H) (ft : F t = none) (i : TinAt n H t) (r : RpL F ws ds) (hm : N.length = m) (hl : ds.length + 1 ≤ m) : NSt t n F H (L2.start N (.ref t :: ws)) (startN m ds) := by
  obtain ⟨x, N', rfl⟩ : ∃ x N', N = x :: N' := by
    cases N with
    | nil => simp at hm; omega
    | cons x N' => exact ⟨x, N', rfl⟩
  have e : L2.start (x :: N') (V.ref t :: ws) = some (.ref t) :: L2.start N' ws := by
    unfold L2.start
    simp
  have hm' : N'.length = m - 1 := by simp at hm; omega
  have q := start_env (H := H) (N := N') r (by omega)
  rw [hm'] at q
  rw [e]
  exact ⟨s, q.cons _, rfl, ft, i, fun j z e => by
    cases j with
    | zero => cases e; exact .inr rfl
    | succ j => exact startE_pure j z (by simpa [startN] using e)⟩
section
variable {P : Program} {w : World} {K : PySem.W.Frag} {mg : Str → Option Value} {base : Heap}
theorem okN {x qual : Str} {st : Stmt} {f : Addr} {fd : FuncData} {N ps : List Str} {k n m : Nat} {g : LS} {d : List PyData → Option (List PyData × Nat)} (F : Fun K x qual st f fd) (S : FnScope N ps (defScope st)) (hn : ps.length = n + 1) (hm : N.length = m) (hN : n + 1 ≤ m) (hd : d = defN n m g)
    (body : ∀ (cdv : Value) (A : Around) (outer : List Env) (s : Shared) (H : Hp) (E : XK), Room k (A.deeper (envOfC qual (defScope st) s.heap.objs.size f cdv)) →
      PSs (cxOf CX0 P w K mg base N qual (defScope st) f cdv A outer s H E).nox (defBody st) (tNS g)) : FnOk P w K mg base CX0 (k + 1) f fd ps (spN n d) := by
  subst hd
  refine F.ok S (fun vs H Q E ⟨F', ds, t, n0, ws, l, c, ev, hl, _⟩ => by rw [ev, hn, ← hl]; rfl) (fun cdv A outer s H vs Q E hr h => ⟨_, body cdv A outer s H E hr, ?_⟩)
  obtain ⟨F', ds, t, n0, ws, l, c, ev, hl, sm, ft, i, r, q, hc, k⟩ := h
  subst ev
  have hd := defN_len q
  unfold defN at q
  rw [if_pos hd] at q
  obtain ⟨⟨lo, co⟩, hg, e⟩ := Option.map_eq_some_iff.mp q
  cases e
  have st := start_NSt (N := N) sm ft i r hm (by omega)
  exact ⟨F', H, F', _, t, n0, lo, co, ExtT.refl sm, ft, i.there, st, hg, hc, fun ρ' hr F2 σ2 H2 x2 s2 => k .none (List.mem_map.mpr ⟨_, hr, rfl⟩) .non F2 H2 x2 s2.tin .non, fun d hd v F2 H2 x2 i2 rv => k d (List.mem_map.mpr ⟨_, hd, rfl⟩) v F2 H2 x2 i2 rv⟩
end
theorem ns_set {X : Cx} {e : Expr} {pos : Pos} {i : Nat} {x : Str} {pos' : Pos} {f : LD} (h0 : i ≠ 0) (hN : X.N.Nodup) (hi : X.N[i]? = some x) (hx : Loc X.env.scope x) (he : PE X e (tN f)) (hs : swapsWith e (some (.Name x pos')) pos.line X.env = pure false := by rfl) (hf : X.fn x = true ∨ X.env.scope.names.lookup x = some .local := by first | exact .inl rfl | exact .inr rfl | assumption) :
    PS X (.Assign [.Name x pos'] e pos) (tNS (nsAsg f (gN i))) := (ps_set hN hi hx he hs hf).imp fun D σ H ⟨F0, H0, F, ρ, t, n, l, c, x0, f0, hh, s, q, hc, k1, k2⟩ => by
  obtain ⟨⟨ld, cd⟩, hd, q⟩ := Option.bind_eq_some_iff.mp q
  obtain ⟨ls, hl, e⟩ := Option.map_eq_some_iff.mp q
  cases e
  refine ⟨F, ρ, t, n, ld, cd, s, hd, hc, fun d hd v F' H' x i r => ?_⟩
  obtain ⟨ρ', hr, hg⟩ := allD_mem hl d hd
  cases hg
  exact k1 _ (List.mem_map.mpr ⟨_, hr, rfl⟩) F' _ H' (x0.trans x s.ft s.tin.there) ((s.ext x i).set h0 r)
/-- x = [.. for ..], stored within the comprehension -/
theorem ns_setLc {X : Cx} {tg iter : Expr} {pos : Pos} {i : Nat} {y : Str} {py : Pos} {elt : Expr} {ifs : List Expr} {scope : Scope} {own : List (Str × Nat)} {spos : Pos} {fi : LI} {g : DG} {ft : LT} {fe : LD} (h1 : i ≠ 0) (h0 : 0 ∉ own.map (·.2)) (hc : X.calm = true) (hN : X.N.Nodup) (hy : X.N[i]? = some y) (hyl : X.env.scope.names.lookup y = some .local)
    (hsw : swapsWith (.ListComp elt [⟨tg, iter, ifs, 0⟩] scope pos) (some (.Name y py)) spos.line X.env = pure true) (hi : PI X tg iter (tIN fi)) (ok : BlkOk X.N X.env.scope scope own)
    (hg : ∀ (s : Shared) (H : Hp) (C : Addr) (cl : List (Str × Addr)) (fp : List Addr), PG (X.blk s H scope (compEnvC scope cl C X.env) fp) tg (tG (own.map (·.2)) g))
    (ht : ∀ (s : Shared) (H : Hp) (C : Addr) (cl : List (Str × Addr)) (fp : List Addr), PTs (X.blk s H scope (compEnvC scope cl C X.env) fp) ifs (tTN ft))
    (he : ∀ (s : Shared) (H : Hp) (C : Addr) (cl : List (Str × Addr)) (fp : List Addr), PE (X.blk s H scope (compEnvC scope cl C X.env) fp) elt (tN fe))
    (hs : ∀ x, foldedSetIterable iter X.env x = pure x := by intro _; rfl) : PS X (.Assign [.Name y py] (.ListComp elt [⟨tg, iter, ifs, 0⟩] scope pos) spos) (tNS (nsAsg (nLc fi (own.map (·.2)) g ft fe) (gN i))) :=
  (ps_setLc hc hN hy hyl hsw hi ok hg ht he hs).imp fun D σ H ⟨F0, H0, F, ρ, t, n, l, c, x0, f0, hh, s, q, hcc, k1, k2⟩ => by
    obtain ⟨⟨ld, cd⟩, hd, q⟩ := Option.bind_eq_some_iff.mp q
    obtain ⟨ls, hl, e⟩ := Option.map_eq_some_iff.mp q
    cases e
    show tLc _ _ _ _ _ σ H _
    refine nLc_of h0 ⟨F, ρ, t, n, ld, cd, s, hd, hcc, fun d hd v F' H' x i r => ?_⟩
    obtain ⟨ρ', hr, hg⟩ := allD_mem hl d hd
    cases hg
    exact k1 _ (List.mem_map.mpr ⟨_, hr, rfl⟩) F' _ H' (x0.trans x s.ft s.tin.there) ((s.ext x i).set h1 r)
theorem ns_setLcP {X : Cx} {tg iter : Expr} {pos : Pos} {i : Nat} {y : Str} {py : Pos} {elt : Expr} {ifs : List Expr} {scope : Scope} {own : List (Str × Nat)} {spos : Pos} {fi : DI} {g : DG} {ft : DT} {fe : DE} (h1 : i ≠ 0) (hc : X.calm = true) (hN : X.N.Nodup) (hy : X.N[i]? = some y) (hyl : X.env.scope.names.lookup y = some .local)
    (hsw : swapsWith (.ListComp elt [⟨tg, iter, ifs, 0⟩] scope pos) (some (.Name y py)) spos.line X.env = pure true) (hi : PI X tg iter (tI fi)) (ok : BlkOk X.N X.env.scope scope own)
    (hg : ∀ (s : Shared) (H : Hp) (C : Addr) (cl : List (Str × Addr)) (fp : List Addr), PG (X.blk s H scope (compEnvC scope cl C X.env) fp) tg (tG (own.map (·.2)) g))
    (ht : ∀ (s : Shared) (H : Hp) (C : Addr) (cl : List (Str × Addr)) (fp : List Addr), PTs (X.blk s H scope (compEnvC scope cl C X.env) fp) ifs (tT ft))
    (he : ∀ (s : Shared) (H : Hp) (C : Addr) (cl : List (Str × Addr)) (fp : List Addr), PE (X.blk s H scope (compEnvC scope cl C X.env) fp) elt (tE fe))
    (hs : ∀ x, foldedSetIterable iter X.env x = pure x := by intro _; rfl) : PS X (.Assign [.Name y py] (.ListComp elt [⟨tg, iter, ifs, 0⟩] scope pos) spos) (tNS (nsAsg (nP (eLc fi (own.map (·.2)) g ft fe)) (gN i))) :=
  (ps_setLc hc hN hy hyl hsw hi ok hg ht he hs).imp fun D σ H ⟨F0, H0, F, ρ, t, n, l, c, x0, f0, hh, s, q, hcc, k1, k2⟩ => by
    obtain ⟨⟨ld, cd⟩, hd, q⟩ := Option.bind_eq_some_iff.mp q
    obtain ⟨ls, hl, e⟩ := Option.map_eq_some_iff.mp q
    cases e
    obtain ⟨d, hd', e⟩ := Option.map_eq_some_iff.mp hd
    cases e
    show tLc _ _ _ _ _ σ H _
    refine tLc_of ⟨F, ρ, d, s.fh, s.env, hd', fun p F' H' x nf nh o => ?_⟩
    obtain ⟨ρ', hr, hg⟩ := allD_mem hl d (.head _)
    cases hg
    obtain ⟨u, hu⟩ := o.there
    have y := x.frz nf nh hu
    have rv : Rp (upd F' p u) (.ref p) d := o.rp (same_upd nf) fun w hw => by rw [hw] at hu; cases hu; exact upd_same
    exact k1 _ (List.mem_map.mpr ⟨_, hr, rfl⟩) _ _ H' (x0.trans y.toT s.ft s.tin.there) ((s.ext y.toT (s.tin.keep x.hh)).set h1 rv)
/-! ### by the values of the three ints -/
structure N3 (t : Addr) (a b c : Int) (F H : Hp) (σ : St) (ρ : En) : Prop where
  fh : Same F H
  env : EnvR F H σ ρ
  z0 : σ[0]? = some (some (.ref t))
  ft : F t = none
  tin : H t = some (.lst [.int a, .int b, .int c])
  pu : ∀ (i : Nat) (s : Sl), ρ[i]? = some s → (∃ d, s = .d d) ∨ s = .no
theorem N3.ext {t : Addr} {a b c : Int} {F H F' H' : Hp} {σ : St} {ρ : En} (h : N3 t a b c F H σ ρ) (x : Ext F H F' H') : N3 t a b c F' H' σ ρ :=
  ⟨x.fh, h.env.extT (t := t) h.pu x.ff, h.z0, x.stays h.ft h.tin, x.hh _ _ h.tin, h.pu⟩
abbrev DJ := Int → Int → Int → DE
def tJ (f : DJ) : TE := fun σ H Q => ∃ F ρ t a b c d, N3 t a b c F H σ ρ ∧ f a b c ρ = some d ∧ ∀ v F' H', Ext F H F' H' → Rp F' v d → Q v H'
section
variable {X : Cx} {e ea eb : Expr} {es : List Expr} {st : Stmt} {sts rest : List Stmt} {pos : Pos}
theorem j_of {f : DE} (h : PE X e (tE f)) : PE X e (tJ fun _ _ _ => f) := h.imp fun σ H Q ⟨F, ρ, t, a, b, c, d, s, q, k⟩ => ⟨F, ρ, d, s.fh, s.env, q, k⟩
def pick3 (k : Nat) (a b c : Int) : Option Int := [a, b, c][k]?
def jTin (k : Nat) : DJ := fun a b c _ => (pick3 k a b c).map .int
theorem j_tin {k j : Nat} {p : Pos} (h0 : PE X ea (tVar 0)) (hk : k < 3) (hs : PlainIx (.Constant (.int (k : Int)) j p) := by exact fun _ _ => rfl) : PE X (.Subscript ea (.Constant (.int (k : Int)) j p) pos) (tJ (jTin k)) :=
  (pe_ix ix_list h0 (e_int (i := (k : Int))) hs).imp fun σ H Q ⟨F, ρ, t, a, b, c, d, s, q, kk⟩ => by
    obtain ⟨i, hi, e⟩ := Option.map_eq_some_iff.mp q
    subst e
    refine ⟨_, s.z0, F, ρ, .int k, s.fh, s.env, rfl, fun y F1 H1 x1 r1 => ?_⟩
    cases r1
    refine ⟨t, _, (k : Int), .int i, rfl, rfl, SqL.of (x1.hh _ _ s.tin), ?_, kk _ F1 H1 x1 (.int i)⟩
    match k, hk, hi with
    | 0, _, hi => cases hi; rfl
    | 1, _, hi => cases hi; rfl
    | 2, _, hi => cases hi; rfl
def j2 (g : PyData → PyData → Option PyData) (fa fb : DJ) : DJ := fun a b c ρ => (fa a b c ρ).bind fun x => (fb a b c ρ).bind fun y => g x y
theorem j2_of {g : PyData → PyData → Option PyData} {fa fb : DJ} {σ : St} {H : Hp} {Q : VK} (h : tJ (j2 g fa fb) σ H Q) : tOp (rD g) (tJ fa) (tJ fb) σ H Q := by
  obtain ⟨F, ρ, t, a, b, c, d, s, q, k⟩ := h
  obtain ⟨x, hx, q⟩ := Option.bind_eq_some_iff.mp q
  obtain ⟨y, hy, q⟩ := Option.bind_eq_some_iff.mp q
  exact ⟨F, ρ, t, a, b, c, x, s, hx, fun v F1 H1 x1 r1 => ⟨F1, ρ, t, a, b, c, y, s.ext x1, hy, fun w F2 H2 x2 r2 => ⟨F2, x, y, d, x2.fh, r1.mono x2.ff, r2, q, fun z F3 H3 x3 r3 => k z F3 H3 (x1.trans (x2.trans x3)) r3⟩⟩⟩
theorem j_op {op : Operator} {g : PyData → PyData → Option PyData} {fa fb : DJ} (ho : OpR X (binaryOp op) (rD g)) (ha : PE X ea (tJ fa)) (hb : PE X eb (tJ fb)) : PE X (.BinOp ea op eb pos) (tJ (j2 g fa fb)) := (pe_op ho ha hb).imp fun _ _ _ h => j2_of h
def jInt (f : DJ) : DJ := fun a b c ρ => (f a b c ρ).bind fun d => gInt [d]
theorem j_int {x : Str} {p : Pos} {f : DJ} (hg : Gl X x) (hm : X.mg x = none) (hv : bootBuiltins x = some (.type "int")) (ha : PE X e (tJ f))
    (hn : x ≠ "__name__" := by decide) (hdb : (x == ("__debug__" : Str)) = false := by decide) (he : starEach [e] X.env = (false, PySem.eval e X.env) :: starEach [] X.env := by rfl) : PE X (.Call (.Name x p) [e] [] pos) (tJ (jInt f)) :=
  (pe_callTy cInt hg hm hv (pa_cons ha pa_nil he) hn hdb he (by rfl)).imp fun σ H Q ⟨F, ρ, t, a, b, c, d, s, q, k⟩ => by
    obtain ⟨x, hx, q⟩ := Option.bind_eq_some_iff.mp q
    exact ⟨F, ρ, t, a, b, c, x, s, hx, fun v F1 H1 x1 r1 => ⟨F1, [x], d, x1.fh, .cons r1 .nil, q, fun z F3 H3 x3 r3 => k z F3 H3 (x1.trans x3) r3⟩⟩
/-! statements -/
inductive OutK where
  | nx (a b c : Int) (ρ : En)
  | rt (a b c : Int) (d : PyData)
abbrev DK := Int → Int → Int → En → Option OutK
def tK (f : DK) : TS := fun D σ H => ∃ F0 H0 F ρ t a b c out, ExtT t F0 H0 F H ∧ F0 t = none ∧ (∃ o, H0 t = some o) ∧ N3 t a b c F H σ ρ ∧ f a b c ρ = some out ∧
  (∀ a' b' c' ρ', out = .nx a' b' c' ρ' → ∀ F' σ' H', ExtT t F0 H0 F' H' → N3 t a' b' c' F' H' σ' ρ' → D.nx σ' H') ∧ (∀ a' b' c' d, out = .rt a' b' c' d → ∀ v F' H', ExtT t F0 H0 F' H' → H' t = some (.lst [.int a', .int b', .int c']) → Rp F' v d → D.rt v H')
def kSeq (f g : DK) : DK := fun a b c ρ => (f a b c ρ).bind fun o => match o with | .nx a b c ρ => g a b c ρ | o => some o
theorem ks_cons {f g : DK} (h1 : PS X st (tK f)) (h2 : PSs X rest (tK g)) : PSs X (st :: rest) (tK (kSeq f g)) :=
  (pss_cons h1 h2).imp fun D σ H ⟨F0, H0, F, ρ, t, a, b, c, out, x0, f0, h0, s, q, k1, k2⟩ => by
    obtain ⟨o, ho, q⟩ := Option.bind_eq_some_iff.mp q
    cases o with
    | nx a1 b1 c1 ρ1 => exact ⟨F0, H0, F, ρ, t, a, b, c, _, x0, f0, h0, s, ho, (fun a' b' c' ρ' e F' σ' H' x' s' => by cases e; exact ⟨F0, H0, F', ρ1, t, a1, b1, c1, out, x', f0, h0, s', q, k1, k2⟩), fun a' b' c' d e => nomatch e⟩
    | rt a1 b1 c1 d1 => cases q; exact ⟨F0, H0, F, ρ, t, a, b, c, _, x0, f0, h0, s, ho, (fun a' b' c' ρ' e => nomatch e), k2⟩
theorem ks_one {f : DK} (h : PS X st (tK f)) : PSs X [st] (tK f) := pss_one h
def kNil : DK := fun a b c ρ => some (.nx a b c ρ)
theorem ks_nil : PSs X [] (tK kNil) := pss_nil.imp fun D σ H ⟨F0, H0, F, ρ, t, a, b, c, out, x0, f0, h0, s, q, k1, k2⟩ => by cases q; exact k1 _ _ _ _ rfl F σ H x0 s
def kSet (i : Nat) (f : DJ) : DK := fun a b c ρ => (f a b c ρ).map fun d => .nx a b c (ρ.set i (.d d))
theorem k_set {i : Nat} {x : Str} {pos' : Pos} {f : DJ} (h0 : i ≠ 0) (hN : X.N.Nodup) (hi : X.N[i]? = some x) (hx : Loc X.env.scope x) (he : PE X e (tJ f)) (hs : swapsWith e (some (.Name x pos')) pos.line X.env = pure false := by rfl) (hf : X.fn x = true ∨ X.env.scope.names.lookup x = some .local := by first | exact .inl rfl | exact .inr rfl | assumption) :
    PS X (.Assign [.Name x pos'] e pos) (tK (kSet i f)) := (ps_set hN hi hx he hs hf).imp fun D σ H ⟨F0, H0, F, ρ, t, a, b, c, out, x0, f0, hh, s, q, k1, k2⟩ => by
  obtain ⟨d, hd, e⟩ := Option.map_eq_some_iff.mp q
  subst e
  refine ⟨F, ρ, t, a, b, c, d, s, hd, fun v F1 H1 x1 r1 => ?_⟩
  have s1 := s.ext x1
  exact k1 _ _ _ _ rfl F1 _ H1 (x0.trans x1.toT s.ft ⟨_, s.tin⟩) ⟨s1.fh, s1.env.set (i := i) (y := some v) (s := .d d) ⟨v, rfl, r1⟩, by rw [List.getElem?_set_ne h0]; exact s1.z0, s1.ft, s1.tin, fun j z e => by
    rcases set_get e with ⟨rfl, rfl, _⟩ | ⟨_, e⟩
    · exact .inl ⟨d, rfl⟩
    · exact s1.pu j z e⟩
def put3 (k : Nat) (i a b c : Int) : Int × Int × Int := match k with | 0 => (i, b, c) | 1 => (a, i, c) | _ => (a, b, i)
def kTin (k : Nat) (f : DJ) : DK := fun a b c ρ => (f a b c ρ).bind fun d => match d with | .int i => some (.nx (put3 k i a b c).1 (put3 k i a b c).2.1 (put3 k i a b c).2.2 ρ) | _ => none
theorem k_tin {k j : Nat} {x : Str} {f : DJ} {xp p p2 : Pos} (hk : k < 3) (hx : PE X (.Name x xp) (tVar 0)) (he : PE X e (tJ f))
    (ha : ∀ v, assign (.Subscript (.Name x xp) (.Constant (.int (k : Int)) j p) p2) X.env v = (do
      let ov ← holding [v] (PySem.eval (.Name x xp) X.env)
      let iv ← holding [v, ov] (PySem.eval (.Constant (.int (k : Int)) j p) X.env)
      standAt p2
      holding [v, ov, iv] (setItem ov iv v)
      release [v, ov, iv] []) := by intro _; rfl) (hs : swapsWithSole [.Subscript (.Name x xp) (.Constant (.int (k : Int)) j p) p2] e pos.line X.env = pure false := by rfl) (hw : swappedStores [.Subscript (.Name x xp) (.Constant (.int (k : Int)) j p) p2] e X.env = pure none := by rfl)
    (h1 : (assignEach [.Subscript (.Name x xp) (.Constant (.int (k : Int)) j p) p2] X.env).map (·.2) = [assign (.Subscript (.Name x xp) (.Constant (.int (k : Int)) j p) p2) X.env] := by rfl) : PS X (.Assign [.Subscript (.Name x xp) (.Constant (.int (k : Int)) j p) p2] e pos) (tK (kTin k f)) :=
  (ps_asg he (pg_sub hx (e_int (i := (k : Int))) set_list ha) hs hw h1).imp fun D σ H ⟨F0, H0, F, ρ, t, a, b, c, out, x0, f0, hh, s, q, k1, k2⟩ => by
    obtain ⟨d, hd, q⟩ := Option.bind_eq_some_iff.mp q
    split at q
    · rename_i i
      cases q
      refine ⟨F, ρ, t, a, b, c, _, s, hd, fun v F1 H1 x1 r1 => ?_⟩
      cases r1
      have s1 := s.ext x1
      refine ⟨_, s1.z0, F1, ρ, .int k, s1.fh, s1.env, rfl, fun y F2 H2 x2 r2 => ?_⟩
      cases r2
      have s2 := s1.ext x2
      have sm : Same F2 (upd H2 t (.lst ([V.int a, .int b, .int c].set k (.int i)))) := fun z o e => by
        rw [upd_ne (fun h => by rw [h, s2.ft] at e; cases e)]
        exact s2.fh _ _ e
      refine ⟨t, _, (k : Int), k, rfl, rfl, s2.tin, ?_, ?_⟩
      · match k, hk with
        | 0, _ => rfl
        | 1, _ => rfl
        | 2, _ => rfl
      · have xx := (x0.trans x1.toT s.ft ⟨_, s.tin⟩).trans x2.toT s1.ft ⟨_, s1.tin⟩
        refine k1 _ _ _ _ rfl F2 σ _ ⟨xx.ff, sm, fun z o hz e => by rw [upd_ne hz]; exact xx.hh z o hz e, xx.nw⟩ ⟨sm, s2.env.extT (t := t) s2.pu (Same.refl _), s2.z0, s2.ft, ?_, s2.pu⟩
        rw [upd_same]
        match k, hk with
        | 0, _ => rfl
        | 1, _ => rfl
        | 2, _ => rfl
    · cases q
def kRet (f : DJ) : DK := fun a b c ρ => (f a b c ρ).map fun d => .rt a b c d
theorem k_ret {f : DJ} (h : PE X e (tJ f)) : PS X (.Return (some e) pos) (tK (kRet f)) := (ps_ret h).imp fun D σ H ⟨F0, H0, F, ρ, t, a, b, c, out, x0, f0, hh, s, q, k1, k2⟩ => by
  obtain ⟨d, hd, e⟩ := Option.map_eq_some_iff.mp q
  subst e
  exact ⟨F, ρ, t, a, b, c, d, s, hd, fun v F1 H1 x1 r1 => k2 _ _ _ _ rfl v F1 H1 (x0.trans x1.toT s.ft ⟨_, s.tin⟩) (x1.hh _ _ s.tin) r1⟩
def kIf (fa fb : DJ) (g : PyData → PyData → Option PyData) (f1 f2 : DK) : DK := fun a b c ρ => (j2 g fa fb a b c ρ).bind fun d => match d with | .bool true => f1 a b c ρ | .bool false => f2 a b c ρ | _ => none
theorem k_if {op : CmpOp} {g : PyData → PyData → Option PyData} {fa fb : DJ} {f1 f2 : DK} {as bs : List Stmt} {p : Pos} (ho : OpR X (compareOp op) (rD g)) (ha : PE X ea (tJ fa)) (hb : PE X eb (tJ fb)) (h1 : PSs X as (tK f1)) (h2 : PSs X bs (tK f2)) (hm : behindInMarks op eb = false := by first | exact nomark _ | rfl) :
    PS X (.If (.Compare ea [op] [eb] p) as bs pos) (tK (kIf fa fb g f1 f2)) := (ps_if (pt_cmpR ho ha hb hm) h1 h2).imp fun D σ H ⟨F0, H0, F, ρ, t, a, b, c, out, x0, f0, hh, s, q, k1, k2⟩ => by
  obtain ⟨d, hd, q⟩ := Option.bind_eq_some_iff.mp q
  refine j2_of ⟨F, ρ, t, a, b, c, d, s, hd, fun v F1 H1 x1 r1 => ?_⟩
  have s1 := s.ext x1
  have xx := x0.trans x1.toT s.ft ⟨_, s.tin⟩
  split at q
  · cases r1
    exact ⟨true, rfl, iteT ⟨F0, H0, F1, ρ, t, a, b, c, out, xx, f0, hh, s1, q, k1, k2⟩⟩
  · cases r1
    exact ⟨false, rfl, iteF ⟨F0, H0, F1, ρ, t, a, b, c, out, xx, f0, hh, s1, q, k1, k2⟩⟩
  · cases q
end
end Ea
end
section
set_option Elab.async false
set_option linter.all false
set_option maxRecDepth 100000
set_option maxHeartbeats 4000000
/-! EaK: calls by keywords alone, told in the order that is the parameters' turned round -/
namespace Ea
open PySem PySem.Spec L2
open PyProof.Rows hiding St
def krev {α : Type} : List α → List α → List α
  | [], ws => ws.reverse
  | _ :: _, _ => []
theorem valsRev {vs : List V} {us : List Value} (r : Vals vs us) : Vals vs.reverse us.reverse := by
  induction r with
  | nil => exact .nil
  | cons a _ ih => rw [List.reverse_cons, List.reverse_cons]; exact ih.append (.cons a .nil)
theorem krev_rel {vs : List V} {us : List Value} {zs : List V} {ws : List Value} (r : Vals vs us) (rz : Vals zs ws) : Vals (krev vs zs) (krev us ws) := by
  cases r with
  | cons _ _ => exact .nil
  | nil => exact valsRev rz
structure CallDK (P : Program) (w : World) (K : PySem.W.Frag) (mg : Str → Option Value) (base : Heap) (x : Str) (k n : Nat) (ks : List Str) (g : List PyData → Option PyData) : Prop where
  ex : ∃ f fd ps, FnOk P w K mg base CX0 k f fd ps (spP n g) ∧ mg x = some (.ref f) ∧ PySem.W.keepIn K (.ref f) = true ∧ KBinds K fd ps ks krev krev
section
variable {K : PySem.W.Frag}
theorem funKrev {x qual : Str} {st : Stmt} {f : Addr} {fd : FuncData} {ps ks : List Str} (F : Fun K x qual st f fd) (hp : ps ≠ [])
    (h : ∀ (kV doc pm : Value) (an : Option Addr) (cdv ct : Value) (ws : List Value), ws.length = ps.length → bindArgs (PySem.W.fnOf x qual (defArgs st) (defBody st) (defScope st) .none kV doc pm an cdv ct) ⟨[], ks.zip ws⟩ = pure (ps.zip ws.reverse)) : KBinds K fd ps ks krev krev := by
  obtain ⟨oc, od, kV, doc, pm, an, cdv, ct, osl, rfl, lk, hcd⟩ := F.ex
  refine ⟨fun s us ws _ hl => ?_, krev_rel⟩
  cases us with
  | cons _ _ => exact absurd hl (by show ¬ (0 = ps.length); cases ps with | nil => exact absurd rfl hp | cons _ _ => simp)
  | nil => exact .of_eq (h kV doc pm an cdv ct ws (by rw [← hl]; exact (List.length_reverse).symm))
theorem funKb4 {x qual : Str} {st : Stmt} {f : Addr} {fd : FuncData} {ps ks : List Str} (F : Fun K x qual st f fd) (hp : ps ≠ [])
    (h : ∀ (kV doc pm : Value) (an : Option Addr) (cdv ct : Value) (a b c d : Value), bindArgs (PySem.W.fnOf x qual (defArgs st) (defBody st) (defScope st) .none kV doc pm an cdv ct) ⟨[], ks.zip [a, b, c, d]⟩ = pure (ps.zip [d, c, b, a])) : KBinds K fd ps ks kbG kbG := by
  obtain ⟨oc, od, kV, doc, pm, an, cdv, ct, osl, rfl, lk, hcd⟩ := F.ex
  refine ⟨fun s us ws _ hl => ?_, kbG_rel⟩
  have no : ([] : List Value).length ≠ ps.length := by
    cases ps with
    | nil => exact absurd rfl hp
    | cons _ _ => simp
  match us, ws, hl with
  | [], [a, b, c, d], _ => exact .of_eq (h kV doc pm an cdv ct a b c d)
  | [], [], hl => exact absurd hl no
  | [], [_], hl => exact absurd hl no
  | [], [_, _], hl => exact absurd hl no
  | [], [_, _, _], hl => exact absurd hl no
  | [], _ :: _ :: _ :: _ :: _ :: _, hl => exact absurd hl no
  | _ :: _, _, hl => exact absurd hl no
end
theorem rplRev {F : Hp} {vs : List V} {ds : List PyData} (r : RpL F vs ds) : RpL F vs.reverse ds.reverse := r.reverse
theorem e_callDK {X : Cx} {pos : Pos} {x : Str} {p : Pos} {kws : List Keyword} {k n : Nat} {ks : List Str} {g : List PyData → Option PyData} {fs : DA} (C : CallDK X.prog X.w X.K X.mg X.base x k n ks g) (hr : Room k X.A) (hn : ∀ ds d, g ds = some d → ds.length = n) (hg : Gl X x)
    (hkw : PK X kws (tA fs)) (hall : (backToKw pos (keywordEach kws X.env)).all (·.1.isSome) = true := by rfl) (hks : (backToKw pos (keywordEach kws X.env)).filterMap (·.1) = ks := by rfl)
    (hdb : (x == ("__debug__" : Str)) = false := by decide)
    (hpl : ((backTo pos (starEach [] X.env)).any (·.1) || (backToKw pos (keywordEach kws X.env)).any (·.1.isNone)) = false := by rfl) :
    PE X (.Call (.Name x p) [] kws pos) (tE (eCall (fun ds => g ds.reverse) fs)) := by
  obtain ⟨f, fd, ps, F, m, kp, kb⟩ := C.ex
  exact e_callK (pm := List.reverse) F hr hn (fun F zs ds r => rplRev r) hg m kp kb hkw hall hks hdb hpl
end Ea
end
section
set_option Elab.async false
set_option linter.all false
set_option maxRecDepth 100000
set_option maxHeartbeats 4000000
namespace Ea
open PySem PySem.Spec L2
open PyProof.Rows hiding St
section
variable {P : Program} {w : World} {K : PySem.W.Frag} {mg : Str → Option Value} {base : Heap}
abbrev s_l_take : Stmt := topS 56
abbrev N_l_take : List Str := ["_law_tin", "_law_below_so", "_law_drawn_so", "_law_once_so", "_law_wide_so", "_law_twice_so"]
theorem sc_l_take : FnScope N_l_take ["_law_tin", "_law_below_so"] (defScope s_l_take) := ⟨rfl, rfl, rfl, by decide +kernel, rfl, by decide +kernel, by decide +kernel⟩
def b_l_take : DK := (kSeq (kIf (jTin 0) (fun _ _ _ => (eC (.int 0))) gGt (kSeq (kSet 2 (j2 gMod (jInt (jTin 0)) (fun _ _ _ => (eV 1)))) (kSeq (kTin 0 (j2 gFdiv (jTin 0) (fun _ _ _ => (eV 1)))) (kRet (fun _ _ _ => (eV 2))))) kNil) (kSeq (kTin 2 (j2 gAdd (jTin 2) (fun _ _ _ => (eC (.int 1))))) (kSeq (kSet 3 (j2 gMod (jInt (j2 gMul (j2 gAdd (jTin 1) (j2 gMul (fun _ _ _ => (eC (.int 48271))) (jTin 2))) (j2 gAdd (fun _ _ _ => (eC (.int 39373))) (jTin 2)))) (fun _ _ _ => (eC (.int 2147483647))))) (kSeq (kSet 4 (fun _ _ _ => (e2 gAdd (e2 gMod (eCall gInt (aCons (eV 3) aNil)) (eC (.int 40009))) (eC (.int 7))))) (kSeq (kSet 5 (j2 gMod (jInt (j2 gMul (j2 gAdd (j2 gAdd (fun _ _ _ => (eV 3)) (jTin 2)) (j2 gFdiv (jTin 1) (fun _ _ _ => (eC (.int 1000003))))) (fun _ _ _ => (eV 4)))) (fun _ _ _ => (eC (.int 2147483629))))) (kRet (fun _ _ _ => (e2 gMod (eCall gInt (aCons (e2 gFdiv (e2 gMod (eCall gInt (aCons (e2 gAdd (e2 gMul (eV 5) (eC (.int 48271))) (eV 3)) aNil)) (eC (.int 2147483587))) (eC (.int 64))) aNil)) (eV 1)))))))))
theorem body_l_take (T : Tp mg) (cdv : Value) (A : Around) (outer : List Env) (s : Shared) (H : Hp) (E : XK) (f : Addr) : PSs (cxOf CX0 P w K mg base N_l_take "_law_take" (defScope s_l_take) f cdv A outer s H E).nox (defBody s_l_take) (tK b_l_take) :=
  (ks_cons (k_if oGt (j_tin (k := 0) (pv 0) (by decide)) (j_of e_int) (ks_cons (k_set (i := 2) (by decide) sc_l_take.nd rfl (by first | exact Or.inl rfl | exact Or.inr rfl) (j_op oMod (j_int rfl T.int PyProof.Rows.boot_int (j_tin (k := 0) (pv 0) (by decide))) (j_of (v 1)))) (ks_cons (k_tin (k := 0) (by decide) (pv 0) (j_op oFdiv (j_tin (k := 0) (pv 0) (by decide)) (j_of (v 1)))) (ks_one (k_ret (j_of (v 2)))))) ks_nil) (ks_cons (k_tin (k := 2) (by decide) (pv 0) (j_op oAdd (j_tin (k := 2) (pv 0) (by decide)) (j_of e_int))) (ks_cons (k_set (i := 3) (by decide) sc_l_take.nd rfl (by first | exact Or.inl rfl | exact Or.inr rfl) (j_op oMod (j_int rfl T.int PyProof.Rows.boot_int (j_op oMul (j_op oAdd (j_tin (k := 1) (pv 0) (by decide)) (j_op oMul (j_of e_int) (j_tin (k := 2) (pv 0) (by decide)))) (j_op oAdd (j_of e_int) (j_tin (k := 2) (pv 0) (by decide))))) (j_of e_int))) (ks_cons (k_set (i := 4) (by decide) sc_l_take.nd rfl (by first | exact Or.inl rfl | exact Or.inr rfl) (j_of (e_op oAdd (e_op oMod (e_callTy cInt rfl T.int PyProof.Rows.boot_int (a_cons (v 3) a_nil)) e_int) e_int))) (ks_cons (k_set (i := 5) (by decide) sc_l_take.nd rfl (by first | exact Or.inl rfl | exact Or.inr rfl) (j_op oMod (j_int rfl T.int PyProof.Rows.boot_int (j_op oMul (j_op oAdd (j_op oAdd (j_of (v 3)) (j_tin (k := 2) (pv 0) (by decide))) (j_op oFdiv (j_tin (k := 1) (pv 0) (by decide)) (j_of e_int))) (j_of (v 4)))) (j_of e_int))) (ks_one (k_ret (j_of (e_op oMod (e_callTy cInt rfl T.int PyProof.Rows.boot_int (a_cons (e_op oFdiv (e_op oMod (e_callTy cInt rfl T.int PyProof.Rows.boot_int (a_cons (e_op oAdd (e_op oMul (v 5) e_int) (v 3)) a_nil)) e_int) e_int) a_nil)) (v 1))))))))))
end
end Ea
end
section
set_option Elab.async false
set_option linter.all false
set_option maxRecDepth 100000
set_option maxHeartbeats 4000000
/-! EqT: what _law_take gives -/
namespace Ea
open PySem PySem.Spec L2
open PyProof.Rows hiding St
def gn_l_take : List PyData → Option (List PyData × Nat)
  | [.int m] => if decide (0 < m) && decide (m < 1073741824) then some (rgD 0 m.toNat, 1) else none
  | _ => none
theorem gn_len_l_take {ds : List PyData} {d : List PyData × Nat} (h : gn_l_take ds = some d) : ds.length = 1 := by
  unfold gn_l_take at h
  split at h
  · rfl
  · cases h
theorem add_ii (i j : Int) : gAdd (.int i) (.int j) = some (.int (i + j)) := rfl
theorem gt_ii (i j : Int) : gGt (.int i) (.int j) = some (.bool (decide (j < i))) := rfl
theorem mod_ii {i j : Int} (h : 0 < j) : gMod (.int i) (.int j) = some (.int (i % j)) := by simp [gMod, intOp, h]
theorem fdiv_ii {i j : Int} (h : 0 < j) (h2 : j < 1073741824) : gFdiv (.int i) (.int j) = some (.int (i / j)) := by simp [gFdiv, intOp, h, h2]
theorem mul_l {i j : Int} (h : -18446744073709551616 < i) (h2 : i < 18446744073709551616) : gMul (.int i) (.int j) = some (.int (i * j)) := by simp [gMul, h, h2]
theorem mul_r {i j : Int} (h : -18446744073709551616 < j) (h2 : j < 18446744073709551616) : gMul (.int i) (.int j) = some (.int (i * j)) := by simp [gMul, h, h2]
theorem int_i (i : Int) : gInt [.int i] = some (.int i) := rfl
theorem take_pos {a b c m : Int} (h : 0 < a) (hm : 0 < m) (hm2 : m < 1073741824) : b_l_take a b c (startN 6 [.int m]) = some (.rt (a / m) b c (.int (a % m))) := by
  have e : startN 6 [.int m] = [.no, .d (.int m), .no, .no, .no, .no] := rfl
  rw [e]
  unfold b_l_take
  simp only [kSeq, kIf, kSet, kTin, kRet, j2, jInt, jTin, pick3, put3, eC, eV, kNil, Option.bind_some, Option.map_some, List.getElem?_cons_zero, List.getElem?_cons_succ, gt_ii, h, decide_true, mod_ii hm, fdiv_ii hm hm2, int_i, List.set_cons_succ, List.set_cons_zero]
theorem take_neg {a b c m : Int} (h : ¬ 0 < a) (hm : 0 < m) (hb : 0 ≤ b) (hb2 : b < 4611686018427387904) (hc : 0 ≤ c) (hc2 : c ≤ 1099511627776) : ∃ r : Int, b_l_take a b c (startN 6 [.int m]) = some (.rt a b (c + 1) (.int (r % m))) := by
  have e : startN 6 [.int m] = [.no, .d (.int m), .no, .no, .no, .no] := rfl
  rw [e]
  unfold b_l_take
  have m1 : gMul (.int 48271) (.int (c + 1)) = some (.int (48271 * (c + 1))) := mul_l (by decide) (by decide)
  have m2 : gMul (.int (b + 48271 * (c + 1))) (.int (39373 + (c + 1))) = some (.int ((b + 48271 * (c + 1)) * (39373 + (c + 1)))) := mul_r (by omega) (by omega)
  generalize ho : ((b + 48271 * (c + 1)) * (39373 + (c + 1))) % 2147483647 = once at *
  have m3 : gMul (.int (once + (c + 1) + b / 1000003)) (.int (once % 40009 + 7)) = some (.int ((once + (c + 1) + b / 1000003) * (once % 40009 + 7))) := mul_r (by omega) (by omega)
  generalize ht : ((once + (c + 1) + b / 1000003) * (once % 40009 + 7)) % 2147483629 = twice at *
  have m4 : gMul (.int twice) (.int 48271) = some (.int (twice * 48271)) := mul_r (by decide) (by decide)
  have d1 : gMod (.int ((b + 48271 * (c + 1)) * (39373 + (c + 1)))) (.int 2147483647) = some (.int once) := by rw [mod_ii (by decide), ho]
  have d2 : gMod (.int once) (.int 40009) = some (.int (once % 40009)) := mod_ii (by decide)
  have d3 : gMod (.int ((once + (c + 1) + b / 1000003) * (once % 40009 + 7))) (.int 2147483629) = some (.int twice) := by rw [mod_ii (by decide), ht]
  have d4 : gMod (.int (twice * 48271 + once)) (.int 2147483587) = some (.int ((twice * 48271 + once) % 2147483587)) := mod_ii (by decide)
  have d5 : gFdiv (.int b) (.int 1000003) = some (.int (b / 1000003)) := fdiv_ii (by decide) (by decide)
  have d6 : gFdiv (.int ((twice * 48271 + once) % 2147483587)) (.int 64) = some (.int ((twice * 48271 + once) % 2147483587 / 64)) := fdiv_ii (by decide) (by decide)
  refine ⟨(twice * 48271 + once) % 2147483587 / 64, ?_⟩
  simp only [kSeq, kIf, kSet, kTin, kRet, j2, jInt, jTin, pick3, put3, eC, eV, kNil, e2, eCall, aCons, aNil, Option.bind_some, Option.map_some, List.getElem?_cons_zero, List.getElem?_cons_succ, gt_ii, h, decide_false, add_ii, m1, m2, m3, m4, d1, d2, d3, d4, d5, d6, mod_ii hm, int_i, List.set_cons_succ, List.set_cons_zero]
section
variable {P : Program} {w : World} {K : PySem.W.Frag} {mg : Str → Option Value} {base : Heap}
theorem ok_l_take {f : Addr} {fd : FuncData} (F : Fun K "_law_take" "_law_take" s_l_take f fd) (T : Tp mg) : FnOk P w K mg base CX0 1 f fd ["_law_tin", "_law_below_so"] (spN 1 gn_l_take) := by
  refine F.ok (k := 0) sc_l_take (fun vs H Q E ⟨F', ds, t, n0, ws, l, c, ev, hl, _⟩ => by rw [ev]; show ws.length + 1 = 2; omega) (fun cdv A outer s H vs Q E hr h => ⟨_, body_l_take T cdv A outer s H E f, ?_⟩)
  obtain ⟨F', ds, t, n0, ws, l, cc, ev, hl, sm, ft, ⟨a, b, c, e3, ha, hb, hb2, hc0, hcn⟩, r, q, hc, k⟩ := h
  subst ev
  unfold gn_l_take at q
  split at q
  case h_2 => cases q
  rename_i m
  split at q
  case isFalse => cases q
  rename_i hm
  simp only [Bool.and_eq_true, decide_eq_true_eq] at hm
  cases q
  have st := start_NSt (n := n0) (m := 6) (N := N_l_take) sm ft ⟨a, b, c, e3, ha, hb, hb2, hc0, hcn⟩ r rfl (show 2 ≤ 6 by decide)
  have s3 : N3 t a b c F' H (L2.start N_l_take (V.ref t :: ws)) (startN 6 [.int m]) := ⟨st.fh, st.env, st.z0, st.ft, e3, st.pu⟩
  have mem : ∀ x : Int, PyData.int (x % m) ∈ rgD 0 m.toNat := fun x => by
    have h1 := Int.emod_nonneg x (show m ≠ 0 by omega)
    have h2 := Int.emod_lt_of_pos x hm.1
    have e := rgD_get m.toNat 0 (x % m).toNat (by omega)
    have e2 : (0 : Int) + ((x % m).toNat : Int) = x % m := by omega
    rw [e2] at e
    exact List.mem_of_getElem? e
  unfold CAP at hc
  by_cases h : 0 < a
  · refine ⟨F', H, F', _, t, a, b, c, _, ExtT.refl sm, ft, ⟨_, e3⟩, s3, take_pos h hm.1 hm.2, (fun a' b' c' ρ' e => nomatch e), fun a' b' c' d e v F2 H2 x2 t2 rv => ?_⟩
    cases e
    exact k _ (mem a) v F2 H2 x2 ⟨_, _, _, t2, Int.ediv_nonneg ha (by omega), hb, hb2, hc0, by omega⟩ rv
  · obtain ⟨x, hx⟩ := take_neg (a := a) (b := b) (c := c) (m := m) h hm.1 hb hb2 hc0 (by omega)
    refine ⟨F', H, F', _, t, a, b, c, _, ExtT.refl sm, ft, ⟨_, e3⟩, s3, hx, (fun a' b' c' ρ' e => nomatch e), fun a' b' c' d e v F2 H2 x2 t2 rv => ?_⟩
    cases e
    exact k _ (mem x) v F2 H2 x2 ⟨_, _, _, t2, ha, hb, hb2, by omega, by push_cast; omega⟩ rv
/-- a weaker promise of what may come -/
theorem spN_imp {k m : Nat} {f : Addr} {fd : FuncData} {ps : List Str} {g g' : List PyData → Option (List PyData × Nat)} (F : FnOk P w K mg base CX0 k f fd ps (spN m g)) (h : ∀ ds l c, g' ds = some (l, c) → ∃ l' c', g ds = some (l', c') ∧ c' ≤ c ∧ ∀ d ∈ l', d ∈ l) : FnOk P w K mg base CX0 k f fd ps (spN m g') :=
  F.imp fun vs H Q E ⟨F', ds, t, n0, ws, l, c, ev, hl, sm, ft, i, r, q, hc, k⟩ => by
    obtain ⟨l', c', h1, h2, h3⟩ := h ds l c q
    exact ⟨F', ds, t, n0, ws, l', c', ev, hl, sm, ft, i, r, h1, by omega, fun d hd v F2 H2 x2 i2 rv => k d (h3 d hd) v F2 H2 x2 (i2.mono (by omega)) rv⟩
end
end Ea
end
section
set_option Elab.async false
set_option linter.all false
set_option maxRecDepth 100000
set_option maxHeartbeats 4000000
namespace Ea
open PySem PySem.Spec L2
open PyProof.Rows hiding St
section
variable {P : Program} {w : World} {K : PySem.W.Frag} {mg : Str → Option Value} {base : Heap}
abbrev s_l_of : Stmt := topS 58
abbrev N_l_of : List Str := ["_law_tin", "_law_goods_so"]
theorem sc_l_of : FnScope N_l_of ["_law_tin", "_law_goods_so"] (defScope s_l_of) := ⟨rfl, rfl, rfl, by decide +kernel, rfl, by decide +kernel, by decide +kernel⟩
def b_l_of : LS := (nsRet (n2 gIx (nP (eV 1)) (nCall gn_l_take (aCons (eCall gLen (aCons (eV 1) aNil)) aNil))))
def g_l_of : List PyData → Option (List PyData × Nat) := defN 1 2 b_l_of
theorem ok_l_of {f : Addr} {fd : FuncData} (F : Fun K "_law_of" "_law_of" s_l_of f fd) (T : Tp mg) (n_l_take : CallN P w K mg base "_law_take" 1 1 gn_l_take) : FnOk P w K mg base CX0 2 f fd ["_law_tin", "_law_goods_so"] (spN 1 g_l_of) :=
  okN (k := 1) (g := b_l_of) F sc_l_of rfl rfl (by decide) rfl fun cdv A outer s H E hr => (nss_one (ns_ret (n_ix (n_of (v 1)) (n_call n_l_take (hr.mono (by decide)) (fun _ _ h => gn_len_l_take h) rfl (pv 0) (a_cons (e_callB cLen rfl T.len PySem.boot_len (a_cons (v 1) a_nil)) a_nil)))))
abbrev s_l_loose_net : Stmt := topS 72
abbrev N_l_loose_net : List Str := ["_law_tin", "_law_many_so", "_law_chance_so", "_law_pairs_so", "_law_high_so", "_law_low_so"]
theorem sc_l_loose_net : FnScope N_l_loose_net ["_law_tin", "_law_many_so"] (defScope s_l_loose_net) := ⟨rfl, rfl, rfl, by decide +kernel, rfl, by decide +kernel, by decide +kernel⟩
def b_l_loose_net : LS := (nsSeq (nsAsg (nTup (naCons (n2 gAdd (nP (eC (.int 2))) (nCall gn_l_take (aCons (eC (.int 4)) aNil))) (naCons (nP (eLst aNil)) naNil))) (gTupD 2 (gsCons (gN 2) (gsCons (gN 3) gsNil)))) (nsSeq (nsFor (iRg1 (eV 1)) (gN 4) (nsAsg (n2 gAdd (nP (eV 3)) (nLc (niP (iRg1 (eV 4))) [5] (gN 5) (nB (n2 gEqI (nCall gn_l_take (aCons (eV 2) aNil)) (nP (eC (.int 0))))) (nP (eTup (aCons (eV 5) (aCons (eV 4) aNil)))))) (gN 3))) (nsRet (nP (eCall d_l_net (aCons (eV 1) (aCons (eV 3) aNil)))))))
def g_l_loose_net : List PyData → Option (List PyData × Nat) := defN 1 6 b_l_loose_net
theorem ok_l_loose_net {f : Addr} {fd : FuncData} (F : Fun K "_law_loose_net" "_law_loose_net" s_l_loose_net f fd) (T : Tp mg) (c_l_net : CallD P w K mg base "_law_net" 1 2 d_l_net) (n_l_take : CallN P w K mg base "_law_take" 1 1 gn_l_take) : FnOk P w K mg base CX0 2 f fd ["_law_tin", "_law_many_so"] (spN 1 g_l_loose_net) :=
  okN (k := 1) (g := b_l_loose_net) F sc_l_loose_net rfl rfl (by decide) rfl fun cdv A outer s H E hr => (nss_cons (ns_asg (vs := [2, 3]) (by decide) (n_tup (na_cons (n_op oAdd (n_of e_int) (n_call n_l_take (hr.mono (by decide)) (fun _ _ h => gn_len_l_take h) rfl (pv 0) (a_cons e_int a_nil))) (na_cons (n_of (e_lst a_nil)) na_nil))) (g_tup rfl (gs_cons (g_name (i := 2) sc_l_loose_net.nd rfl (by first | exact Or.inl rfl | exact Or.inr rfl)) (gs_cons (g_name (i := 3) sc_l_loose_net.nd rfl (by first | exact Or.inl rfl | exact Or.inr rfl)) gs_nil)))) (nss_cons (ns_for (vs := [4]) (by decide) PassesOwn.never rfl (i_rg1 rfl T.range (v 1)) (g_name (i := 4) sc_l_loose_net.nd rfl (by first | exact Or.inl rfl | exact Or.inr rfl)) (nss_one (ns_set (i := 3) (by decide) sc_l_loose_net.nd rfl (by first | exact Or.inl rfl | exact Or.inr rfl) (n_op oAdd (n_of (v 3)) (n_lc (own := [("_law_low_so", 5)]) rfl sc_l_loose_net.nd (by decide) (ni_of (i_rg1 rfl T.range (v 4))) (blkOk_by (own := [("_law_low_so", 5)]) (N := N_l_loose_net) (sc := defScope s_l_loose_net) (by decide +kernel)) (fun _ _ _ _ _ => (g_name (i := 5) sc_l_loose_net.nd rfl (by first | exact Or.inl rfl | exact Or.inr rfl))) (fun _ _ _ _ _ => (nts_one (n_cmp oEqI (n_call n_l_take (hr.mono (by decide)) (fun _ _ h => gn_len_l_take h) rfl (pv 0) (a_cons (v 2) a_nil)) (n_of e_int)))) (fun _ _ _ _ _ => (n_of (e_tup (a_cons (v 5) (a_cons (v 4) a_nil)))))))))) (nss_one (ns_ret (n_of (e_callD c_l_net (hr.mono (by decide)) (fun _ _ h => defD_len h) rfl (a_cons (v 1) (a_cons (v 3) a_nil))))))))
end
end Ea
end
section
set_option Elab.async false
set_option linter.all false
set_option maxRecDepth 100000
set_option maxHeartbeats 4000000
/-! EqA: data compared in the kernel -/
namespace Ea
open PySem PySem.Spec L2
open PyProof.Rows hiding St
mutual
def beqD : PyData → PyData → Bool
  | .none, .none => true
  | .bool a, .bool b => a == b
  | .int a, .int b => decide (a = b)
  | .str a, .str b => decide (a = b)
  | .list xs, .list ys => beqL xs ys
  | .tuple xs, .tuple ys => beqL xs ys
  | .dict a, .dict b => beqK a b
  | _, _ => false
def beqL : List PyData → List PyData → Bool
  | [], [] => true
  | x :: xs, y :: ys => beqD x y && beqL xs ys
  | _, _ => false
def beqK : List (PyData × PyData) → List (PyData × PyData) → Bool
  | [], [] => true
  | (a, x) :: xs, (b, y) :: ys => beqD a b && beqD x y && beqK xs ys
  | _, _ => false
end
mutual
theorem beqD_eq : ∀ {a b : PyData}, beqD a b = true → a = b
  | .none, b, h => by cases b <;> simp_all [beqD]
  | .bool x, b, h => by cases b <;> simp_all [beqD]
  | .int x, b, h => by cases b <;> simp_all [beqD]
  | .str x, b, h => by cases b <;> simp_all [beqD]
  | .list xs, b, h => by
    cases b with
    | list ys => rw [beqD] at h; rw [beqL_eq h]
    | _ => simp [beqD] at h
  | .tuple xs, b, h => by
    cases b with
    | tuple ys => rw [beqD] at h; rw [beqL_eq h]
    | _ => simp [beqD] at h
  | .dict xs, b, h => by
    cases b with
    | dict ys => rw [beqD] at h; rw [beqK_eq h]
    | _ => simp [beqD] at h
theorem beqL_eq : ∀ {a b : List PyData}, beqL a b = true → a = b
  | [], b, h => by cases b <;> simp_all [beqL]
  | x :: xs, b, h => by
    cases b with
    | nil => simp [beqL] at h
    | cons y ys =>
      rw [beqL] at h
      obtain ⟨h1, h2⟩ := Bool.and_eq_true_iff.mp h
      rw [beqD_eq h1, beqL_eq h2]
theorem beqK_eq : ∀ {a b : List (PyData × PyData)}, beqK a b = true → a = b
  | [], b, h => by cases b <;> simp_all [beqK]
  | (a, x) :: xs, b, h => by
    cases b with
    | nil => simp [beqK] at h
    | cons y ys =>
      obtain ⟨b, y⟩ := y
      rw [beqK] at h
      obtain ⟨h1, h2⟩ := Bool.and_eq_true_iff.mp h
      obtain ⟨h0, h1⟩ := Bool.and_eq_true_iff.mp h1
      rw [beqD_eq h0, beqD_eq h1, beqK_eq h2]
end
def beqO : Option PyData → PyData → Bool
  | some a, b => beqD a b
  | none, _ => false
theorem beqO_eq {a : Option PyData} {b : PyData} (h : beqO a b = true) : a = some b := by
  cases a with
  | none => cases h
  | some x => rw [beqD_eq h]
/-- ints, pairs, ORDERS as data -/
def iD (n : Nat) : PyData := .int n
def pD (p : Nat × Nat) : PyData := .tuple [iD p.1, iD p.2]
def oD (n : Nat) (ties : List (Nat × Nat)) : PyData := .tuple [iD n, .tuple (ties.map pD)]
def chainT (n : Nat) : List (Nat × Nat) := (List.range (n - 1)).map fun k => (k, k + 1)
end Ea
end
section
set_option Elab.async false
set_option linter.all false
set_option maxRecDepth 100000
set_option maxHeartbeats 4000000
/-! EqU: what _law_of and _law_loose_net give -/
namespace Ea
open PySem PySem.Spec L2
open PyProof.Rows hiding St
def NETS1 : List PyData := [oD 1 []]
def NETS2 : List PyData := [oD 2 [], oD 2 [(0, 1)]]
def NETS3 : List PyData := [oD 3 [], oD 3 [(0, 1)], oD 3 [(0, 2)], oD 3 [(1, 2)], oD 3 [(0, 1), (0, 2)], oD 3 [(0, 1), (1, 2)], oD 3 [(0, 2), (1, 2)]]
def NETS4 : List PyData := [oD 4 [], oD 4 [(0, 1)], oD 4 [(0, 2)], oD 4 [(1, 2)], oD 4 [(0, 3)], oD 4 [(1, 3)], oD 4 [(2, 3)], oD 4 [(0, 1), (0, 2)], oD 4 [(0, 1), (1, 2)], oD 4 [(0, 1), (0, 3)], oD 4 [(0, 1), (1, 3)], oD 4 [(0, 1), (2, 3)], oD 4 [(0, 2), (1, 2)], oD 4 [(0, 2), (0, 3)], oD 4 [(0, 2), (1, 3)], oD 4 [(0, 2), (2, 3)], oD 4 [(0, 3), (1, 2)], oD 4 [(1, 2), (1, 3)], oD 4 [(1, 2), (2, 3)], oD 4 [(0, 3), (1, 3)], oD 4 [(0, 3), (2, 3)], oD 4 [(1, 3), (2, 3)], oD 4 [(0, 1), (0, 2), (0, 3)], oD 4 [(0, 1), (0, 2), (1, 3)], oD 4 [(0, 1), (0, 2), (2, 3)], oD 4 [(0, 1), (0, 3), (1, 2)], oD 4 [(0, 1), (1, 2), (1, 3)], oD 4 [(0, 1), (1, 2), (2, 3)], oD 4 [(0, 1), (0, 3), (2, 3)], oD 4 [(0, 1), (1, 3), (2, 3)], oD 4 [(0, 2), (0, 3), (1, 2)], oD 4 [(0, 2), (1, 2), (1, 3)], oD 4 [(0, 2), (1, 2), (2, 3)], oD 4 [(0, 2), (0, 3), (1, 3)], oD 4 [(0, 2), (1, 3), (2, 3)], oD 4 [(0, 3), (1, 2), (1, 3)], oD 4 [(0, 3), (1, 2), (2, 3)], oD 4 [(0, 3), (1, 3), (2, 3)], oD 4 [(0, 1), (0, 2), (1, 3), (2, 3)], oD 4 [(0, 2), (0, 3), (1, 2), (1, 3)]]

theorem allD_of {α β : Type} {g : α → Option β} {P : β → Prop} : ∀ {l : List α}, (∀ a ∈ l, ∃ b, g a = some b ∧ P b) → ∃ m, allD g l = some m ∧ ∀ b ∈ m, P b
  | [], _ => ⟨[], rfl, fun _ h => nomatch h⟩
  | a :: r, h => by
    obtain ⟨b, hb, pb⟩ := h a (.head _)
    obtain ⟨m, hm, pm⟩ := allD_of (l := r) fun x hx => h x (.tail _ hx)
    refine ⟨b :: m, by simp [allD, hb, hm], fun x hx => ?_⟩
    rcases List.mem_cons.mp hx with rfl | hx
    · exact pb
    · exact pm x hx
theorem cross_of {α β γ : Type} {g : α → β → Option γ} {P : γ → Prop} {la : List α} {lb : List β} (h : ∀ a ∈ la, ∀ b ∈ lb, ∃ c, g a b = some c ∧ P c) : ∃ ls, cross g la lb = some ls ∧ ∀ c ∈ ls, P c := by
  obtain ⟨m, hm, pm⟩ := allD_of (g := fun a => allD (g a) lb) (P := fun r => ∀ c ∈ r, P c) (l := la) fun a ha => allD_of fun b hb => h a ha b hb
  refine ⟨m.flatten, by simp [cross, hm], fun c hc => ?_⟩
  obtain ⟨r, hr, hc⟩ := List.mem_flatten.mp hc
  exact pm r hr c hc
def okTab (g : Option (List PyData × Nat)) (L : List PyData) (c : Nat) : Bool := match g with
  | some (l, c') => Nat.ble c' c && l.all fun d => L.any (beqD d)
  | none => false
theorem okTab_ok {g : Option (List PyData × Nat)} {L : List PyData} {c : Nat} (h : okTab g L c = true) : ∃ l' c', g = some (l', c') ∧ c' ≤ c ∧ ∀ d ∈ l', d ∈ L := by
  unfold okTab at h
  split at h
  · rename_i l c' 
    obtain ⟨h1, h2⟩ := Bool.and_eq_true_iff.mp h
    refine ⟨l, c', rfl, Nat.le_of_ble_eq_true h1, fun d hd => ?_⟩
    obtain ⟨x, hx, e⟩ := List.any_eq_true.mp (List.all_eq_true.mp h2 d hd)
    rw [beqD_eq e]; exact hx
  · cases h
/-! _law_of -/
def gn_l_of : List PyData → Option (List PyData × Nat)
  | [.list xs] => if decide (0 < xs.length) && decide (xs.length < 1073741824) then some (xs, 1) else none
  | [.tuple xs] => if decide (0 < xs.length) && decide (xs.length < 1073741824) then some (xs, 1) else none
  | _ => none
theorem gn_len_l_of {ds : List PyData} {d : List PyData × Nat} (h : gn_l_of ds = some d) : ds.length = 1 := by
  unfold gn_l_of at h
  split at h
  · rfl
  · rfl
  · cases h
theorem rgD_mem : ∀ {n : Nat} {a : Int} {d : PyData}, d ∈ rgD a n → ∃ k : Nat, k < n ∧ d = .int (a + k)
  | 0, a, d, h => nomatch h
  | n + 1, a, d, h => by
    rcases List.mem_cons.mp h with rfl | h
    · exact ⟨0, by omega, by simp⟩
    · obtain ⟨k, hk, e⟩ := rgD_mem h
      exact ⟨k + 1, by omega, by rw [e]; congr 1; push_cast; omega⟩
theorem atI_nat {xs : List PyData} {k : Nat} (h : k < xs.length) : ∃ d, atI xs (0 + (k : Int)) = some d ∧ d ∈ xs := by
  refine ⟨xs[k], ?_, List.getElem_mem _⟩
  have e : ixN xs.length (0 + (k : Int)) = some k := by
    unfold ixN
    simp [h]
  exact atI_int e (List.getElem?_eq_getElem h)
theorem of_gives {xs : List PyData} {x : PyData} (hx : x = .list xs ∨ x = .tuple xs) (h0 : 0 < xs.length) (h1 : xs.length < 1073741824) : ∃ l' c', g_l_of [x] = some (l', c') ∧ c' ≤ 1 ∧ ∀ d ∈ l', d ∈ xs := by
  have hl : gLen [x] = some (.int xs.length) := by rcases hx with rfl | rfl <;> rfl
  obtain ⟨ls, hls, pls⟩ := cross_of (g := gIx) (P := fun d => d ∈ xs) (la := [x]) (lb := rgD 0 xs.length) fun a ha b hb => by
    obtain rfl := List.mem_singleton.mp ha
    obtain ⟨k, hk, rfl⟩ := rgD_mem hb
    obtain ⟨d, hd, hm⟩ := atI_nat hk
    exact ⟨d, by rcases hx with rfl | rfl <;> exact hd, hm⟩
  have hm : (0 : Int) < xs.length ∧ (xs.length : Int) < 1073741824 := by omega
  have ht : gn_l_take [.int xs.length] = some (rgD 0 xs.length, 1) := by
    show (if decide ((0 : Int) < xs.length) && decide ((xs.length : Int) < 1073741824) then some (rgD 0 (xs.length : Int).toNat, 1) else none) = _
    rw [decide_eq_true hm.1, decide_eq_true hm.2]
    rfl
  refine ⟨ls, 1, ?_, Nat.le_refl _, pls⟩
  have e1 : nP (eV 1) (startN 2 [x]) = some ([x], 0) := rfl
  have e2 : nCall gn_l_take (aCons (eCall gLen (aCons (eV 1) aNil)) aNil) (startN 2 [x]) = some (rgD 0 xs.length, 1) := by
    have : aCons (eCall gLen (aCons (eV 1) aNil)) aNil (startN 2 [x]) = some [.int xs.length] := by
      show (gLen [x]).bind (fun d => some [d]) = _
      rw [hl]; rfl
    unfold nCall
    rw [this]
    exact ht
  unfold g_l_of defN b_l_of nsRet n2
  rw [if_pos (show [x].length = 1 from rfl), e1]
  simp only [Option.bind_some]
  rw [e2]
  simp only [Option.bind_some, hls, Option.map_some, List.map_map]
  congr 2
  exact List.map_id' _
section
variable {P : Program} {w : World} {K : PySem.W.Frag} {mg : Str → Option Value} {base : Heap}
theorem okn_l_of {k : Nat} {f : Addr} {fd : FuncData} {ps : List Str} (F : FnOk P w K mg base CX0 k f fd ps (spN 1 g_l_of)) : FnOk P w K mg base CX0 k f fd ps (spN 1 gn_l_of) := spN_imp F fun ds l c h => by
  unfold gn_l_of at h
  split at h
  · split at h
    · rename_i hc
      simp only [Bool.and_eq_true, decide_eq_true_eq] at hc
      cases h
      exact of_gives (.inl rfl) hc.1 hc.2
    · cases h
  · split at h
    · rename_i hc
      simp only [Bool.and_eq_true, decide_eq_true_eq] at hc
      cases h
      exact of_gives (.inr rfl) hc.1 hc.2
    · cases h
  · cases h
/-! _law_loose_net -/
def gn_l_loose_net : List PyData → Option (List PyData × Nat)
  | [.int m] => if m = 1 then some (NETS1, 8) else if m = 2 then some (NETS2, 8) else if m = 3 then some (NETS3, 8) else if m = 4 then some (NETS4, 8) else none
  | _ => none
theorem gn_len_l_loose_net {ds : List PyData} {d : List PyData × Nat} (h : gn_l_loose_net ds = some d) : ds.length = 1 := by
  unfold gn_l_loose_net at h
  split at h
  · rfl
  · cases h
theorem loose1 : okTab (g_l_loose_net [.int 1]) NETS1 8 = true := by decide +kernel
theorem loose2 : okTab (g_l_loose_net [.int 2]) NETS2 8 = true := by decide +kernel
theorem loose3 : okTab (g_l_loose_net [.int 3]) NETS3 8 = true := by decide +kernel
theorem loose4 : okTab (g_l_loose_net [.int 4]) NETS4 8 = true := by decide +kernel
theorem okn_l_loose_net {k : Nat} {f : Addr} {fd : FuncData} {ps : List Str} (F : FnOk P w K mg base CX0 k f fd ps (spN 1 g_l_loose_net)) : FnOk P w K mg base CX0 k f fd ps (spN 1 gn_l_loose_net) := spN_imp F fun ds l c h => by
  unfold gn_l_loose_net at h
  split at h
  · split at h
    · rename_i e; subst e; cases h; exact okTab_ok loose1
    · split at h
      · rename_i e; subst e; cases h; exact okTab_ok loose2
      · split at h
        · rename_i e; subst e; cases h; exact okTab_ok loose3
        · split at h
          · rename_i e; subst e; cases h; exact okTab_ok loose4
          · cases h
  · cases h
end
end Ea
end
section
set_option Elab.async false
set_option linter.all false
set_option maxRecDepth 100000
set_option maxHeartbeats 4000000
namespace Ea
open PySem PySem.Spec L2
open PyProof.Rows hiding St
section
variable {P : Program} {w : World} {K : PySem.W.Frag} {mg : Str → Option Value} {base : Heap}
abbrev s_l_order : Stmt := topS 71
abbrev N_l_order : List Str := ["_law_tin", "_law_most_so", "_law_many_so", "_law_kind_so", "_law_cut_so", "_law_near", "_law_far", "_law_more_so", "_law_k"]
theorem sc_l_order : FnScope N_l_order ["_law_tin", "_law_most_so"] (defScope s_l_order) := ⟨rfl, rfl, rfl, by decide +kernel, rfl, by decide +kernel, by decide +kernel⟩
def b_l_order : LS := (nsSeq (nsPar 2 3 (n2 gAdd (nP (eC (.int 1))) (nCall gn_l_take (aCons (eV 1) aNil))) (nCall gn_l_take (aCons (eC (.int 8)) aNil))) (nsSeq (nsIf (ntAnd (fun ρ => ((bO (e2 gLt (eV 2) (eV 1))) ρ).map fun b => ([b], 0)) (nB (n2 gGt (nCall gn_l_take (aCons (eC (.int 3)) aNil)) (nP (eC (.int 0)))))) (nsAsg (n2 gSub (nP (eV 1)) (nCall gn_l_take (aCons (eC (.int 2)) aNil))) (gN 2)) nsNil) (nsSeq (nsIf (fun ρ => ((bO (e2 gEqI (eV 3) (eC (.int 0)))) ρ).map fun b => ([b], 0)) (nsRet (nCB d_l_net (naCons (nP (eV 2)) (naCons (nLc (niP (iRg2 (eC (.int 1)) (eV 2))) [8] (gN 8) ntYes (nTup (naCons (nCall gn_l_take (aCons (eV 8) aNil)) (naCons (nP (eV 8)) naNil)))) naNil)))) nsNil) (nsSeq (nsIf (fun ρ => ((tAndD (bO (e2 gIn (eV 3) (eTup (aCons (eC (.int 1)) (aCons (eC (.int 2)) aNil))))) (bO (e2 gGt (eV 2) (eC (.int 3))))) ρ).map fun b => ([b], 0)) (nsSeq (nsAsg (n2 gAdd (nP (eC (.int 2))) (nCall gn_l_take (aCons (e2 gSub (eV 2) (eC (.int 3))) aNil))) (gN 4)) (nsSeq (nsPar 5 6 (nCall gn_l_loose_net (aCons (eV 4) aNil)) (nCall gn_l_loose_net (aCons (e2 gSub (eV 2) (eV 4)) aNil))) (nsRet (nP (eIf (bO (e2 gEqI (eV 3) (eC (.int 1)))) (eCall d_l_aside (aCons (eV 5) (aCons (eV 6) aNil))) (eCall d_l_heap (aCons (eV 5) (aCons (eV 6) aNil)))))))) nsNil) (nsSeq (nsIf (fun ρ => ((tAndD (bO (e2 gEqI (eV 3) (eC (.int 3)))) (bO (e2 gGt (eV 2) (eC (.int 3))))) ρ).map fun b => ([b], 0)) (nsSeq (nsAsg (nLc (niP (iRg2 (eC (.int 4)) (eV 2))) [8] (gN 8) (nB (n2 gGt (nCall gn_l_take (aCons (eC (.int 3)) aNil)) (nP (eC (.int 0))))) (nTup (naCons (nCall gn_l_take (aCons (eV 8) aNil)) (naCons (nP (eV 8)) naNil)))) (gN 7)) (nsRet (nP (eCall d_l_net (aCons (eV 2) (aCons (e2 gAdd (eLst (aCons (eTup (aCons (eC (.int 0)) (aCons (eC (.int 2)) aNil))) (aCons (eTup (aCons (eC (.int 1)) (aCons (eC (.int 2)) aNil))) (aCons (eTup (aCons (eC (.int 1)) (aCons (eC (.int 3)) aNil))) aNil)))) (eV 7)) aNil)))))) nsNil) (nsRet (nCall gn_l_loose_net (aCons (eV 2) aNil))))))))
def g_l_order : List PyData → Option (List PyData × Nat) := defN 1 9 b_l_order
theorem ok_l_order {f : Addr} {fd : FuncData} (F : Fun K "_law_order" "_law_order" s_l_order f fd) (T : Tp mg) (c_l_net : CallD P w K mg base "_law_net" 1 2 d_l_net) (c_l_aside : CallD P w K mg base "_law_aside" 1 2 d_l_aside) (c_l_heap : CallD P w K mg base "_law_heap" 2 2 d_l_heap) (n_l_take : CallN P w K mg base "_law_take" 1 1 gn_l_take) (n_l_loose_net : CallN P w K mg base "_law_loose_net" 2 1 gn_l_loose_net) : FnOk P w K mg base CX0 3 f fd ["_law_tin", "_law_most_so"] (spN 1 g_l_order) :=
  okN (k := 2) (g := b_l_order) F sc_l_order rfl rfl (by decide) rfl fun cdv A outer s H E hr => (nss_cons (ns_par (i := 2) (j := 3) (by decide) (by decide) rfl sc_l_order.nd rfl rfl (by decide) rfl rfl (n_op oAdd (n_of e_int) (n_call n_l_take (hr.mono (by decide)) (fun _ _ h => gn_len_l_take h) rfl (pv 0) (a_cons (v 1) a_nil))) (n_call n_l_take (hr.mono (by decide)) (fun _ _ h => gn_len_l_take h) rfl (pv 0) (a_cons e_int a_nil)) rfl) (nss_cons (ns_if (PW.pt (nw_and (nt_of (t_cmp oLt (v 2) (v 1))) (nw_and1 (n_cmp oGt (n_call n_l_take (hr.mono (by decide)) (fun _ _ h => gn_len_l_take h) rfl (pv 0) (a_cons e_int a_nil)) (n_of e_int))))) (nss_one (ns_set (i := 2) (by decide) sc_l_order.nd rfl (by first | exact Or.inl rfl | exact Or.inr rfl) (n_op oSub (n_of (v 1)) (n_call n_l_take (hr.mono (by decide)) (fun _ _ h => gn_len_l_take h) rfl (pv 0) (a_cons e_int a_nil))))) nss_nil) (nss_cons (ns_if (nt_of (t_cmp oEqI (v 3) e_int)) (nss_one (ns_ret (n_callD c_l_net (hr.mono (by decide)) (fun _ _ h => defD_len h) rfl (na_cons (n_of (v 2)) (na_cons (n_lc (own := [("_law_k", 8)]) rfl sc_l_order.nd (by decide) (ni_of (i_rg2 rfl T.range e_int (v 2))) (blkOk_by (own := [("_law_k", 8)]) (N := N_l_order) (sc := defScope s_l_order) (by decide +kernel)) (fun _ _ _ _ _ => (g_name (i := 8) sc_l_order.nd rfl (by first | exact Or.inl rfl | exact Or.inr rfl))) (fun _ _ _ _ _ => nts_nil) (fun _ _ _ _ _ => (n_tup (na_cons (n_call n_l_take (hr.mono (by decide)) (fun _ _ h => gn_len_l_take h) rfl (pv 0) (a_cons (v 8) a_nil)) (na_cons (n_of (v 8)) na_nil))))) na_nil))))) nss_nil) (nss_cons (ns_if (nt_of (PW.pt (w_and (t_cmp oIn (v 3) (e_tup (a_cons e_int (a_cons e_int a_nil)))) (w_and1 (t_cmp oGt (v 2) e_int))))) (nss_cons (ns_set (i := 4) (by decide) sc_l_order.nd rfl (by first | exact Or.inl rfl | exact Or.inr rfl) (n_op oAdd (n_of e_int) (n_call n_l_take (hr.mono (by decide)) (fun _ _ h => gn_len_l_take h) rfl (pv 0) (a_cons (e_op oSub (v 2) e_int) a_nil)))) (nss_cons (ns_par (i := 5) (j := 6) (by decide) (by decide) rfl sc_l_order.nd rfl rfl (by decide) rfl rfl (n_call n_l_loose_net (hr.mono (by decide)) (fun _ _ h => gn_len_l_loose_net h) rfl (pv 0) (a_cons (v 4) a_nil)) (n_call n_l_loose_net (hr.mono (by decide)) (fun _ _ h => gn_len_l_loose_net h) rfl (pv 0) (a_cons (e_op oSub (v 2) (v 4)) a_nil)) rfl) (nss_one (ns_ret (n_of (e_if (t_cmp oEqI (v 3) e_int) (e_callD c_l_aside (hr.mono (by decide)) (fun _ _ h => defD_len h) rfl (a_cons (v 5) (a_cons (v 6) a_nil))) (e_callD c_l_heap (hr.mono (by decide)) (fun _ _ h => defD_len h) rfl (a_cons (v 5) (a_cons (v 6) a_nil))))))))) nss_nil) (nss_cons (ns_if (nt_of (PW.pt (w_and (t_cmp oEqI (v 3) e_int) (w_and1 (t_cmp oGt (v 2) e_int))))) (nss_cons (ns_setLc (i := 7) (own := [("_law_k", 8)]) (by decide) (by decide) rfl sc_l_order.nd rfl rfl (sw_true rfl rfl rfl (by decide +kernel)) (ni_of (i_rg2 rfl T.range e_int (v 2))) (blkOk_by (own := [("_law_k", 8)]) (N := N_l_order) (sc := defScope s_l_order) (by decide +kernel)) (fun _ _ _ _ _ => (g_name (i := 8) sc_l_order.nd rfl (by first | exact Or.inl rfl | exact Or.inr rfl))) (fun _ _ _ _ _ => (nts_one (n_cmp oGt (n_call n_l_take (hr.mono (by decide)) (fun _ _ h => gn_len_l_take h) rfl (pv 0) (a_cons e_int a_nil)) (n_of e_int)))) (fun _ _ _ _ _ => (n_tup (na_cons (n_call n_l_take (hr.mono (by decide)) (fun _ _ h => gn_len_l_take h) rfl (pv 0) (a_cons (v 8) a_nil)) (na_cons (n_of (v 8)) na_nil))))) (nss_one (ns_ret (n_of (e_callD c_l_net (hr.mono (by decide)) (fun _ _ h => defD_len h) rfl (a_cons (v 2) (a_cons (e_op oAdd (e_lst (a_cons (e_tup (a_cons e_int (a_cons e_int a_nil))) (a_cons (e_tup (a_cons e_int (a_cons e_int a_nil))) (a_cons (e_tup (a_cons e_int (a_cons e_int a_nil))) a_nil)))) (v 7)) a_nil))))))) nss_nil) (nss_one (ns_ret (n_call n_l_loose_net (hr.mono (by decide)) (fun _ _ h => gn_len_l_loose_net h) rfl (pv 0) (a_cons (v 2) a_nil)))))))))
abbrev s_l_some_left : Stmt := topS 73
abbrev N_l_some_left : List Str := ["_law_tin", "_law_net_here"]
theorem sc_l_some_left : FnScope N_l_some_left ["_law_tin", "_law_net_here"] (defScope s_l_some_left) := ⟨rfl, rfl, rfl, by decide +kernel, rfl, by decide +kernel, by decide +kernel⟩
def b_l_some_left : LS := (nsRet (nCB d_l_pieces (naCons (nCall gn_l_of (aCons (eCall d_l_lefts (aCons (eV 1) aNil)) aNil)) naNil)))
def g_l_some_left : List PyData → Option (List PyData × Nat) := defN 1 2 b_l_some_left
theorem ok_l_some_left {f : Addr} {fd : FuncData} (F : Fun K "_law_some_left" "_law_some_left" s_l_some_left f fd) (T : Tp mg) (c_l_lefts : CallD P w K mg base "_law_lefts" 2 1 d_l_lefts) (c_l_pieces : CallD P w K mg base "_law_pieces" 1 1 d_l_pieces) (n_l_of : CallN P w K mg base "_law_of" 2 1 gn_l_of) : FnOk P w K mg base CX0 3 f fd ["_law_tin", "_law_net_here"] (spN 1 g_l_some_left) :=
  okN (k := 2) (g := b_l_some_left) F sc_l_some_left rfl rfl (by decide) rfl fun cdv A outer s H E hr => (nss_one (ns_ret (n_callD c_l_pieces (hr.mono (by decide)) (fun _ _ h => defD_len h) rfl (na_cons (n_call n_l_of (hr.mono (by decide)) (fun _ _ h => gn_len_l_of h) rfl (pv 0) (a_cons (e_callD c_l_lefts (hr.mono (by decide)) (fun _ _ h => defD_len h) rfl (a_cons (v 1) a_nil)) a_nil)) na_nil))))
end
end Ea
end
section
set_option Elab.async false
set_option linter.all false
set_option maxRecDepth 100000
set_option maxHeartbeats 4000000
/-! EqV: what _law_order and _law_some_left give -/
namespace Ea
open PySem PySem.Spec L2
open PyProof.Rows hiding St
def NETS : List PyData := NETS1 ++ NETS2 ++ NETS3 ++ NETS4
def gn_l_order : List PyData → Option (List PyData × Nat)
  | [.int m] => if m = 4 then some (NETS, 30) else none
  | _ => none
theorem gn_len_l_order {ds : List PyData} {d : List PyData × Nat} (h : gn_l_order ds = some d) : ds.length = 1 := by
  unfold gn_l_order at h
  split at h
  · rfl
  · cases h
theorem order4 : okTab (g_l_order [.int 4]) NETS 30 = true := by decide +kernel
def leftsOf (d : PyData) : List PyData := match d_l_lefts [d] with
  | some (.list bs) => bs.filterMap fun b => d_l_pieces [b]
  | _ => []
def isNet (d : PyData) : Bool := NETS.any (beqD d)
theorem isNet_iff {d : PyData} : isNet d = true ↔ d ∈ NETS := by
  constructor
  · intro h
    obtain ⟨x, hx, e⟩ := List.any_eq_true.mp h
    rw [beqD_eq e]; exact hx
  · intro h
    refine List.any_eq_true.mpr ⟨d, h, ?_⟩
    have : ∀ x ∈ NETS, beqD x x = true := by decide +kernel
    exact this d h
def gn_l_some_left : List PyData → Option (List PyData × Nat)
  | [d] => if isNet d then some (leftsOf d, 1) else none
  | _ => none
theorem gn_len_l_some_left {ds : List PyData} {d : List PyData × Nat} (h : gn_l_some_left ds = some d) : ds.length = 1 := by
  unfold gn_l_some_left at h
  split at h
  · rfl
  · cases h
theorem some_left_all : ∀ d ∈ NETS, okTab (g_l_some_left [d]) (leftsOf d) 1 = true := by decide +kernel
section
variable {P : Program} {w : World} {K : PySem.W.Frag} {mg : Str → Option Value} {base : Heap}
theorem okn_l_order {k : Nat} {f : Addr} {fd : FuncData} {ps : List Str} (F : FnOk P w K mg base CX0 k f fd ps (spN 1 g_l_order)) : FnOk P w K mg base CX0 k f fd ps (spN 1 gn_l_order) := spN_imp F fun ds l c h => by
  unfold gn_l_order at h
  split at h
  · split at h
    · rename_i e; subst e; cases h; exact okTab_ok order4
    · cases h
  · cases h
theorem okn_l_some_left {k : Nat} {f : Addr} {fd : FuncData} {ps : List Str} (F : FnOk P w K mg base CX0 k f fd ps (spN 1 g_l_some_left)) : FnOk P w K mg base CX0 k f fd ps (spN 1 gn_l_some_left) := spN_imp F fun ds l c h => by
  unfold gn_l_some_left at h
  split at h
  · split at h
    · rename_i e; cases h; exact okTab_ok (some_left_all _ (isNet_iff.mp e))
    · cases h
  · cases h
end
end Ea
end
section
set_option Elab.async false
set_option linter.all false
set_option maxRecDepth 100000
set_option maxHeartbeats 4000000
namespace Ea
open PySem PySem.Spec L2
open PyProof.Rows hiding St
section
variable {P : Program} {w : World} {K : PySem.W.Frag} {mg : Str → Option Value} {base : Heap}
abbrev s_l_some_orders : Stmt := topS 76
abbrev N_l_some_orders : List Str := ["_law_tin", "_law_most_so", "_law_nets", "_law_lap", "_law_own"]
theorem sc_l_some_orders : FnScope N_l_some_orders ["_law_tin", "_law_most_so"] (defScope s_l_some_orders) := ⟨rfl, rfl, rfl, by decide +kernel, rfl, by decide +kernel, by decide +kernel⟩
def b_l_some_orders : LS := (nsSeq (nsAsg (nLc (niRg (nCall gn_l_take (aCons (e2 gAdd (eV 1) (eC (.int 1))) aNil))) [3] (gN 3) ntYes (nCall gn_l_order (aCons (eC (.int 4)) aNil))) (gN 2)) (nsRet (nTup (naCons (nP (eCall gTuple (aCons (eV 2) aNil))) (naCons (nCB gTuple (naCons (nLc (niP (iSeq (eV 2))) [4] (gN 4) ntYes (nCall gn_l_some_left (aCons (eV 4) aNil))) naNil)) naNil)))))
def g_l_some_orders : List PyData → Option (List PyData × Nat) := defN 1 5 b_l_some_orders
theorem ok_l_some_orders {f : Addr} {fd : FuncData} (F : Fun K "_law_some_orders" "_law_some_orders" s_l_some_orders f fd) (T : Tp mg) (n_l_take : CallN P w K mg base "_law_take" 1 1 gn_l_take) (n_l_order : CallN P w K mg base "_law_order" 3 1 gn_l_order) (n_l_some_left : CallN P w K mg base "_law_some_left" 3 1 gn_l_some_left) : FnOk P w K mg base CX0 4 f fd ["_law_tin", "_law_most_so"] (spN 1 g_l_some_orders) :=
  okN (k := 3) (g := b_l_some_orders) F sc_l_some_orders rfl rfl (by decide) rfl fun cdv A outer s H E hr => (nss_cons (ns_setLc (i := 2) (own := [("_law_lap", 3)]) (by decide) (by decide) rfl sc_l_some_orders.nd rfl rfl (sw_true rfl rfl rfl (by decide +kernel)) (ni_rg1 rfl T.range (n_call n_l_take (hr.mono (by decide)) (fun _ _ h => gn_len_l_take h) rfl (pv 0) (a_cons (e_op oAdd (v 1) e_int) a_nil))) (blkOk_by (own := [("_law_lap", 3)]) (N := N_l_some_orders) (sc := defScope s_l_some_orders) (by decide +kernel)) (fun _ _ _ _ _ => (g_name (i := 3) sc_l_some_orders.nd rfl (by first | exact Or.inl rfl | exact Or.inr rfl))) (fun _ _ _ _ _ => nts_nil) (fun _ _ _ _ _ => (n_call n_l_order (hr.mono (by decide)) (fun _ _ h => gn_len_l_order h) rfl (pv 0) (a_cons e_int a_nil)))) (nss_one (ns_ret (n_tup (na_cons (n_of (e_callTy cTuple rfl T.tuple PyProof.Rows.boot_tuple (a_cons (v 2) a_nil))) (na_cons (n_callTy cTuple rfl T.tuple PyProof.Rows.boot_tuple (na_cons (n_lc (own := [("_law_own", 4)]) rfl sc_l_some_orders.nd (by decide) (ni_of (i_seq (v 2))) (blkOk_by (own := [("_law_own", 4)]) (N := N_l_some_orders) (sc := defScope s_l_some_orders) (by decide +kernel)) (fun _ _ _ _ _ => (g_name (i := 4) sc_l_some_orders.nd rfl (by first | exact Or.inl rfl | exact Or.inr rfl))) (fun _ _ _ _ _ => nts_nil) (fun _ _ _ _ _ => (n_call n_l_some_left (hr.mono (by decide)) (fun _ _ h => gn_len_l_some_left h) rfl (pv 0) (a_cons (v 4) a_nil)))) na_nil)) na_nil))))))
end
end Ea
end
section
set_option Elab.async false
set_option linter.all false
set_option maxRecDepth 100000
set_option maxHeartbeats 4000000
/-! EqW: reading lists of outcomes without writing them out; what _law_some_orders gives -/
namespace Ea
open PySem PySem.Spec L2
open PyProof.Rows hiding St
def OkE (x : Option (List PyData × Nat)) (C : Nat) (P : PyData → Prop) : Prop := ∃ l c, x = some (l, c) ∧ c ≤ C ∧ ∀ d ∈ l, P d
def OkA (x : Option (List (List PyData) × Nat)) (C : Nat) (P : List PyData → Prop) : Prop := ∃ l c, x = some (l, c) ∧ c ≤ C ∧ ∀ d ∈ l, P d
def OkS (x : Option (List Out × Nat)) (C : Nat) (P : Out → Prop) : Prop := ∃ l c, x = some (l, c) ∧ c ≤ C ∧ ∀ d ∈ l, P d
theorem ok_nP {f : DE} {ρ : En} {d : PyData} {P : PyData → Prop} (h : f ρ = some d) (p : P d) : OkE (nP f ρ) 0 P := ⟨[d], 0, by simp [nP, h], Nat.le_refl _, fun x hx => by obtain rfl := List.mem_singleton.mp hx; exact p⟩
theorem ok_n2 {g : PyData → PyData → Option PyData} {fa fb : LD} {ρ : En} {ca cb : Nat} {Pa Pb P : PyData → Prop} (ha : OkE (fa ρ) ca Pa) (hb : OkE (fb ρ) cb Pb) (h : ∀ a b, Pa a → Pb b → ∃ c, g a b = some c ∧ P c) : OkE (n2 g fa fb ρ) (ca + cb) P := by
  obtain ⟨la, c1, e1, h1, p1⟩ := ha
  obtain ⟨lb, c2, e2, h2, p2⟩ := hb
  obtain ⟨ls, hl, pl⟩ := cross_of (g := g) (P := P) fun a ha b hb => h a b (p1 a ha) (p2 b hb)
  exact ⟨ls, c1 + c2, by simp [n2, e1, e2, hl], Nat.add_le_add h1 h2, pl⟩
theorem ok_call {g : List PyData → Option (List PyData × Nat)} {fs : DA} {ρ : En} {ds l : List PyData} {c : Nat} (h : fs ρ = some ds) (h2 : g ds = some (l, c)) : OkE (nCall g fs ρ) c (· ∈ l) := ⟨l, c, by simp [nCall, h, h2], Nat.le_refl _, fun d hd => hd⟩
theorem ok_aNil {ρ : En} {P : List PyData → Prop} (p : P []) : OkA (naNil ρ) 0 P := ⟨[[]], 0, rfl, Nat.le_refl _, fun x hx => by obtain rfl := List.mem_singleton.mp hx; exact p⟩
theorem ok_aCons {f : LD} {fs : LA} {ρ : En} {ca cb : Nat} {Pa : PyData → Prop} {Pb P : List PyData → Prop} (ha : OkE (f ρ) ca Pa) (hb : OkA (fs ρ) cb Pb) (h : ∀ a b, Pa a → Pb b → P (a :: b)) : OkA (naCons f fs ρ) (ca + cb) P := by
  obtain ⟨la, c1, e1, h1, p1⟩ := ha
  obtain ⟨lb, c2, e2, h2, p2⟩ := hb
  obtain ⟨ls, hl, pl⟩ := cross_of (g := fun d ds => some (d :: ds)) (P := P) (la := la) (lb := lb) fun a ha b hb => ⟨_, rfl, h a b (p1 a ha) (p2 b hb)⟩
  exact ⟨ls, c1 + c2, by simp [naCons, e1, e2, hl], Nat.add_le_add h1 h2, pl⟩
theorem ok_tup {fs : LA} {ρ : En} {c : Nat} {Pa : List PyData → Prop} {P : PyData → Prop} (ha : OkA (fs ρ) c Pa) (h : ∀ ds, Pa ds → okLen ds.length = true ∧ P (.tuple ds)) : OkE (nTup fs ρ) c P := by
  obtain ⟨la, c1, e1, h1, p1⟩ := ha
  obtain ⟨ls, hl, pl⟩ := allD_of (g := fun ds : List PyData => if okLen ds.length then some (PyData.tuple ds) else none) (P := P) fun ds hds => ⟨.tuple ds, if_pos (h ds (p1 ds hds)).1, (h ds (p1 ds hds)).2⟩
  exact ⟨ls, c1, by simp [nTup, e1, hl], h1, pl⟩
theorem ok_cb {g : List PyData → Option PyData} {fs : LA} {ρ : En} {c : Nat} {Pa : List PyData → Prop} {P : PyData → Prop} (ha : OkA (fs ρ) c Pa) (h : ∀ ds, Pa ds → ∃ d, g ds = some d ∧ P d) : OkE (nCB g fs ρ) c P := by
  obtain ⟨la, c1, e1, h1, p1⟩ := ha
  obtain ⟨ls, hl, pl⟩ := allD_of (g := g) (P := P) fun ds hds => h ds (p1 ds hds)
  exact ⟨ls, c1, by simp [nCB, e1, hl], h1, pl⟩
theorem ok_weakE {x : Option (List PyData × Nat)} {c c' : Nat} {P P' : PyData → Prop} (h : OkE x c P) (hc : c ≤ c') (hp : ∀ d, P d → P' d) : OkE x c' P' := by
  obtain ⟨l, c1, e, h1, p⟩ := h
  exact ⟨l, c1, e, Nat.le_trans h1 hc, fun d hd => hp d (p d hd)⟩
theorem ok_weakS {x : Option (List Out × Nat)} {c c' : Nat} {P P' : Out → Prop} (h : OkS x c P) (hc : c ≤ c') (hp : ∀ d, P d → P' d) : OkS x c' P' := by
  obtain ⟨l, c1, e, h1, p⟩ := h
  exact ⟨l, c1, e, Nat.le_trans h1 hc, fun d hd => hp d (p d hd)⟩
theorem seqL_of {g : LS} {C : Nat} {P : Out → Prop} : ∀ {l : List Out}, (∀ ρ, .nx ρ ∈ l → OkS (g ρ) C P) → (∀ d, .rt d ∈ l → P (.rt d)) → OkS (seqL g l) C P
  | [], _, _ => ⟨[], 0, rfl, Nat.zero_le _, fun _ h => nomatch h⟩
  | .nx ρ :: r, h1, h2 => by
    obtain ⟨l1, c1, e1, hc1, p1⟩ := h1 ρ (.head _)
    obtain ⟨l2, c2, e2, hc2, p2⟩ := seqL_of (l := r) (fun ρ hr => h1 ρ (.tail _ hr)) fun d hd => h2 d (.tail _ hd)
    exact ⟨l1 ++ l2, Nat.max c1 c2, by simp [seqL, e1, e2], Nat.max_le.mpr ⟨hc1, hc2⟩, fun o ho => (List.mem_append.mp ho).elim (p1 o) (p2 o)⟩
  | .rt d :: r, h1, h2 => by
    obtain ⟨l2, c2, e2, hc2, p2⟩ := seqL_of (l := r) (fun ρ hr => h1 ρ (.tail _ hr)) fun d hd => h2 d (.tail _ hd)
    refine ⟨.rt d :: l2, c2, by simp [seqL, e2], hc2, fun o ho => ?_⟩
    rcases List.mem_cons.mp ho with rfl | ho
    · exact h2 d (.head _)
    · exact p2 o ho
/-- what follows an outcome -/
def Then (g : LS) (C : Nat) (P : Out → Prop) : Out → Prop
  | .nx ρ => OkS (g ρ) C P
  | .rt d => P (.rt d)
theorem ok_seq {f g : LS} {ρ : En} {cf cg : Nat} {P : Out → Prop} (h : OkS (f ρ) cf (Then g cg P)) : OkS (nsSeq f g ρ) (cf + cg) P := by
  obtain ⟨l1, c1, e1, hc1, p1⟩ := h
  obtain ⟨l2, c2, e2, hc2, p2⟩ := seqL_of (g := g) (C := cg) (P := P) (l := l1) (fun ρ hr => p1 _ hr) fun d hd => p1 _ hd
  exact ⟨l2, c1 + c2, by simp [nsSeq, e1, e2], Nat.add_le_add hc1 hc2, p2⟩
theorem ok_asg {f : LD} {g : DG} {ρ : En} {c : Nat} {Pe : PyData → Prop} {P : Out → Prop} (h : OkE (f ρ) c Pe) (hg : ∀ d, Pe d → ∃ ρ', g d ρ = some ρ' ∧ P (.nx ρ')) : OkS (nsAsg f g ρ) c P := by
  obtain ⟨l1, c1, e1, hc1, p1⟩ := h
  obtain ⟨m, hm, pm⟩ := allD_of (g := fun d => g d ρ) (P := fun ρ' => P (.nx ρ')) fun d hd => hg d (p1 d hd)
  refine ⟨m.map .nx, c1, by simp [nsAsg, e1, hm], hc1, fun o ho => ?_⟩
  obtain ⟨ρ', hr, rfl⟩ := List.mem_map.mp ho
  exact pm ρ' hr
theorem ok_par {i j : Nat} {fa fb : LD} {ρ : En} {ca cb : Nat} {Pa Pb : PyData → Prop} {P : Out → Prop} (ha : OkE (fa ρ) ca Pa) (hb : OkE (fb ρ) cb Pb) (h : ∀ a b, Pa a → Pb b → P (.nx ((ρ.set i (.d a)).set j (.d b)))) : OkS (nsPar i j fa fb ρ) (ca + cb) P := by
  obtain ⟨la, c1, e1, h1, p1⟩ := ha
  obtain ⟨lb, c2, e2, h2, p2⟩ := hb
  obtain ⟨ls, hl, pl⟩ := cross_of (g := fun x y => some (Out.nx ((ρ.set i (.d x)).set j (.d y)))) (P := P) (la := la) (lb := lb) fun a ha b hb => ⟨_, rfl, h a b (p1 a ha) (p2 b hb)⟩
  exact ⟨ls, c1 + c2, by simp [nsPar, e1, e2, hl], Nat.add_le_add h1 h2, pl⟩
theorem ok_ret {f : LD} {ρ : En} {c : Nat} {P : Out → Prop} (h : OkE (f ρ) c fun d => P (.rt d)) : OkS (nsRet f ρ) c P := by
  obtain ⟨l1, c1, e1, hc1, p1⟩ := h
  refine ⟨l1.map .rt, c1, by simp [nsRet, e1], hc1, fun o ho => ?_⟩
  obtain ⟨d, hd, rfl⟩ := List.mem_map.mp ho
  exact p1 d hd
theorem ok_if {t : DT} {f g : LS} {ρ : En} {c : Nat} {P : Out → Prop} {b : Bool} (ht : t ρ = some b) (h : OkS ((if b then f else g) ρ) c P) : OkS (nsIf (fun ρ => (t ρ).map fun b => ([b], 0)) f g ρ) c P := by
  obtain ⟨l1, c1, e1, hc1, p1⟩ := h
  cases b with
  | true => exact ⟨l1 ++ [], 0 + Nat.max c1 0, by simp [nsIf, ht, show f ρ = some (l1, c1) from e1], by simpa using hc1, fun o ho => p1 o (by simpa using ho)⟩
  | false => exact ⟨[] ++ l1, 0 + Nat.max 0 c1, by simp [nsIf, ht, show g ρ = some (l1, c1) from e1], by simpa using hc1, fun o ho => p1 o (by simpa using ho)⟩
theorem ok_nil {ρ : En} {P : Out → Prop} (p : P (.nx ρ)) : OkS (nsNil ρ) 0 P := ⟨[.nx ρ], 0, rfl, Nat.le_refl _, fun o ho => by obtain rfl := List.mem_singleton.mp ho; exact p⟩
inductive All2 {α β : Type} (R : α → β → Prop) : List α → List β → Prop
  | nil : All2 R [] []
  | cons {a : α} {b : β} {as : List α} {bs : List β} (h : R a b) (t : All2 R as bs) : All2 R (a :: as) (b :: bs)
theorem All2.length_eq {α β : Type} {R : α → β → Prop} {as : List α} {bs : List β} (h : All2 R as bs) : as.length = bs.length := by
  induction h with
  | nil => rfl
  | cons _ _ ih => simp [ih]
/-! comprehensions that draw -/
theorem lcN_of {ρ : En} {g : DG} {fe : LD} {C : Nat} {R : PyData → PyData → Prop} : ∀ {xs : List PyData}, (∀ x ∈ xs, ∃ ρ1, g x ρ = some ρ1 ∧ OkE (fe ρ1) C (R x)) → OkA (lcN ρ g ntYes fe xs) (C * xs.length) fun y => All2 R xs y
  | [], _ => ⟨[[]], 0, rfl, Nat.zero_le _, fun y hy => by obtain rfl := List.mem_singleton.mp hy; exact .nil⟩
  | x :: r, h => by
    obtain ⟨ρ1, hg, l1, c1, e1, hc1, p1⟩ := h x (.head _)
    obtain ⟨l2, c2, e2, hc2, p2⟩ := lcN_of (xs := r) fun z hz => h z (.tail _ hz)
    obtain ⟨ls, hl, pl⟩ := cross_of (g := fun d ds => some (d :: ds)) (P := fun y => All2 R (x :: r) y) (la := l1) (lb := l2) fun a ha b hb => ⟨_, rfl, .cons (p1 a ha) (p2 b hb)⟩
    refine ⟨ls, 0 + (c1 + c2), ?_, ?_, pl⟩
    · simp [lcN, hg, ntYes, e1, e2, hl]
    · rw [List.length_cons, Nat.mul_succ]; omega
theorem lcAll_of {ρ : En} {g : DG} {fe : LD} {C : Nat} {P : List PyData → Prop} : ∀ {l : List (List PyData)}, (∀ xs ∈ l, okLen xs.length = true ∧ OkA (lcN ρ g ntYes fe xs) C P) → OkA (lcAll ρ g ntYes fe l) C P
  | [], _ => ⟨[], 0, rfl, Nat.zero_le _, fun _ h => nomatch h⟩
  | xs :: r, h => by
    obtain ⟨ok, l1, c1, e1, hc1, p1⟩ := h xs (.head _)
    obtain ⟨l2, c2, e2, hc2, p2⟩ := lcAll_of (l := r) fun z hz => h z (.tail _ hz)
    exact ⟨l1 ++ l2, Nat.max c1 c2, by simp [lcAll, ok, e1, e2], Nat.max_le.mpr ⟨hc1, hc2⟩, fun y hy => (List.mem_append.mp hy).elim (p1 y) (p2 y)⟩
theorem ok_lc {fi : LI} {vs : List Nat} {g : DG} {fe : LD} {ρ : En} {l : List (List PyData)} {ci C : Nat} {P : PyData → Prop} (hi : fi ρ = some (l, ci)) (h : ∀ xs ∈ l, okLen xs.length = true ∧ OkA (lcN (wipeE ρ vs) g ntYes fe xs) C fun y => P (.list y)) : OkE (nLc fi vs g ntYes fe ρ) (ci + C) P := by
  obtain ⟨l1, c1, e1, hc1, p1⟩ := lcAll_of h
  refine ⟨l1.map .list, ci + c1, by simp [nLc, hi, e1], Nat.add_le_add_left hc1 _, fun d hd => ?_⟩
  obtain ⟨y, hy, rfl⟩ := List.mem_map.mp hd
  exact p1 y hy
/-! _law_some_orders -/
abbrev Comp := PyData × PyData
def COMPS : List Comp := NETS.flatMap fun n => (leftsOf n).map fun l => (n, l)
def compsD (cs : List Comp) : PyData := .tuple [.tuple (cs.map (·.1)), .tuple (cs.map (·.2))]
def seqsOf (L : List Comp) : Nat → List (List Comp)
  | 0 => [[]]
  | k + 1 => [] :: L.flatMap fun c => (seqsOf L k).map (c :: ·)
theorem mem_seqsOf {L : List Comp} : ∀ {k : Nat} {cs : List Comp}, cs ∈ seqsOf L k ↔ cs.length ≤ k ∧ ∀ c ∈ cs, c ∈ L
  | 0, cs => by
    simp only [seqsOf, List.mem_singleton]
    constructor
    · rintro rfl; exact ⟨Nat.le_refl _, fun _ h => nomatch h⟩
    · rintro ⟨h, _⟩; exact List.eq_nil_of_length_eq_zero (Nat.le_zero.mp h)
  | k + 1, cs => by
    simp only [seqsOf, List.mem_cons, List.mem_flatMap, List.mem_map]
    constructor
    · rintro (rfl | ⟨c, hc, r, hr, rfl⟩)
      · exact ⟨Nat.zero_le _, fun _ h => nomatch h⟩
      · obtain ⟨h1, h2⟩ := (mem_seqsOf (k := k)).mp hr
        exact ⟨Nat.succ_le_succ h1, fun x hx => (List.mem_cons.mp hx).elim (fun e => e ▸ hc) (h2 x)⟩
    · rintro ⟨h1, h2⟩
      cases cs with
      | nil => exact .inl rfl
      | cons c r => exact .inr ⟨c, h2 c (.head _), r, (mem_seqsOf (k := k)).mpr ⟨Nat.le_of_succ_le_succ h1, fun x hx => h2 x (.tail _ hx)⟩, rfl⟩
def gnSO (L : List Comp) : List PyData → Option (List PyData × Nat)
  | [.int m] => if m = 3 then some ((seqsOf L 3).map compsD, 100) else if m = 2 then some ((seqsOf L 2).map compsD, 100) else none
  | _ => none
def gn_l_some_orders : List PyData → Option (List PyData × Nat) := gnSO COMPS
theorem gn_len_l_some_orders {ds : List PyData} {d : List PyData × Nat} (h : gn_l_some_orders ds = some d) : ds.length = 1 := by
  unfold gn_l_some_orders gnSO at h
  split at h
  · rfl
  · cases h
theorem okLen_small {n : Nat} (h : n ≤ 1000000) : okLen n = true := Nat.ble_eq_true_of_le (by omega)
theorem so_gives {m : Nat} (hm : m ≤ 3) : OkE (g_l_some_orders [.int m]) 100 fun d => ∃ cs : List Comp, d = compsD cs ∧ cs.length ≤ m ∧ ∀ c ∈ cs, c ∈ COMPS := by
  have it : niRg (nCall gn_l_take (aCons (e2 gAdd (eV 1) (eC (.int 1))) aNil)) (startN 5 [.int m]) = some ((List.range (m + 1)).map fun k => rgD 0 k, 1) := by
    match m, hm with
    | 0, _ => rfl
    | 1, _ => rfl
    | 2, _ => rfl
    | 3, _ => rfl
  have body : OkS (b_l_some_orders (startN 5 [.int m])) 100 fun o => ∃ d, o = .rt d ∧ ∃ cs : List Comp, d = compsD cs ∧ cs.length ≤ m ∧ ∀ c ∈ cs, c ∈ COMPS := by
    unfold b_l_some_orders
    refine ok_weakS (ok_seq (cf := 1 + 30 * 3) (cg := 0 + ((0 + 1 * 3 + 0) + 0)) (ok_asg (Pe := fun d => ∃ nets, d = .list nets ∧ nets.length ≤ m ∧ ∀ x ∈ nets, x ∈ NETS) (ok_lc (C := 30 * 3) it fun xs hx => ?_) ?_)) (by decide) fun o h => h
    · obtain ⟨k, hk, rfl⟩ := List.mem_map.mp hx
      have hk' := List.mem_range.mp hk
      have hl : (rgD 0 k).length = k := rgD_len _ _
      refine ⟨okLen_small (by rw [hl]; omega), ?_⟩
      obtain ⟨l, c, e, hc, p⟩ := lcN_of (ρ := wipeE (startN 5 [.int m]) [3]) (g := gN 3) (fe := nCall gn_l_order (aCons (eC (.int 4)) aNil)) (C := 30) (R := fun _ d => d ∈ NETS) (xs := rgD 0 k) fun x _ => ⟨_, rfl, ok_call (ds := [.int 4]) rfl rfl⟩
      refine ⟨l, c, e, Nat.le_trans hc (by rw [hl]; omega), fun y hy => ⟨y, rfl, ?_, ?_⟩⟩
      · have := (p y hy).length_eq
        rw [hl] at this
        omega
      · have := p y hy
        generalize rgD 0 k = zs at this
        clear hy
        induction this with
        | nil => exact fun _ h => nomatch h
        | cons h _ ih => exact fun x hx => (List.mem_cons.mp hx).elim (fun e => e ▸ h) (ih x)
    · rintro d ⟨nets, rfl, hl, hn⟩
      refine ⟨_, rfl, ?_⟩
      have e2 : eV 2 ((startN 5 [.int m]).set 2 (.d (.list nets))) = some (.list nets) := rfl
      refine ok_ret (ok_tup (Pa := fun ds => ∃ cs : List Comp, ds = [.tuple (cs.map (·.1)), .tuple (cs.map (·.2))] ∧ cs.length ≤ m ∧ ∀ c ∈ cs, c ∈ COMPS) (ok_aCons (Pa := fun a => a = .tuple nets) (ok_nP (d := .tuple nets) ?_ rfl) (ok_aCons (Pa := fun a => ∃ ls, a = .tuple ls ∧ All2 (fun x l => l ∈ leftsOf x) nets ls) (ok_cb (Pa := fun ds => ∃ ls, ds = [.list ls] ∧ All2 (fun x l => l ∈ leftsOf x) nets ls) (ok_aCons (Pa := fun a => ∃ ls, a = .list ls ∧ All2 (fun x l => l ∈ leftsOf x) nets ls) (ok_lc (l := [nets]) (ci := 0) (C := 1 * 3) rfl fun xs hx => ?_) (ok_aNil (P := fun ds => ds = []) rfl) ?_) ?_) (ok_aNil (P := fun ds => ds = []) rfl) (P := fun ds => ∃ ls, ds = [.tuple ls] ∧ All2 (fun x l => l ∈ leftsOf x) nets ls) ?_) ?_) ?_)
      · show (aCons (eV 2) aNil _).bind gTuple = _
        unfold aCons
        rw [e2]
        rfl
      · obtain rfl := List.mem_singleton.mp hx
        refine ⟨okLen_small (by omega), ?_⟩
        obtain ⟨l, c, e, hc, p⟩ := lcN_of (ρ := wipeE ((startN 5 [.int m]).set 2 (.d (.list xs))) [4]) (g := gN 4) (fe := nCall gn_l_some_left (aCons (eV 4) aNil)) (C := 1) (R := fun x l => l ∈ leftsOf x) (xs := xs) fun x hx => ⟨_, rfl, ok_call (ds := [x]) rfl (by unfold gn_l_some_left; exact if_pos (isNet_iff.mpr (hn x hx)))⟩
        exact ⟨l, c, e, Nat.le_trans hc (by omega), fun y hy => ⟨y, rfl, p y hy⟩⟩
      · rintro a b ⟨ls, rfl, h⟩ rfl
        exact ⟨ls, rfl, h⟩
      · rintro ds ⟨ls, rfl, h⟩
        exact ⟨_, rfl, ls, rfl, h⟩
      · rintro a b ⟨ls, rfl, h⟩ rfl
        exact ⟨ls, rfl, h⟩
      · rintro a b rfl ⟨ls, rfl, h⟩
        refine ⟨nets.zip ls, ?_, ?_, ?_⟩
        · have := h.length_eq
          rw [List.map_fst_zip (by omega), List.map_snd_zip (by omega)]
        · rw [List.length_zip]; omega
        · intro c hc
          have key : ∀ {ns ls : List PyData}, All2 (fun x l => l ∈ leftsOf x) ns ls → (∀ x ∈ ns, x ∈ NETS) → ∀ c ∈ ns.zip ls, c ∈ COMPS := by
            intro ns ls h
            induction h with
            | nil => exact fun _ _ h => nomatch h
            | cons h _ ih =>
              intro hn c hc
              rcases List.mem_cons.mp hc with rfl | hc
              · exact List.mem_flatMap.mpr ⟨_, hn _ (.head _), List.mem_map.mpr ⟨_, h, rfl⟩⟩
              · exact ih (fun x hx => hn x (.tail _ hx)) c hc
          exact key h hn c hc
      · rintro ds ⟨cs, rfl, h⟩
        exact ⟨rfl, _, rfl, cs, rfl, h⟩
  obtain ⟨l, c, e, hc, p⟩ := body
  refine ⟨l.map outD, c, ?_, hc, fun d hd => ?_⟩
  · unfold g_l_some_orders defN
    rw [if_pos (show [PyData.int m].length = 1 from rfl), e]
    rfl
  · obtain ⟨o, ho, rfl⟩ := List.mem_map.mp hd
    obtain ⟨d, rfl, h⟩ := p o ho
    exact h
section
variable {P : Program} {w : World} {K : PySem.W.Frag} {mg : Str → Option Value} {base : Heap}
theorem okn_l_some_orders {k : Nat} {f : Addr} {fd : FuncData} {ps : List Str} (F : FnOk P w K mg base CX0 k f fd ps (spN 1 g_l_some_orders)) : FnOk P w K mg base CX0 k f fd ps (spN 1 gn_l_some_orders) := spN_imp F fun ds l c h => by
  have fin : ∀ m : Nat, m ≤ 3 → ∃ l' c', g_l_some_orders [.int m] = some (l', c') ∧ c' ≤ 100 ∧ ∀ d ∈ l', d ∈ (seqsOf COMPS m).map compsD := fun m hm => by
    obtain ⟨l', c', e, hc, p⟩ := so_gives hm
    refine ⟨l', c', e, hc, fun d hd => ?_⟩
    obtain ⟨cs, rfl, h1, h2⟩ := p d hd
    exact List.mem_map.mpr ⟨cs, mem_seqsOf.mpr ⟨h1, h2⟩, rfl⟩
  unfold gn_l_some_orders gnSO at h
  split at h
  · split at h
    · rename_i e; subst e; cases h; exact fin 3 (by decide)
    · split at h
      · rename_i e; subst e; cases h; exact fin 2 (by decide)
      · cases h
  · cases h
end
end Ea
end
section
set_option Elab.async false
set_option linter.all false
set_option maxRecDepth 100000
set_option maxHeartbeats 4000000
namespace Ea
open PySem PySem.Spec L2
open PyProof.Rows hiding St
section
variable {P : Program} {w : World} {K : PySem.W.Frag} {mg : Str → Option Value} {base : Heap}
abbrev s_l_right : Stmt := topS 83
abbrev N_l_right : List Str := ["_law_tin", "_law_nets", "_law_lefts_so", "_law_alls_so", "_law_many_so", "_law_others_so", "_law_soft_so", "_law_other_so", "_law_got", "_law_long_so", "_law_whole_so", "_law_rest_so", "_law_lap", "_law_spots_so", "_law_k", "_law_own", "_law_later_so", "_law_good_so", "_law_told", "_law_things_so", "_law_its"]
theorem sc_l_right : FnScope N_l_right ["_law_tin"] (defScope s_l_right) := ⟨rfl, rfl, rfl, by decide +kernel, rfl, by decide +kernel, by decide +kernel⟩
def b_l_right : LS := (nsSeq (nsAsg (nCall gn_l_some_orders (aCons (eC (.int 3)) aNil)) (gTupD 2 (gsCons (gN 1) (gsCons (gN 2) gsNil)))) (nsSeq (nsAsg (nP (eCall gTuple (aCons (eLc (iSeq (eV 1)) [15] (gN 15) dYes (e1 gTupRg (e2 gIx (eV 15) (eC (.int 0))))) aNil))) (gN 3)) (nsSeq (nsAsg (nP (eCall d_l_put_by_bits (aCons (eCall d_l_worths_of (aCons (eV 1) (aCons (eV 3) aNil))) aNil))) (gN 4)) (nsSeq (nsPar 5 6 (n2 gIx (nCall gn_l_some_orders (aCons (eC (.int 2)) aNil)) (nP (eC (.int 0)))) (nP (eCall d_l_lists (aCons (eV 1) aNil)))) (nsSeq (nsAsg (nP (eCall d_l_put_by_bits (aCons (eCall d_l_worths_of (aCons (eV 5) (aCons (eCall gTuple (aCons (eLc (iSeq (eV 5)) [15] (gN 15) dYes (e1 gTupRg (e2 gIx (eV 15) (eC (.int 0))))) aNil)) aNil))) aNil))) (gN 7)) (nsSeq (nsAsg (nP (eLst (aCons (eCall (fun ds => d_balance ds.reverse) (aCons (eV 6) aNil)) (aCons (eCall (fun ds => d_are_balanced ds.reverse) (aCons (eCall d_l_lists (aCons (eV 5) aNil)) (aCons (eV 1) aNil))) (aCons (eCall (fun ds => d_are_balanced ds.reverse) (aCons (eTup (aCons (eCall d_l_chain (aCons (eV 4) aNil)) aNil)) (aCons (eV 6) aNil))) aNil))))) (gN 8)) (nsSeq (nsIf (fun ρ => ((tNotD (bO (eCall d_l_same (aCons (eV 8) (aCons (eLst (aCons (eCall d_l_chain (aCons (eV 4) aNil)) (aCons (e2 gEqI (eV 7) (eV 4)) (aCons (eC (.bool true)) aNil)))) aNil))))) ρ).map fun b => ([b], 0)) (nsRet (nP (eC (.bool false)))) nsNil) (nsSeq (nsAsg (nP (eCall d_l_put_by_bits (aCons (eCall d_l_worths_of (aCons (eV 1) (aCons (eV 2) aNil))) aNil))) (gN 9)) (nsSeq (nsAsg (nP (eTup (aCons (e2 gAdd (eV 1) (eTup (aCons (eCall d_l_chain (aCons (eV 9) aNil)) aNil))) (aCons (e2 gAdd (eV 2) (eTup (aCons (e1 gTupRg (eV 9)) aNil))) aNil)))) (gTupD 2 (gsCons (gN 10) (gsCons (gN 11) gsNil)))) (nsSeq (nsFor (iRg1 (eC (.int 3))) (gN 12) (nsSeq (nsAsg (nP (eLc (iSeq (eCall d_l_spots_of (aCons (eV 10) aNil))) [14, 15] (gTupD 2 (gsCons (gN 14) (gsCons (gN 15) gsNil))) (bO (e2 gIn (eV 15) (e2 gIx (eV 11) (eV 14)))) (eTup (aCons (eV 14) (aCons (eV 15) aNil))))) (gN 13)) (nsSeq (nsIf (fun ρ => ((bO (e2 gEqD (eV 13) (eLst aNil))) ρ).map fun b => ([b], 0)) (nsRet (nP (eC (.bool true)))) nsNil) (nsSeq (nsAsg (nCall gn_l_of (aCons (eV 13) aNil)) (gTupD 2 (gsCons (gN 14) (gsCons (gN 15) gsNil)))) (nsSeq (nsAsg (nP (e2 gAdd (e2 gAdd (eCut (eV 11) pNo (pSome (eV 14))) (eTup (aCons (eCall d_l_bitten (aCons (e2 gIx (eV 10) (eV 14)) (aCons (e2 gIx (eV 11) (eV 14)) (aCons (eV 15) aNil)))) aNil))) (eCut (eV 11) (pSome (e2 gAdd (eV 14) (eC (.int 1)))) pNo))) (gN 16)) (nsSeq (nsAsg (nP (eCall d_l_good_spots (aCons (eV 10) (aCons (eV 16) aNil)))) (gN 17)) (nsSeq (nsAsg (nP (eCall d_l_heard (aCons (eC (.int 1)) (aCons (eCall d_l_lists (aCons (eV 10) aNil)) (aCons (eV 11) (aCons (eV 14) (aCons (eV 15) aNil))))))) (gN 18)) (nsSeq (nsIf (fun ρ => ((tOrD (tNotD (bO (eCall d_l_same (aCons (eCall d_l_heard (aCons (eC (.int 0)) (aCons (eV 10) (aCons (eCall d_l_lists (aCons (eV 11) aNil)) (aCons (eV 14) (aCons (eV 15) aNil)))))) (aCons (eV 16) aNil))))) (bO (e2 gEqD (eLc (iSeq (eV 17)) [20] (gN 20) (bO (eCall d_l_same (aCons (eV 18) (aCons (eV 20) aNil)))) (eC (.int 1))) (eLst aNil)))) ρ).map fun b => ([b], 0)) (nsRet (nP (eC (.bool false)))) nsNil) (nsSeq (nsAsg (nP (e2 gAdd (eCall d_l_spots_of (aCons (eV 10) aNil)) (eLst (aCons (eC .none) (aCons (eTup (aCons (eC (.int 0)) aNil)) aNil))))) (gN 19)) (nsSeq (nsIf (fun ρ => ((tNotD (bO (eCall d_l_same (aCons (eLc (iSeq (eV 19)) [20] (gN 20) dYes (eCall (fun ds => d_is_answer_spot ds.reverse) (aCons (eV 20) (aCons (eV 15) (aCons (eV 14) (aCons (eV 11) (aCons (eV 10) aNil))))))) (aCons (eLc (iSeq (eV 19)) [20] (gN 20) dYes (e2 gInT (eV 20) (eV 17))) aNil))))) ρ).map fun b => ([b], 0)) (nsRet (nP (eC (.bool false)))) nsNil) (nsIf (fun ρ => ((tNotD (bO (eCall d_l_same (aCons (eCall d_l_heard (aCons (eC (.int 1)) (aCons (eV 10) (aCons (eV 16) (aCons (e2 gIx (e2 gIx (eV 17) (eC (.int 0))) (eC (.int 0))) (aCons (e2 gIx (e2 gIx (eV 17) (eC (.int 0))) (eC (.int 1))) aNil)))))) (aCons (eLst (aCons (eC (.str "can not")) (aCons (eC (.bool true)) aNil))) aNil))))) ρ).map fun b => ([b], 0)) (nsRet (nP (eC (.bool false)))) nsNil))))))))))) (nsRet (nP (eC (.bool true))))))))))))))
def g_l_right : List PyData → Option (List PyData × Nat) := defN 0 21 b_l_right
theorem ok_l_right {f : Addr} {fd : FuncData} (F : Fun K "_law_right" "_law_right" s_l_right f fd) (T : Tp mg) (c_l_put_by_bits : CallD P w K mg base "_law_put_by_bits" 1 1 d_l_put_by_bits) (c_l_worths_of : CallD P w K mg base "_law_worths_of" 4 2 d_l_worths_of) (c_l_lists : CallD P w K mg base "_law_lists" 8 1 d_l_lists) (c_l_chain : CallD P w K mg base "_law_chain" 1 1 d_l_chain) (c_l_same : CallD P w K mg base "_law_same" 8 2 d_l_same) (c_l_spots_of : CallD P w K mg base "_law_spots_of" 1 1 d_l_spots_of) (c_l_bitten : CallD P w K mg base "_law_bitten" 2 3 d_l_bitten) (c_l_good_spots : CallD P w K mg base "_law_good_spots" 5 2 d_l_good_spots) (c_l_heard : CallD P w K mg base "_law_heard" 14 5 d_l_heard) (ck_are_balanced : CallDK P w K mg base "are_balanced" 11 2 ["others", "orders"] d_are_balanced) (ck_balance : CallDK P w K mg base "balance" 12 1 ["orders"] d_balance) (ck_is_answer_spot : CallDK P w K mg base "is_answer_spot" 13 5 ["thing", "piece", "number", "lefts", "orders"] d_is_answer_spot) (n_l_some_orders : CallN P w K mg base "_law_some_orders" 4 1 gn_l_some_orders) (n_l_of : CallN P w K mg base "_law_of" 2 1 gn_l_of) : FnOk P w K mg base CX0 15 f fd ["_law_tin"] (spN 0 g_l_right) :=
  okN (k := 14) (g := b_l_right) F sc_l_right rfl rfl (by decide) rfl fun cdv A outer s H E hr => (nss_cons (ns_asg (vs := [1, 2]) (by decide) (n_call n_l_some_orders (hr.mono (by decide)) (fun _ _ h => gn_len_l_some_orders h) rfl (pv 0) (a_cons e_int a_nil)) (g_tup rfl (gs_cons (g_name (i := 1) sc_l_right.nd rfl (by first | exact Or.inl rfl | exact Or.inr rfl)) (gs_cons (g_name (i := 2) sc_l_right.nd rfl (by first | exact Or.inl rfl | exact Or.inr rfl)) gs_nil)))) (nss_cons (ns_set (i := 3) (by decide) sc_l_right.nd rfl (by first | exact Or.inl rfl | exact Or.inr rfl) (n_of (e_callTy cTuple rfl T.tuple PyProof.Rows.boot_tuple (a_cons (e_lc (own := [("_law_own", 15)]) rfl sc_l_right.nd (i_seq (v 1)) (blkOk_by (own := [("_law_own", 15)]) (N := N_l_right) (sc := defScope s_l_right) (by decide +kernel)) (fun _ _ _ _ _ => (g_name (i := 15) sc_l_right.nd rfl (by first | exact Or.inl rfl | exact Or.inr rfl))) (fun _ _ _ _ _ => ts_nil) (fun _ _ _ _ _ => (e_tupRg rfl rfl T.tuple rfl T.range (e_ix (v 15) e_int)))) a_nil)))) (nss_cons (ns_set (i := 4) (by decide) sc_l_right.nd rfl (by first | exact Or.inl rfl | exact Or.inr rfl) (n_of (e_callD c_l_put_by_bits (hr.mono (by decide)) (fun _ _ h => defD_len h) rfl (a_cons (e_callD c_l_worths_of (hr.mono (by decide)) (fun _ _ h => defD_len h) rfl (a_cons (v 1) (a_cons (v 3) a_nil))) a_nil)))) (nss_cons (ns_par (i := 5) (j := 6) (by decide) (by decide) rfl sc_l_right.nd rfl rfl (by decide) rfl rfl (n_ix (n_call n_l_some_orders (hr.mono (by decide)) (fun _ _ h => gn_len_l_some_orders h) rfl (pv 0) (a_cons e_int a_nil)) (n_of e_int)) (n_of (e_callD c_l_lists (hr.mono (by decide)) (fun _ _ h => defD_len h) rfl (a_cons (v 1) a_nil))) rfl) (nss_cons (ns_set (i := 7) (by decide) sc_l_right.nd rfl (by first | exact Or.inl rfl | exact Or.inr rfl) (n_of (e_callD c_l_put_by_bits (hr.mono (by decide)) (fun _ _ h => defD_len h) rfl (a_cons (e_callD c_l_worths_of (hr.mono (by decide)) (fun _ _ h => defD_len h) rfl (a_cons (v 5) (a_cons (e_callTy cTuple rfl T.tuple PyProof.Rows.boot_tuple (a_cons (e_lc (own := [("_law_own", 15)]) rfl sc_l_right.nd (i_seq (v 5)) (blkOk_by (own := [("_law_own", 15)]) (N := N_l_right) (sc := defScope s_l_right) (by decide +kernel)) (fun _ _ _ _ _ => (g_name (i := 15) sc_l_right.nd rfl (by first | exact Or.inl rfl | exact Or.inr rfl))) (fun _ _ _ _ _ => ts_nil) (fun _ _ _ _ _ => (e_tupRg rfl rfl T.tuple rfl T.range (e_ix (v 15) e_int)))) a_nil)) a_nil))) a_nil)))) (nss_cons (ns_set (i := 8) (by decide) sc_l_right.nd rfl (by first | exact Or.inl rfl | exact Or.inr rfl) (n_of (e_lst (a_cons (e_callDK ck_balance (hr.mono (by decide)) (fun _ _ h => defD_len h) rfl (k_cons (v 6) k_nil)) (a_cons (e_callDK ck_are_balanced (hr.mono (by decide)) (fun _ _ h => defD_len h) rfl (k_cons (e_callD c_l_lists (hr.mono (by decide)) (fun _ _ h => defD_len h) rfl (a_cons (v 5) a_nil)) (k_cons (v 1) k_nil))) (a_cons (e_callDK ck_are_balanced (hr.mono (by decide)) (fun _ _ h => defD_len h) rfl (k_cons (e_tup (a_cons (e_callD c_l_chain (hr.mono (by decide)) (fun _ _ h => defD_len h) rfl (a_cons (v 4) a_nil)) a_nil)) (k_cons (v 6) k_nil))) a_nil)))))) (nss_cons (ns_if (nt_of (t_not (t_val (e_callD c_l_same (hr.mono (by decide)) (fun _ _ h => defD_len h) rfl (a_cons (v 8) (a_cons (e_lst (a_cons (e_callD c_l_chain (hr.mono (by decide)) (fun _ _ h => defD_len h) rfl (a_cons (v 4) a_nil)) (a_cons (e_cmp oEqI (v 7) (v 4)) (a_cons e_bl a_nil)))) a_nil)))))) (nss_one (ns_ret (n_of e_bl))) nss_nil) (nss_cons (ns_set (i := 9) (by decide) sc_l_right.nd rfl (by first | exact Or.inl rfl | exact Or.inr rfl) (n_of (e_callD c_l_put_by_bits (hr.mono (by decide)) (fun _ _ h => defD_len h) rfl (a_cons (e_callD c_l_worths_of (hr.mono (by decide)) (fun _ _ h => defD_len h) rfl (a_cons (v 1) (a_cons (v 2) a_nil))) a_nil)))) (nss_cons (ns_asg (vs := [10, 11]) (by decide) (n_of (e_tup (a_cons (e_op oAdd (v 1) (e_tup (a_cons (e_callD c_l_chain (hr.mono (by decide)) (fun _ _ h => defD_len h) rfl (a_cons (v 9) a_nil)) a_nil))) (a_cons (e_op oAdd (v 2) (e_tup (a_cons (e_tupRg rfl rfl T.tuple rfl T.range (v 9)) a_nil))) a_nil)))) (g_tup rfl (gs_cons (g_name (i := 10) sc_l_right.nd rfl (by first | exact Or.inl rfl | exact Or.inr rfl)) (gs_cons (g_name (i := 11) sc_l_right.nd rfl (by first | exact Or.inl rfl | exact Or.inr rfl)) gs_nil)))) (nss_cons (ns_for (vs := [12]) (by decide) PassesOwn.never rfl (i_rg1 rfl T.range e_int) (g_name (i := 12) sc_l_right.nd rfl (by first | exact Or.inl rfl | exact Or.inr rfl)) (nss_cons (ns_setLcP (i := 13) (own := [("_law_k", 14), ("_law_own", 15)]) (by decide) rfl sc_l_right.nd rfl rfl (sw_true rfl rfl rfl (by decide +kernel)) (i_seq (e_callD c_l_spots_of (hr.mono (by decide)) (fun _ _ h => defD_len h) rfl (a_cons (v 10) a_nil))) (blkOk_by (own := [("_law_k", 14), ("_law_own", 15)]) (N := N_l_right) (sc := defScope s_l_right) (by decide +kernel)) (fun _ _ _ _ _ => (g_tup rfl (gs_cons (g_name (i := 14) sc_l_right.nd rfl (by first | exact Or.inl rfl | exact Or.inr rfl)) (gs_cons (g_name (i := 15) sc_l_right.nd rfl (by first | exact Or.inl rfl | exact Or.inr rfl)) gs_nil)))) (fun _ _ _ _ _ => (ts_one (t_cmp oIn (v 15) (e_ix (v 11) (v 14))))) (fun _ _ _ _ _ => (e_tup (a_cons (v 14) (a_cons (v 15) a_nil))))) (nss_cons (ns_if (nt_of (t_cmp (oEqD hr.units) (v 13) (e_lst a_nil))) (nss_one (ns_ret (n_of e_bl))) nss_nil) (nss_cons (ns_asg (vs := [14, 15]) (by decide) (n_call n_l_of (hr.mono (by decide)) (fun _ _ h => gn_len_l_of h) rfl (pv 0) (a_cons (v 13) a_nil)) (g_tup rfl (gs_cons (g_name (i := 14) sc_l_right.nd rfl (by first | exact Or.inl rfl | exact Or.inr rfl)) (gs_cons (g_name (i := 15) sc_l_right.nd rfl (by first | exact Or.inl rfl | exact Or.inr rfl)) gs_nil)))) (nss_cons (ns_set (i := 16) (by decide) sc_l_right.nd rfl (by first | exact Or.inl rfl | exact Or.inr rfl) (n_of (e_op oAdd (e_op oAdd (e_cut (v 11) p_no (p_some (v 14))) (e_tup (a_cons (e_callD c_l_bitten (hr.mono (by decide)) (fun _ _ h => defD_len h) rfl (a_cons (e_ix (v 10) (v 14)) (a_cons (e_ix (v 11) (v 14)) (a_cons (v 15) a_nil)))) a_nil))) (e_cut (v 11) (p_some (e_op oAdd (v 14) e_int)) p_no)))) (nss_cons (ns_set (i := 17) (by decide) sc_l_right.nd rfl (by first | exact Or.inl rfl | exact Or.inr rfl) (n_of (e_callD c_l_good_spots (hr.mono (by decide)) (fun _ _ h => defD_len h) rfl (a_cons (v 10) (a_cons (v 16) a_nil))))) (nss_cons (ns_set (i := 18) (by decide) sc_l_right.nd rfl (by first | exact Or.inl rfl | exact Or.inr rfl) (n_of (e_callD c_l_heard (hr.mono (by decide)) (fun _ _ h => defD_len h) rfl (a_cons e_int (a_cons (e_callD c_l_lists (hr.mono (by decide)) (fun _ _ h => defD_len h) rfl (a_cons (v 10) a_nil)) (a_cons (v 11) (a_cons (v 14) (a_cons (v 15) a_nil)))))))) (nss_cons (ns_if (nt_of (PW.pt (w_or (t_not (t_val (e_callD c_l_same (hr.mono (by decide)) (fun _ _ h => defD_len h) rfl (a_cons (e_callD c_l_heard (hr.mono (by decide)) (fun _ _ h => defD_len h) rfl (a_cons e_int (a_cons (v 10) (a_cons (e_callD c_l_lists (hr.mono (by decide)) (fun _ _ h => defD_len h) rfl (a_cons (v 11) a_nil)) (a_cons (v 14) (a_cons (v 15) a_nil)))))) (a_cons (v 16) a_nil))))) (w_or1 (t_cmp (oEqD hr.units) (e_lc (own := [("_law_its", 20)]) rfl sc_l_right.nd (i_seq (v 17)) (blkOk_by (own := [("_law_its", 20)]) (N := N_l_right) (sc := defScope s_l_right) (by decide +kernel)) (fun _ _ _ _ _ => (g_name (i := 20) sc_l_right.nd rfl (by first | exact Or.inl rfl | exact Or.inr rfl))) (fun _ _ _ _ _ => (ts_one (t_val (e_callD c_l_same (hr.mono (by decide)) (fun _ _ h => defD_len h) rfl (a_cons (v 18) (a_cons (v 20) a_nil)))))) (fun _ _ _ _ _ => e_int)) (e_lst a_nil)))))) (nss_one (ns_ret (n_of e_bl))) nss_nil) (nss_cons (ns_set (i := 19) (by decide) sc_l_right.nd rfl (by first | exact Or.inl rfl | exact Or.inr rfl) (n_of (e_op oAdd (e_callD c_l_spots_of (hr.mono (by decide)) (fun _ _ h => defD_len h) rfl (a_cons (v 10) a_nil)) (e_lst (a_cons e_non (a_cons (e_tup (a_cons e_int a_nil)) a_nil)))))) (nss_cons (ns_if (nt_of (t_not (t_val (e_callD c_l_same (hr.mono (by decide)) (fun _ _ h => defD_len h) rfl (a_cons (e_lc (own := [("_law_its", 20)]) rfl sc_l_right.nd (i_seq (v 19)) (blkOk_by (own := [("_law_its", 20)]) (N := N_l_right) (sc := defScope s_l_right) (by decide +kernel)) (fun _ _ _ _ _ => (g_name (i := 20) sc_l_right.nd rfl (by first | exact Or.inl rfl | exact Or.inr rfl))) (fun _ _ _ _ _ => ts_nil) (fun _ _ _ _ _ => (e_callDK ck_is_answer_spot (hr.mono (by decide)) (fun _ _ h => defD_len h) rfl (k_cons (v 20) (k_cons (v 15) (k_cons (v 14) (k_cons (v 11) (k_cons (v 10) k_nil)))))))) (a_cons (e_lc (own := [("_law_its", 20)]) rfl sc_l_right.nd (i_seq (v 19)) (blkOk_by (own := [("_law_its", 20)]) (N := N_l_right) (sc := defScope s_l_right) (by decide +kernel)) (fun _ _ _ _ _ => (g_name (i := 20) sc_l_right.nd rfl (by first | exact Or.inl rfl | exact Or.inr rfl))) (fun _ _ _ _ _ => ts_nil) (fun _ _ _ _ _ => (e_cmp (oInT hr.u65) (v 20) (v 17)))) a_nil)))))) (nss_one (ns_ret (n_of e_bl))) nss_nil) (nss_one (ns_if (nt_of (t_not (t_val (e_callD c_l_same (hr.mono (by decide)) (fun _ _ h => defD_len h) rfl (a_cons (e_callD c_l_heard (hr.mono (by decide)) (fun _ _ h => defD_len h) rfl (a_cons e_int (a_cons (v 10) (a_cons (v 16) (a_cons (e_ix (e_ix (v 17) e_int) e_int) (a_cons (e_ix (e_ix (v 17) e_int) e_int) a_nil)))))) (a_cons (e_lst (a_cons e_str (a_cons e_bl a_nil))) a_nil)))))) (nss_one (ns_ret (n_of e_bl))) nss_nil)))))))))))) (nss_one (ns_ret (n_of e_bl)))))))))))))
end
end Ea
end
section
set_option Elab.async false
set_option linter.all false
set_option maxRecDepth 100000
set_option maxHeartbeats 4000000
/-! EqM: the table of the orders, held by the kernel against the program's and the law's defs -/
namespace Ea
open PySem PySem.Spec L2
open PyProof.Rows hiding St
structure NT where
  size : Nat
  ties : List (Nat × Nat)
  tops : List Nat
  ws : List (Nat × Nat)
def NTS : List NT := [
  ⟨1, [], [1], [(0, 0), (1, 1)]⟩,
  ⟨2, [], [1, 2], [(0, 0), (1, 1), (2, 1), (3, 0)]⟩,
  ⟨2, [(0, 1)], [3, 2], [(0, 0), (1, 1), (3, 2)]⟩,
  ⟨3, [], [1, 2, 4], [(0, 0), (1, 1), (2, 1), (3, 0), (4, 1), (5, 0), (6, 0), (7, 1)]⟩,
  ⟨3, [(0, 1)], [3, 2, 4], [(0, 0), (1, 1), (3, 2), (4, 1), (5, 0), (7, 3)]⟩,
  ⟨3, [(0, 2)], [5, 2, 4], [(0, 0), (1, 1), (2, 1), (3, 0), (5, 2), (7, 3)]⟩,
  ⟨3, [(1, 2)], [1, 6, 4], [(0, 0), (1, 1), (2, 1), (3, 0), (6, 2), (7, 3)]⟩,
  ⟨3, [(0, 1), (0, 2)], [7, 2, 4], [(0, 0), (1, 1), (3, 2), (5, 2), (7, 1)]⟩,
  ⟨3, [(0, 1), (1, 2)], [7, 6, 4], [(0, 0), (1, 1), (3, 2), (7, 3)]⟩,
  ⟨3, [(0, 2), (1, 2)], [5, 6, 4], [(0, 0), (1, 1), (2, 1), (3, 0), (7, 2)]⟩,
  ⟨4, [], [1, 2, 4, 8], [(0, 0), (1, 1), (2, 1), (3, 0), (4, 1), (5, 0), (6, 0), (7, 1), (8, 1), (9, 0), (10, 0), (11, 1), (12, 0), (13, 1), (14, 1), (15, 0)]⟩,
  ⟨4, [(0, 1)], [3, 2, 4, 8], [(0, 0), (1, 1), (3, 2), (4, 1), (5, 0), (7, 3), (8, 1), (9, 0), (11, 3), (12, 0), (13, 1), (15, 2)]⟩,
  ⟨4, [(0, 2)], [5, 2, 4, 8], [(0, 0), (1, 1), (2, 1), (3, 0), (5, 2), (7, 3), (8, 1), (9, 0), (10, 0), (11, 1), (13, 3), (15, 2)]⟩,
  ⟨4, [(1, 2)], [1, 6, 4, 8], [(0, 0), (1, 1), (2, 1), (3, 0), (6, 2), (7, 3), (8, 1), (9, 0), (10, 0), (11, 1), (14, 3), (15, 2)]⟩,
  ⟨4, [(0, 3)], [9, 2, 4, 8], [(0, 0), (1, 1), (2, 1), (3, 0), (4, 1), (5, 0), (6, 0), (7, 1), (9, 2), (11, 3), (13, 3), (15, 2)]⟩,
  ⟨4, [(1, 3)], [1, 10, 4, 8], [(0, 0), (1, 1), (2, 1), (3, 0), (4, 1), (5, 0), (6, 0), (7, 1), (10, 2), (11, 3), (14, 3), (15, 2)]⟩,
  ⟨4, [(2, 3)], [1, 2, 12, 8], [(0, 0), (1, 1), (2, 1), (3, 0), (4, 1), (5, 0), (6, 0), (7, 1), (12, 2), (13, 3), (14, 3), (15, 2)]⟩,
  ⟨4, [(0, 1), (0, 2)], [7, 2, 4, 8], [(0, 0), (1, 1), (3, 2), (5, 2), (7, 1), (8, 1), (9, 0), (11, 3), (13, 3), (15, 0)]⟩,
  ⟨4, [(0, 1), (1, 2)], [7, 6, 4, 8], [(0, 0), (1, 1), (3, 2), (7, 3), (8, 1), (9, 0), (11, 3), (15, 2)]⟩,
  ⟨4, [(0, 1), (0, 3)], [11, 2, 4, 8], [(0, 0), (1, 1), (3, 2), (4, 1), (5, 0), (7, 3), (9, 2), (11, 1), (13, 3), (15, 0)]⟩,
  ⟨4, [(0, 1), (1, 3)], [11, 10, 4, 8], [(0, 0), (1, 1), (3, 2), (4, 1), (5, 0), (7, 3), (11, 3), (15, 2)]⟩,
  ⟨4, [(0, 1), (2, 3)], [3, 2, 12, 8], [(0, 0), (1, 1), (3, 2), (4, 1), (5, 0), (7, 3), (12, 2), (13, 3), (15, 0)]⟩,
  ⟨4, [(0, 2), (1, 2)], [5, 6, 4, 8], [(0, 0), (1, 1), (2, 1), (3, 0), (7, 2), (8, 1), (9, 0), (10, 0), (11, 1), (15, 3)]⟩,
  ⟨4, [(0, 2), (0, 3)], [13, 2, 4, 8], [(0, 0), (1, 1), (2, 1), (3, 0), (5, 2), (7, 3), (9, 2), (11, 3), (13, 1), (15, 0)]⟩,
  ⟨4, [(0, 2), (1, 3)], [5, 10, 4, 8], [(0, 0), (1, 1), (2, 1), (3, 0), (5, 2), (7, 3), (10, 2), (11, 3), (15, 0)]⟩,
  ⟨4, [(0, 2), (2, 3)], [13, 2, 12, 8], [(0, 0), (1, 1), (2, 1), (3, 0), (5, 2), (7, 3), (13, 3), (15, 2)]⟩,
  ⟨4, [(0, 3), (1, 2)], [9, 6, 4, 8], [(0, 0), (1, 1), (2, 1), (3, 0), (6, 2), (7, 3), (9, 2), (11, 3), (15, 0)]⟩,
  ⟨4, [(1, 2), (1, 3)], [1, 14, 4, 8], [(0, 0), (1, 1), (2, 1), (3, 0), (6, 2), (7, 3), (10, 2), (11, 3), (14, 1), (15, 0)]⟩,
  ⟨4, [(1, 2), (2, 3)], [1, 14, 12, 8], [(0, 0), (1, 1), (2, 1), (3, 0), (6, 2), (7, 3), (14, 3), (15, 2)]⟩,
  ⟨4, [(0, 3), (1, 3)], [9, 10, 4, 8], [(0, 0), (1, 1), (2, 1), (3, 0), (4, 1), (5, 0), (6, 0), (7, 1), (11, 2), (15, 3)]⟩,
  ⟨4, [(0, 3), (2, 3)], [9, 2, 12, 8], [(0, 0), (1, 1), (2, 1), (3, 0), (4, 1), (5, 0), (6, 0), (7, 1), (13, 2), (15, 3)]⟩,
  ⟨4, [(1, 3), (2, 3)], [1, 10, 12, 8], [(0, 0), (1, 1), (2, 1), (3, 0), (4, 1), (5, 0), (6, 0), (7, 1), (14, 2), (15, 3)]⟩,
  ⟨4, [(0, 1), (0, 2), (0, 3)], [15, 2, 4, 8], [(0, 0), (1, 1), (3, 2), (5, 2), (7, 1), (9, 2), (11, 1), (13, 1), (15, 2)]⟩,
  ⟨4, [(0, 1), (0, 2), (1, 3)], [15, 10, 4, 8], [(0, 0), (1, 1), (3, 2), (5, 2), (7, 1), (11, 3), (15, 4)]⟩,
  ⟨4, [(0, 1), (0, 2), (2, 3)], [15, 2, 12, 8], [(0, 0), (1, 1), (3, 2), (5, 2), (7, 1), (13, 3), (15, 4)]⟩,
  ⟨4, [(0, 1), (0, 3), (1, 2)], [15, 6, 4, 8], [(0, 0), (1, 1), (3, 2), (7, 3), (9, 2), (11, 1), (15, 4)]⟩,
  ⟨4, [(0, 1), (1, 2), (1, 3)], [15, 14, 4, 8], [(0, 0), (1, 1), (3, 2), (7, 3), (11, 3), (15, 2)]⟩,
  ⟨4, [(0, 1), (1, 2), (2, 3)], [15, 14, 12, 8], [(0, 0), (1, 1), (3, 2), (7, 3), (15, 4)]⟩,
  ⟨4, [(0, 1), (0, 3), (2, 3)], [11, 2, 12, 8], [(0, 0), (1, 1), (3, 2), (4, 1), (5, 0), (7, 3), (13, 2), (15, 0)]⟩,
  ⟨4, [(0, 1), (1, 3), (2, 3)], [11, 10, 12, 8], [(0, 0), (1, 1), (3, 2), (4, 1), (5, 0), (7, 3), (15, 4)]⟩,
  ⟨4, [(0, 2), (0, 3), (1, 2)], [13, 6, 4, 8], [(0, 0), (1, 1), (2, 1), (3, 0), (7, 2), (9, 2), (11, 3), (15, 0)]⟩,
  ⟨4, [(0, 2), (1, 2), (1, 3)], [5, 14, 4, 8], [(0, 0), (1, 1), (2, 1), (3, 0), (7, 2), (10, 2), (11, 3), (15, 0)]⟩,
  ⟨4, [(0, 2), (1, 2), (2, 3)], [13, 14, 12, 8], [(0, 0), (1, 1), (2, 1), (3, 0), (7, 2), (15, 3)]⟩,
  ⟨4, [(0, 2), (0, 3), (1, 3)], [13, 10, 4, 8], [(0, 0), (1, 1), (2, 1), (3, 0), (5, 2), (7, 3), (11, 2), (15, 0)]⟩,
  ⟨4, [(0, 2), (1, 3), (2, 3)], [13, 10, 12, 8], [(0, 0), (1, 1), (2, 1), (3, 0), (5, 2), (7, 3), (15, 4)]⟩,
  ⟨4, [(0, 3), (1, 2), (1, 3)], [9, 14, 4, 8], [(0, 0), (1, 1), (2, 1), (3, 0), (6, 2), (7, 3), (11, 2), (15, 0)]⟩,
  ⟨4, [(0, 3), (1, 2), (2, 3)], [9, 14, 12, 8], [(0, 0), (1, 1), (2, 1), (3, 0), (6, 2), (7, 3), (15, 4)]⟩,
  ⟨4, [(0, 3), (1, 3), (2, 3)], [9, 10, 12, 8], [(0, 0), (1, 1), (2, 1), (3, 0), (4, 1), (5, 0), (6, 0), (7, 1), (15, 2)]⟩,
  ⟨4, [(0, 1), (0, 2), (1, 3), (2, 3)], [15, 10, 12, 8], [(0, 0), (1, 1), (3, 2), (5, 2), (7, 1), (15, 3)]⟩,
  ⟨4, [(0, 2), (0, 3), (1, 2), (1, 3)], [13, 14, 4, 8], [(0, 0), (1, 1), (2, 1), (3, 0), (7, 2), (11, 2), (15, 0)]⟩,
  ⟨0, [], [], [(0, 0)]⟩,
  ⟨5, [(0, 1), (1, 2), (2, 3), (3, 4)], [31, 30, 28, 24, 16], [(0, 0), (1, 1), (3, 2), (7, 3), (15, 4), (31, 5)]⟩,
  ⟨6, [(0, 1), (1, 2), (2, 3), (3, 4), (4, 5)], [63, 62, 60, 56, 48, 32], [(0, 0), (1, 1), (3, 2), (7, 3), (15, 4), (31, 5), (63, 6)]⟩,
  ⟨7, [(0, 1), (1, 2), (2, 3), (3, 4), (4, 5), (5, 6)], [127, 126, 124, 120, 112, 96, 64], [(0, 0), (1, 1), (3, 2), (7, 3), (15, 4), (31, 5), (63, 6), (127, 7)]⟩]

def NT.d (t : NT) : PyData := oD t.size t.ties
def NT.wd (t : NT) : PyData := .dict (t.ws.map fun p => (iD p.1, iD p.2))
def NT.td (t : NT) : PyData := .list (t.tops.map iD)
/-- the pieces of a left told by its bits -/
def pcs (b : Nat) : List Nat := (List.range 7).filter fun k => b.testBit k
def lD (b : Nat) : PyData := .tuple ((pcs b).map iD)
def NT.w (t : NT) (b : Nat) : Nat := ((t.ws.find? fun p => p.1 == b).map (·.2)).getD 0
def NT.ch (t : NT) (b p : Nat) : Nat := b - (b &&& t.tops.getD p 0)
def lst7 (d : PyData) : PyData := (r_l_lists 7 [d]).getD .none
def netOk (t : NT) : Bool :=
  beqO (d_sure_order [t.d]) t.d && beqO (d_worths_by_bits [t.d]) t.wd && beqO (d_l_worths [t.d]) t.wd && beqO (d_tops_by_bits [t.d]) t.td && beqO (d_l_ups [t.d]) t.td && beqO (r_tupled 7 [t.d]) t.d &&
  beqO (r_l_lists 7 [t.d]) (lst7 t.d) && beqO (r_tupled 7 [lst7 t.d]) t.d && (t.tops.length == t.size)
theorem net_all : ∀ t ∈ NTS, netOk t = true := by decide +kernel
/-- a left by its bits -/
def bitOk (b : Nat) : Bool := beqO (d_bits_for [lD b]) (iD b) && beqO (d_l_bits [lD b]) (iD b) && beqO (d_pieces_for [iD b]) (lD b) && beqO (d_l_pieces [iD b]) (lD b) && beqO (r_tupled 7 [lD b]) (lD b) && beqO (r_l_lists 7 [lD b]) (lst7 (lD b)) && beqO (r_tupled 7 [lst7 (lD b)]) (lD b)
theorem bit_all : ∀ b ∈ List.range 128, bitOk b = true := by decide +kernel
def allB (t : NT) : List Nat := t.ws.map (·.1)
/-- a component: an order and a left of it -/
def compOk (t : NT) (b : Nat) : Bool :=
  Nat.blt b 128 && Nat.blt (t.w b) 8 && beqO (d_sure_left [t.d, lD b]) (lD b) && (t.ws.any fun p => p.1 == b) &&
  ((pcs b).all fun p => Nat.blt p t.size && (allB t).contains (t.ch b p) && !(t.w (t.ch b p) == t.w b) && beqO ((gInv (iD (t.tops.getD p 0))).bind fun y => gAnd (iD b) y) (iD (t.ch b p))) &&
  ((List.range (t.w b)).all fun v => (pcs b).any fun p => t.w (t.ch b p) == v)
theorem comp_all : ∀ t ∈ NTS, ∀ b ∈ allB t, compOk t b = true := by decide +kernel
/-- the whole left -/
def NT.full (t : NT) : Nat := 2 ^ t.size - 1
theorem full_all : ∀ t ∈ NTS, ((allB t).contains t.full && beqD (lD t.full) (.tuple ((List.range t.size).map iD))) = true := by decide +kernel
theorem comps_in : ∀ n ∈ NETS, ∀ l ∈ leftsOf n, (NTS.any fun t => beqD t.d n && (allB t).any fun b => beqD (lD b) l) = true := by decide +kernel
end Ea
end
section
set_option Elab.async false
set_option linter.all false
set_option maxRecDepth 100000
set_option maxHeartbeats 4000000
/-! EqN: components: an order of the table and a left of it -/
namespace Ea
open PySem PySem.Spec L2
open PyProof.Rows hiding St
structure InC (c : NT × Nat) : Prop where
  t : c.1 ∈ NTS
  b : c.2 ∈ allB c.1
section
variable {t : NT} {b : Nat}
theorem net_facts (ht : t ∈ NTS) : d_sure_order [t.d] = some t.d ∧ d_worths_by_bits [t.d] = some t.wd ∧ d_l_worths [t.d] = some t.wd ∧ d_tops_by_bits [t.d] = some t.td ∧ d_l_ups [t.d] = some t.td ∧ r_tupled 7 [t.d] = some t.d ∧
    r_l_lists 7 [t.d] = some (lst7 t.d) ∧ r_tupled 7 [lst7 t.d] = some t.d ∧ t.tops.length = t.size := by
  have h := net_all t ht
  unfold netOk at h
  simp only [Bool.and_eq_true, beq_iff_eq] at h
  obtain ⟨⟨⟨⟨⟨⟨⟨⟨h1, h2⟩, h3⟩, h4⟩, h5⟩, h6⟩, h7⟩, h8⟩, h9⟩ := h
  exact ⟨beqO_eq h1, beqO_eq h2, beqO_eq h3, beqO_eq h4, beqO_eq h5, beqO_eq h6, beqO_eq h7, beqO_eq h8, h9⟩
theorem bit_facts (hb : b < 128) : d_bits_for [lD b] = some (iD b) ∧ d_l_bits [lD b] = some (iD b) ∧ d_pieces_for [iD b] = some (lD b) ∧ d_l_pieces [iD b] = some (lD b) ∧ r_tupled 7 [lD b] = some (lD b) ∧
    r_l_lists 7 [lD b] = some (lst7 (lD b)) ∧ r_tupled 7 [lst7 (lD b)] = some (lD b) := by
  have h := bit_all b (List.mem_range.mpr hb)
  unfold bitOk at h
  simp only [Bool.and_eq_true] at h
  obtain ⟨⟨⟨⟨⟨⟨h1, h2⟩, h3⟩, h4⟩, h5⟩, h6⟩, h7⟩ := h
  exact ⟨beqO_eq h1, beqO_eq h2, beqO_eq h3, beqO_eq h4, beqO_eq h5, beqO_eq h6, beqO_eq h7⟩
structure CF (t : NT) (b : Nat) : Prop where
  lt : b < 128
  w8 : t.w b < 8
  sl : d_sure_left [t.d, lD b] = some (lD b)
  inw : (t.ws.any fun p => p.1 == b) = true
  ps : ∀ p ∈ pcs b, p < t.size ∧ t.ch b p ∈ allB t ∧ t.w (t.ch b p) ≠ t.w b ∧ (gInv (iD (t.tops.getD p 0))).bind (fun y => gAnd (iD b) y) = some (iD (t.ch b p))
  mx : ∀ v < t.w b, ∃ p ∈ pcs b, t.w (t.ch b p) = v
theorem comp_facts (ht : t ∈ NTS) (hb : b ∈ allB t) : CF t b := by
  have h := comp_all t ht b hb
  unfold compOk at h
  simp only [Bool.and_eq_true] at h
  obtain ⟨⟨⟨⟨⟨h1, h2⟩, h3⟩, h4⟩, h5⟩, h6⟩ := h
  refine ⟨by simpa [Nat.blt_eq] using h1, by simpa [Nat.blt_eq] using h2, beqO_eq h3, h4, fun p hp => ?_, fun v hv => ?_⟩
  · have := List.all_eq_true.mp h5 p hp
    simp only [Bool.and_eq_true, Bool.not_eq_true', beq_eq_false_iff_ne] at this
    obtain ⟨⟨⟨a1, a2⟩, a3⟩, a4⟩ := this
    exact ⟨by simpa [Nat.blt_eq] using a1, List.contains_iff_mem.mp a2, a3, beqO_eq a4⟩
  · obtain ⟨p, hp, e⟩ := List.any_eq_true.mp (List.all_eq_true.mp h6 v (List.mem_range.mpr hv))
    exact ⟨p, hp, by simpa using e⟩
theorem lookK_ws : ∀ {ws : List (Nat × Nat)}, (ws.any fun p => p.1 == b) = true → lookK (ws.map fun p => (iD p.1, iD p.2)) (b : Int) = some (iD (((ws.find? fun p => p.1 == b).map (·.2)).getD 0))
  | [], h => by cases h
  | (x, y) :: r, h => by
    by_cases e : x = b
    · subst e
      simp [lookK, isK, iD]
    · have h' : (r.any fun p => p.1 == b) = true := by simpa [e] using h
      have ih := lookK_ws h'
      have e' : ¬ ((x : Int) = (b : Int)) := by omega
      have e2 : isK (b : Int) (iD x) = false := by simp [isK, iD, e']
      show (if isK (b : Int) (iD x) then some (iD y) else lookK (r.map fun p => (iD p.1, iD p.2)) b) = _
      rw [e2, if_neg Bool.false_ne_true, ih, List.find?_cons_of_neg (by simpa using e)]
theorem get_w (h : (t.ws.any fun p => p.1 == b) = true) : gDGet t.wd (iD b) = some (iD (t.w b)) := lookK_ws h
theorem inw_of (h : b ∈ allB t) : (t.ws.any fun p => p.1 == b) = true := by
  obtain ⟨p, hp, rfl⟩ := List.mem_map.mp h
  exact List.any_eq_true.mpr ⟨p, hp, by simp⟩
theorem left_worth_gen {fw fb : List PyData → Option PyData} {n l W B r : PyData} (h1 : fw [n] = some W) (h2 : fb [l] = some B) (h3 : gDGet W B = some r) : defD 2 2 (sRet (e2 gDGet (eCall fw (aCons (eV 0) aNil)) (eCall fb (aCons (eV 1) aNil)))) [n, l] = some r := by
  simp [defD, sRet, e2, eCall, aCons, aNil, eV, startE, h1, h2, h3]
theorem left_worth (ht : t ∈ NTS) (hb : b ∈ allB t) : d_left_worth_in [t.d, lD b] = some (iD (t.w b)) :=
  left_worth_gen (net_facts ht).2.1 (bit_facts (comp_facts ht hb).lt).1 (get_w (inw_of hb))
/-! comprehensions, filtered and mapped -/
theorem lcGo_fm {ρ : En} {g : DG} {ft : DT} {fe : DE} {G : PyData → Option PyData} : ∀ {xs : List PyData}, (∀ x ∈ xs, ∃ ρ1, g x ρ = some ρ1 ∧ ((G x = none ∧ ft ρ1 = some false) ∨ ∃ y, G x = some y ∧ ft ρ1 = some true ∧ fe ρ1 = some y)) → lcGo ρ g ft fe xs = some (xs.filterMap G)
  | [], _ => rfl
  | x :: r, h => by
    have ih := lcGo_fm (xs := r) fun z hz => h z (.tail _ hz)
    obtain ⟨ρ1, hg, ⟨h1, h2⟩ | ⟨y, h1, h2, h3⟩⟩ := h x (.head _)
    · simp [lcGo, hg, h2, ih, h1]
    · simp [lcGo, hg, h2, h3, ih, h1]
theorem lcGo_map {ρ : En} {g : DG} {fe : DE} {G : PyData → PyData} {xs : List PyData} (h : ∀ x ∈ xs, ∃ ρ1, g x ρ = some ρ1 ∧ fe ρ1 = some (G x)) : lcGo ρ g dYes fe xs = some (xs.map G) := by
  rw [lcGo_fm (G := fun x => some (G x)) fun x hx => by
    obtain ⟨ρ1, h1, h2⟩ := h x hx
    exact ⟨ρ1, h1, .inr ⟨_, rfl, rfl, h2⟩⟩]
  simp
/-- over the images of a list -/
theorem lcGo_im {α : Type} {ρ : En} {g : DG} {fe : DE} {u v : α → PyData} : ∀ {xs : List α}, (∀ x ∈ xs, ∃ ρ1, g (u x) ρ = some ρ1 ∧ fe ρ1 = some (v x)) → lcGo ρ g dYes fe (xs.map u) = some (xs.map v)
  | [], _ => rfl
  | x :: r, h => by
    have ih := lcGo_im (xs := r) fun z hz => h z (.tail _ hz)
    obtain ⟨ρ1, hg, h1⟩ := h x (.head _)
    simp [lcGo, hg, dYes, h1, ih]
theorem lcGo_imF {α : Type} {ρ : En} {g : DG} {ft : DT} {fe : DE} {u v : α → PyData} {q : α → Bool} : ∀ {xs : List α}, (∀ x ∈ xs, ∃ ρ1, g (u x) ρ = some ρ1 ∧ ft ρ1 = some (q x) ∧ (q x = true → fe ρ1 = some (v x))) → lcGo ρ g ft fe (xs.map u) = some ((xs.filter q).map v)
  | [], _ => rfl
  | x :: r, h => by
    have ih := lcGo_imF (xs := r) fun z hz => h z (.tail _ hz)
    obtain ⟨ρ1, hg, h1, h2⟩ := h x (.head _)
    cases hq : q x with
    | true => simp [lcGo, hg, h1, hq, h2 hq, ih]
    | false => simp [lcGo, hg, h1, hq, ih]
theorem pcs_small {b : Nat} : (pcs b).length ≤ 7 := by
  unfold pcs
  exact Nat.le_trans (List.length_filter_le _ _) (by simp)
theorem pcs_lt {b p : Nat} (h : p ∈ pcs b) : p < 7 := List.mem_range.mp (List.mem_filter.mp h).1
theorem okl {n : Nat} (h : n ≤ 1000 := by simp; omega) : okLen n = true := Nat.ble_eq_true_of_le (by omega)
theorem atI_im {α : Type} {f : α → PyData} {xs : List α} {p : Nat} {x : α} (h : xs[p]? = some x) : atI (xs.map f) (p : Int) = some (f x) := by
  have hl := (List.getElem?_eq_some_iff.mp h).1
  have e : ixN (xs.map f).length (p : Int) = some p := by
    unfold ixN
    simp [hl]
  exact atI_int e (by simp [h])
theorem gIx_td {p : Nat} (h : t.tops.length = t.size) (hp : p < t.size) : gIx t.td (iD p) = some (iD (t.tops.getD p 0)) := by
  refine atI_im (f := iD) ?_
  rw [List.getD_eq_getElem?_getD, List.getElem?_eq_getElem (by omega)]
  rfl
def rows (t : NT) (b : Nat) : List PyData := (pcs b).map fun p => .tuple [iD p, iD (t.w (t.ch b p))]
theorem behind_gen {ft fw fb : List PyData → Option PyData} {n l T W B : PyData} {ps : List Nat} {v : Nat → PyData} (h1 : ft [n] = some T) (h2 : fw [n] = some W) (h3 : fb [l] = some B) (hl : l = .tuple (ps.map iD)) (hs : ps.length ≤ 7)
    (h : ∀ p ∈ ps, ((gIx T (iD p)).bind fun x => (gInv x).bind fun y => (gAnd B y).bind fun z => gDGet W z) = some (v p)) :
    defD 2 6 (sSeq (sAsg (eTup (aCons (eCall ft (aCons (eV 0) aNil)) (aCons (eCall fw (aCons (eV 0) aNil)) (aCons (eCall fb (aCons (eV 1) aNil)) aNil)))) (gTupD 3 (gsCons (gN 2) (gsCons (gN 3) (gsCons (gN 4) gsNil))))) (sRet (eLc (iSeq (eV 1)) [5] (gN 5) dYes (eTup (aCons (eV 5) (aCons (e2 gDGet (eV 3) (e2 gAnd (eV 4) (e1 gInv (e2 gIx (eV 2) (eV 5))))) aNil)))))) [n, l] = some (.list (ps.map fun p => .tuple [iD p, v p])) := by
  have key : lcGo (wipeE [.d n, .d l, .d T, .d W, .d B, .no] [5]) (gN 5) dYes (eTup (aCons (eV 5) (aCons (e2 gDGet (eV 3) (e2 gAnd (eV 4) (e1 gInv (e2 gIx (eV 2) (eV 5))))) aNil))) (ps.map iD) = some (ps.map fun p => .tuple [iD p, v p]) := by
    refine lcGo_im fun p hp => ⟨_, rfl, ?_⟩
    have e := h p hp
    obtain ⟨x, hx, e⟩ := Option.bind_eq_some_iff.mp e
    obtain ⟨y, hy, e⟩ := Option.bind_eq_some_iff.mp e
    obtain ⟨z, hz, e⟩ := Option.bind_eq_some_iff.mp e
    simp [eTup, aCons, aNil, e2, e1, eV, wipeE, hx, hy, hz, e, okLen]
  have e2' : okLen 3 = true := rfl
  simp [defD, sSeq, sAsg, sRet, eTup, aCons, aNil, eCall, eV, startE, h1, h2, h3, e2', gTupD, gsCons, gsNil, gN, eLc, iSeq]
  subst hl
  simp [seqD, okl (n := ps.length) (by omega)]
  rw [key]
  rfl
theorem rows_step (ht : t ∈ NTS) (hb : b ∈ allB t) {p : Nat} (hp : p ∈ pcs b) : ((gIx t.td (iD p)).bind fun x => (gInv x).bind fun y => (gAnd (iD b) y).bind fun z => gDGet t.wd z) = some (iD (t.w (t.ch b p))) := by
  obtain ⟨h1, h2, h3, h4⟩ := (comp_facts ht hb).ps p hp
  rw [gIx_td (net_facts ht).2.2.2.2.2.2.2.2 h1, Option.bind_some]
  obtain ⟨y, hy, e⟩ := Option.bind_eq_some_iff.mp h4
  rw [hy, Option.bind_some, e, Option.bind_some, get_w (inw_of h2)]
theorem worths_behind_eq (ht : t ∈ NTS) (hb : b ∈ allB t) : d_worths_behind [t.d, lD b] = some (.list (rows t b)) :=
  behind_gen (net_facts ht).2.2.2.1 (net_facts ht).2.1 (bit_facts (comp_facts ht hb).lt).1 rfl pcs_small fun p hp => rows_step ht hb hp

theorem behind_all_gen {ft fw fb : List PyData → Option PyData} {n l T W B : PyData} {ps : List Nat} {v : Nat → PyData} (h1 : ft [n] = some T) (h2 : fw [n] = some W) (h3 : fb [l] = some B) (hl : l = .tuple (ps.map iD)) (hs : ps.length ≤ 7)
    (h : ∀ p ∈ ps, ((gIx T (iD p)).bind fun x => (gInv x).bind fun y => (gAnd B y).bind fun z => gDGet W z) = some (v p)) :
    defD 2 6 (sSeq (sAsg (eTup (aCons (eCall fw (aCons (eV 0) aNil)) (aCons (eCall ft (aCons (eV 0) aNil)) (aCons (eCall fb (aCons (eV 1) aNil)) aNil)))) (gTupD 3 (gsCons (gN 2) (gsCons (gN 3) (gsCons (gN 4) gsNil))))) (sRet (eLc (iSeq (eV 1)) [5] (gN 5) dYes (eTup (aCons (eV 5) (aCons (e2 gDGet (eV 2) (e2 gAnd (eV 4) (e1 gInv (e2 gIx (eV 3) (eV 5))))) aNil)))))) [n, l] = some (.list (ps.map fun p => .tuple [iD p, v p])) := by
  have key : lcGo (wipeE [.d n, .d l, .d W, .d T, .d B, .no] [5]) (gN 5) dYes (eTup (aCons (eV 5) (aCons (e2 gDGet (eV 2) (e2 gAnd (eV 4) (e1 gInv (e2 gIx (eV 3) (eV 5))))) aNil))) (ps.map iD) = some (ps.map fun p => .tuple [iD p, v p]) := by
    refine lcGo_im fun p hp => ⟨_, rfl, ?_⟩
    have e := h p hp
    obtain ⟨x, hx, e⟩ := Option.bind_eq_some_iff.mp e
    obtain ⟨y, hy, e⟩ := Option.bind_eq_some_iff.mp e
    obtain ⟨z, hz, e⟩ := Option.bind_eq_some_iff.mp e
    simp [eTup, aCons, aNil, e2, e1, eV, wipeE, hx, hy, hz, e, okLen]
  have e2' : okLen 3 = true := rfl
  simp [defD, sSeq, sAsg, sRet, eTup, aCons, aNil, eCall, eV, startE, h1, h2, h3, e2', gTupD, gsCons, gsNil, gN, eLc, iSeq]
  subst hl
  simp [seqD, okl (n := ps.length) (by omega)]
  rw [key]
  rfl
theorem behind_all_eq (ht : t ∈ NTS) (hb : b ∈ allB t) : d_l_behind_all [t.d, lD b] = some (.list (rows t b)) :=
  behind_all_gen (net_facts ht).2.2.2.2.1 (net_facts ht).2.2.1 (bit_facts (comp_facts ht hb).lt).2.1 rfl pcs_small fun p hp => rows_step ht hb hp
theorem bitten_gen {fp fb fu : List PyData → Option PyData} {n l T B p x y z r : PyData} (h1 : fb [l] = some B) (h2 : fu [n] = some T) (h3 : gIx T p = some x) (h4 : gInv x = some y) (h5 : gAnd B y = some z) (h6 : fp [z] = some r) :
    defD 3 3 (sRet (eCall fp (aCons (e2 gAnd (eCall fb (aCons (eV 1) aNil)) (e1 gInv (e2 gIx (eCall fu (aCons (eV 0) aNil)) (eV 2)))) aNil))) [n, l, p] = some r := by
  simp [defD, sRet, e2, e1, eCall, aCons, aNil, eV, startE, h1, h2, h3, h4, h5, h6]
theorem ch_lt (ht : t ∈ NTS) (hb : b ∈ allB t) {p : Nat} (hp : p ∈ pcs b) : t.ch b p < 128 := (comp_facts ht ((comp_facts ht hb).ps p hp).2.1).lt
theorem bitten_eq (ht : t ∈ NTS) (hb : b ∈ allB t) {p : Nat} (hp : p ∈ pcs b) : d_l_bitten [t.d, lD b, iD p] = some (lD (t.ch b p)) := by
  obtain ⟨h1, h2, h3, h4⟩ := (comp_facts ht hb).ps p hp
  obtain ⟨y, hy, e⟩ := Option.bind_eq_some_iff.mp h4
  exact bitten_gen (bit_facts (comp_facts ht hb).lt).2.1 (net_facts ht).2.2.2.2.1 (gIx_td (net_facts ht).2.2.2.2.2.2.2.2 h1) hy e (bit_facts (ch_lt ht hb hp)).2.2.2.1
end
/-! ### lists of components -/
abbrev CS := List (NT × Nat)
def nsL (cs : CS) : List PyData := cs.map fun c => c.1.d
def lsL (cs : CS) : List PyData := cs.map fun c => lD c.2
def wOf (c : NT × Nat) : Nat := c.1.w c.2
def AllC (cs : CS) : Prop := ∀ c ∈ cs, c.1 ∈ NTS ∧ c.2 ∈ allB c.1
def xorF (acc : Nat) (cs : CS) : Nat := cs.foldl (fun a c => a ^^^ wOf c) acc
theorem xor_ii (a b : Nat) : gXor (iD a) (iD b) = some (iD (a ^^^ b)) := by
  have e : gXor (iD a) (iD b) = some (.int (Builtin.bitXor (a : Int) (b : Int))) := rfl
  rw [e, Bits.bitXor_pp (by omega) (by omega)]
  rfl
theorem put_loop {L : PyData} : ∀ (cs : CS) (acc : Nat) (s : Sl), ∃ s', forGo (gN 2) (sSet 1 (e2 gXor (eV 1) (eV 2))) (cs.map fun c => iD (wOf c)) [.d L, .d (iD acc), s] = some [.d L, .d (iD (xorF acc cs)), s']
  | [], acc, s => ⟨s, rfl⟩
  | c :: r, acc, s => by
    obtain ⟨s', h⟩ := put_loop (L := L) r (acc ^^^ wOf c) (.d (iD (wOf c)))
    refine ⟨s', ?_⟩
    have e : (sSet 1 (e2 gXor (eV 1) (eV 2))) [.d L, .d (iD acc), .d (iD (wOf c))] = some (.nx [.d L, .d (iD (acc ^^^ wOf c)), .d (iD (wOf c))]) := by
      simp [sSet, e2, eV, xor_ii]
    simp only [List.map_cons, forGo, gN, List.set_cons_succ, List.set_cons_zero]
    rw [e]
    exact h
theorem put_eq (cs : CS) : defD 1 3 (sSeq (sSet 1 (eC (.int 0))) (sSeq (sFor (iSeq (eV 0)) (gN 2) (sSet 1 (e2 gXor (eV 1) (eV 2)))) (sRet (eV 1)))) [.list (cs.map fun c => iD (wOf c))] = some (iD (xorF 0 cs)) := by
  obtain ⟨s', h⟩ := put_loop (L := .list (cs.map fun c => iD (wOf c))) cs 0 .no
  have e0 : iD 0 = .int 0 := rfl
  rw [e0] at h
  simp [defD, sSeq, sSet, eC, startE, sFor, iSeq, eV, seqD, sRet, h]
theorem put_together_eq (cs : CS) : d_put_together [.list (cs.map fun c => iD (wOf c))] = some (iD (xorF 0 cs)) := put_eq cs
theorem put_by_bits_eq (cs : CS) : d_l_put_by_bits [.list (cs.map fun c => iD (wOf c))] = some (iD (xorF 0 cs)) := put_eq cs
theorem zip_im {α : Type} {u v : α → PyData} : ∀ xs : List α, zipD (xs.map u) (xs.map v) = xs.map fun x => .tuple [u x, v x]
  | [] => rfl
  | x :: r => by simp [zipD, zip_im r]
theorem lefts_worths_gen {fw : List PyData → Option PyData} {cs : CS} (hl : cs.length ≤ 9) (h : ∀ c ∈ cs, fw [c.1.d, lD c.2] = some (iD (wOf c))) :
    defD 2 4 (sRet (eLc (iZipD (eV 0) (eV 1)) [2, 3] (gTupD 2 (gsCons (gN 2) (gsCons (gN 3) gsNil))) dYes (eCall fw (aCons (eV 2) (aCons (eV 3) aNil))))) [.tuple (nsL cs), .tuple (lsL cs)] = some (.list (cs.map fun c => iD (wOf c))) := by
  have key : lcGo (wipeE [.d (.tuple (nsL cs)), .d (.tuple (lsL cs)), .no, .no] [2, 3]) (gTupD 2 (gsCons (gN 2) (gsCons (gN 3) gsNil))) dYes (eCall fw (aCons (eV 2) (aCons (eV 3) aNil))) (zipD (nsL cs) (lsL cs)) = some (cs.map fun c => iD (wOf c)) := by
    unfold nsL lsL
    rw [zip_im]
    refine lcGo_im fun c hc => ⟨_, rfl, ?_⟩
    simp [eCall, aCons, aNil, eV, wipeE, h c hc]
  have hz : (zipD (nsL cs) (lsL cs)).length ≤ 1000 := by unfold nsL lsL; rw [zip_im]; simp; omega
  simp [defD, sRet, eLc, iZipD, eV, startE, zipD?, okl hz]
  rw [key]
  rfl
theorem lefts_worths_eq {cs : CS} (hl : cs.length ≤ 9) (hc : AllC cs) : d_lefts_worths [.tuple (nsL cs), .tuple (lsL cs)] = some (.list (cs.map fun c => iD (wOf c))) := lefts_worths_gen hl fun c h => left_worth (hc c h).1 (hc c h).2
theorem worths_of_gen {fw fb : List PyData → Option PyData} {cs : CS} (hl : cs.length ≤ 9) (h : ∀ c ∈ cs, ((fw [c.1.d]).bind fun W => (fb [lD c.2]).bind fun B => gDGet W B) = some (iD (wOf c))) :
    defD 2 4 (sRet (eLc (iZipD (eV 0) (eV 1)) [2, 3] (gTupD 2 (gsCons (gN 2) (gsCons (gN 3) gsNil))) dYes (e2 gDGet (eCall fw (aCons (eV 2) aNil)) (eCall fb (aCons (eV 3) aNil))))) [.tuple (nsL cs), .tuple (lsL cs)] = some (.list (cs.map fun c => iD (wOf c))) := by
  have key : lcGo (wipeE [.d (.tuple (nsL cs)), .d (.tuple (lsL cs)), .no, .no] [2, 3]) (gTupD 2 (gsCons (gN 2) (gsCons (gN 3) gsNil))) dYes (e2 gDGet (eCall fw (aCons (eV 2) aNil)) (eCall fb (aCons (eV 3) aNil))) (zipD (nsL cs) (lsL cs)) = some (cs.map fun c => iD (wOf c)) := by
    unfold nsL lsL
    rw [zip_im]
    refine lcGo_im fun c hc => ⟨_, rfl, ?_⟩
    have e := h c hc
    obtain ⟨W, hW, e⟩ := Option.bind_eq_some_iff.mp e
    obtain ⟨B, hB, e⟩ := Option.bind_eq_some_iff.mp e
    simp [e2, eCall, aCons, aNil, eV, wipeE, hW, hB, e]
  have hz : (zipD (nsL cs) (lsL cs)).length ≤ 1000 := by unfold nsL lsL; rw [zip_im]; simp; omega
  simp [defD, sRet, eLc, iZipD, eV, startE, zipD?, okl hz]
  rw [key]
  rfl
theorem worths_of_eq {cs : CS} (hl : cs.length ≤ 9) (hc : AllC cs) : d_l_worths_of [.tuple (nsL cs), .tuple (lsL cs)] = some (.list (cs.map fun c => iD (wOf c))) := worths_of_gen hl fun c h => by
  rw [(net_facts (hc c h).1).2.2.1, Option.bind_some, (bit_facts (comp_facts (hc c h).1 (hc c h).2).lt).2.1, Option.bind_some]
  exact get_w (inw_of (hc c h).2)
end Ea
end
section
set_option Elab.async false
set_option linter.all false
set_option maxRecDepth 100000
set_option maxHeartbeats 4000000
/-! EqO: the program's defs over a list of components -/
namespace Ea
open PySem PySem.Spec L2
open PyProof.Rows hiding St
theorem tupled_seq {α : Type} {r : List PyData → Option PyData} {xs : List α} {u v : α → PyData} {x : PyData} (hx : x = .tuple (xs.map u) ∨ x = .list (xs.map u)) (hl : xs.length ≤ 1000) (h : ∀ a ∈ xs, r [u a] = some (v a)) : defD 1 2 (b_tupled r) [x] = some (.tuple (xs.map v)) := by
  have key : lcGo (wipeE [.d x, .no] [1]) (gN 1) dYes (eCall r (aCons (eV 1) aNil)) (xs.map u) = some (xs.map v) := by
    refine lcGo_im fun a ha => ⟨_, rfl, ?_⟩
    simp [eCall, aCons, aNil, eV, wipeE, h a ha]
  have e1' : bO (e1 (gIsi2 "list" "tuple") (eV 0)) [.d x, .no] = some true := by rcases hx with rfl | rfl <;> rfl
  have e2' : iSeq (eV 0) [.d x, .no] = some (xs.map u) := by rcases hx with rfl | rfl <;> rfl
  have e3 : eLc (iSeq (eV 0)) [1] (gN 1) dYes (eCall r (aCons (eV 1) aNil)) [.d x, .no] = some (.list (xs.map v)) := by
    unfold eLc
    rw [e2']
    simp only [Option.bind_some, List.length_map, okl hl, if_true]
    rw [key]
    rfl
  have e4 : b_tupled r [.d x, .no] = some (.rt (.tuple (xs.map v))) := by
    unfold b_tupled sRet eIf
    rw [e1']
    simp only [eCall, aCons, aNil, e3, Option.bind_some, Option.map_some, gTuple]
  show (match b_tupled r [.d x, .no] with | some (.rt d) => some d | some (.nx _) => some .none | none => none) = _
  rw [e4]
theorem lists_seq {α : Type} {r : List PyData → Option PyData} {xs : List α} {u v : α → PyData} {x : PyData} (hx : x = .tuple (xs.map u) ∨ x = .list (xs.map u)) (hl : xs.length ≤ 1000) (h : ∀ a ∈ xs, r [u a] = some (v a)) : defD 1 2 (b_l_lists r) [x] = some (.list (xs.map v)) := by
  have key : lcGo (wipeE [.d x, .no] [1]) (gN 1) dYes (eCall r (aCons (eV 1) aNil)) (xs.map u) = some (xs.map v) := by
    refine lcGo_im fun a ha => ⟨_, rfl, ?_⟩
    simp [eCall, aCons, aNil, eV, wipeE, h a ha]
  have e1' : bO (e1 (gIsi2 "list" "tuple") (eV 0)) [.d x, .no] = some true := by rcases hx with rfl | rfl <;> rfl
  have e2' : iSeq (eV 0) [.d x, .no] = some (xs.map u) := by rcases hx with rfl | rfl <;> rfl
  have e3 : eLc (iSeq (eV 0)) [1] (gN 1) dYes (eCall r (aCons (eV 1) aNil)) [.d x, .no] = some (.list (xs.map v)) := by
    unfold eLc
    rw [e2']
    simp only [Option.bind_some, List.length_map, okl hl, if_true]
    rw [key]
    rfl
  have e4 : b_l_lists r [.d x, .no] = some (.rt (.list (xs.map v))) := by
    unfold b_l_lists sRet eIf
    rw [e1']
    simp only [e3, Option.map_some]
  show (match b_l_lists r [.d x, .no] with | some (.rt d) => some d | some (.nx _) => some .none | none => none) = _
  rw [e4]
/-- orders, lefts as they may be given: tuples, or lists all through -/
def nsQ (cs : CS) : List PyData := cs.map fun c => lst7 c.1.d
def lsQ (cs : CS) : List PyData := cs.map fun c => lst7 (lD c.2)
def IsO (cs : CS) (x : PyData) : Prop := x = .tuple (nsL cs) ∨ x = .list (nsQ cs)
def IsL (cs : CS) (x : PyData) : Prop := x = .tuple (lsL cs) ∨ x = .list (lsQ cs)
section
variable {cs : CS} {O L : PyData}
theorem tupled_O (hl : cs.length ≤ 9) (hc : AllC cs) (h : IsO cs O) : d_tupled [O] = some (.tuple (nsL cs)) := by
  rcases h with rfl | rfl
  · exact tupled_seq (r := r_tupled 7) (u := fun c => c.1.d) (v := fun c => c.1.d) (xs := cs) (.inl rfl) (by omega) fun c h => (net_facts (hc c h).1).2.2.2.2.2.1
  · exact tupled_seq (r := r_tupled 7) (u := fun c => lst7 c.1.d) (v := fun c => c.1.d) (xs := cs) (.inr rfl) (by omega) fun c h => (net_facts (hc c h).1).2.2.2.2.2.2.2.1
theorem tupled_L (hl : cs.length ≤ 9) (hc : AllC cs) (h : IsL cs L) : d_tupled [L] = some (.tuple (lsL cs)) := by
  rcases h with rfl | rfl
  · exact tupled_seq (r := r_tupled 7) (u := fun c => lD c.2) (v := fun c => lD c.2) (xs := cs) (.inl rfl) (by omega) fun c h => (bit_facts (comp_facts (hc c h).1 (hc c h).2).lt).2.2.2.2.1
  · exact tupled_seq (r := r_tupled 7) (u := fun c => lst7 (lD c.2)) (v := fun c => lD c.2) (xs := cs) (.inr rfl) (by omega) fun c h => (bit_facts (comp_facts (hc c h).1 (hc c h).2).lt).2.2.2.2.2.2
theorem lists_O (hl : cs.length ≤ 9) (hc : AllC cs) : d_l_lists [.tuple (nsL cs)] = some (.list (nsQ cs)) :=
  lists_seq (r := r_l_lists 7) (u := fun c => c.1.d) (v := fun c => lst7 c.1.d) (xs := cs) (.inl rfl) (by omega) fun c h => (net_facts (hc c h).1).2.2.2.2.2.2.1
theorem lists_L (hl : cs.length ≤ 9) (hc : AllC cs) : d_l_lists [.tuple (lsL cs)] = some (.list (lsQ cs)) :=
  lists_seq (r := r_l_lists 7) (u := fun c => lD c.2) (v := fun c => lst7 (lD c.2)) (xs := cs) (.inl rfl) (by omega) fun c h => (bit_facts (comp_facts (hc c h).1 (hc c h).2).lt).2.2.2.2.2.1
theorem sure_orders_gen {α : Type} {ft fs : List PyData → Option PyData} {xs : List α} {u : α → PyData} {O : PyData} (hl : xs.length ≤ 1000) (h : ft [O] = some (.tuple (xs.map u))) (h2 : ∀ a ∈ xs, fs [u a] = some (u a)) :
    defD 1 3 (sSeq (sSet 1 (eCall ft (aCons (eV 0) aNil))) (sSeq (sIf (tNotD (bO (e1 (gIsi "tuple") (eV 1)))) sNo sNil) (sRet (eCall gTuple (aCons (eLc (iSeq (eV 1)) [2] (gN 2) dYes (eCall fs (aCons (eV 2) aNil))) aNil))))) [O] = some (.tuple (xs.map u)) := by
  have key : lcGo (wipeE [.d O, .d (.tuple (xs.map u)), .no] [2]) (gN 2) dYes (eCall fs (aCons (eV 2) aNil)) (xs.map u) = some (xs.map u) := by
    refine lcGo_im fun a ha => ⟨_, rfl, ?_⟩
    simp [eCall, aCons, aNil, eV, wipeE, h2 a ha]
  simp [defD, sSeq, sSet, eCall, aCons, aNil, eV, startE, h, sIf, tNotD, bO, e1, gIsi, isiD, sNil, sRet, eLc, iSeq, seqD, okl hl]
  rw [key]
  rfl
theorem sure_orders_eq (hl : cs.length ≤ 9) (hc : AllC cs) (h : IsO cs O) : d_sure_orders [O] = some (.tuple (nsL cs)) :=
  sure_orders_gen (xs := cs) (u := fun c => c.1.d) (by omega) (tupled_O hl hc h) fun c hc' => (net_facts (hc c hc').1).1
theorem sure_lefts_gen {ft fs : List PyData → Option PyData} (hl : cs.length ≤ 9) (h : ft [L] = some (.tuple (lsL cs))) (h2 : ∀ c ∈ cs, fs [c.1.d, lD c.2] = some (lD c.2)) :
    defD 2 5 (sSeq (sSet 2 (eCall ft (aCons (eV 1) aNil))) (sSeq (sIf (tOrD (tNotD (bO (e1 (gIsi "tuple") (eV 2)))) (bO (e2 gNeI (eCall gLen (aCons (eV 2) aNil)) (eCall gLen (aCons (eV 0) aNil))))) sNo sNil) (sRet (eCall gTuple (aCons (eLc (iZipD (eV 0) (eV 2)) [3, 4] (gTupD 2 (gsCons (gN 3) (gsCons (gN 4) gsNil))) dYes (eCall fs (aCons (eV 3) (aCons (eV 4) aNil)))) aNil))))) [.tuple (nsL cs), L] = some (.tuple (lsL cs)) := by
  have key : lcGo (wipeE [.d (.tuple (nsL cs)), .d L, .d (.tuple (lsL cs)), .no, .no] [3, 4]) (gTupD 2 (gsCons (gN 3) (gsCons (gN 4) gsNil))) dYes (eCall fs (aCons (eV 3) (aCons (eV 4) aNil))) (zipD (nsL cs) (lsL cs)) = some (lsL cs) := by
    unfold nsL lsL
    rw [zip_im]
    refine lcGo_im fun c hc => ⟨_, rfl, ?_⟩
    simp [eCall, aCons, aNil, eV, wipeE, h2 c hc]
  have hz : (zipD (nsL cs) (lsL cs)).length ≤ 1000 := by unfold nsL lsL; rw [zip_im]; simp; omega
  have hle : (lsL cs).length = (nsL cs).length := by simp [lsL, nsL]
  simp [defD, sSeq, sSet, eCall, aCons, aNil, eV, startE, h, sIf, tNotD, tOrD, bO, e1, e2, gIsi, isiD, sNil, sRet, eLc, iZipD, zipD?, okl hz, gLen, gNeI, cmpI, hle]
  rw [key]
  rfl
theorem sure_lefts_eq (hl : cs.length ≤ 9) (hc : AllC cs) (h : IsL cs L) : d_sure_lefts [.tuple (nsL cs), L] = some (.tuple (lsL cs)) :=
  sure_lefts_gen hl (tupled_L hl hc h) fun c hc' => (comp_facts (hc c hc').1 (hc c hc').2).sl
theorem lefts_sure_gen {fo fl : List PyData → Option PyData} {a b : PyData} (h : fo [O] = some a) (h2 : fl [a, L] = some b) : defD 2 3 (sSeq (sSet 2 (eCall fo (aCons (eV 0) aNil))) (sRet (eTup (aCons (eV 2) (aCons (eCall fl (aCons (eV 2) (aCons (eV 1) aNil))) aNil))))) [O, L] = some (.tuple [a, b]) := by
  simp [defD, sSeq, sSet, eCall, aCons, aNil, eV, startE, h, h2, sRet, eTup, okLen]
theorem lefts_sure_eq (hl : cs.length ≤ 9) (hc : AllC cs) (ho : IsO cs O) (h : IsL cs L) : d_lefts_sure [O, L] = some (.tuple [.tuple (nsL cs), .tuple (lsL cs)]) :=
  lefts_sure_gen (sure_orders_eq hl hc ho) (sure_lefts_eq hl hc h)
end
/-! spots -/
def spD (q : Nat × Nat) : PyData := .tuple [iD q.1, iD q.2]
def goodFrom (X : Nat) : Nat → CS → List (Nat × Nat)
  | _, [] => []
  | k, c :: r => (((pcs c.2).filter fun p => c.1.w (c.1.ch c.2 p) == (X ^^^ wOf c)).map fun p => (k, p)) ++ goodFrom X (k + 1) r
theorem eq_ii (a b : Nat) : gEqI (iD a) (iD b) = some (.bool (a == b)) := by
  show some (PyData.bool (decide ((a : Int) = (b : Int)))) = _
  congr 2
  by_cases h : a = b
  · simp [h]
  · have : ¬ ((a : Int) = (b : Int)) := by omega
    simp [h, this]
theorem goodFrom_len : ∀ (cs : CS) (X k : Nat), (goodFrom X k cs).length ≤ 7 * cs.length
  | [], _, _ => Nat.zero_le _
  | c :: r, X, k => by
    have h1 := goodFrom_len r X (k + 1)
    have h2 : ((pcs c.2).filter fun p => c.1.w (c.1.ch c.2 p) == (X ^^^ wOf c)).length ≤ 7 := Nat.le_trans (List.length_filter_le _ _) pcs_small
    simp only [goodFrom, List.length_append, List.length_map, List.length_cons]
    omega
/-- one turn of the program's search -/
theorem win_turn {fb : List PyData → Option PyData} {O L WS a b c d e : Sl} {t : NT} {bb k X : Nat} {LS WL acc : List PyData} (hL : LS[k]? = some (lD bb)) (hW : WL[k]? = some (iD (t.w bb))) (hb : fb [t.d, lD bb] = some (.list (rows t bb))) (ha : acc.length ≤ 500) :
    ∃ a' : Sl, (sSeq (sSet 7 (e2 gXor (eV 4) (e2 gIx (eV 2) (eV 5)))) (sMut extD 3 (eLc (iSeq (eCall fb (aCons (eV 6) (aCons (e2 gIx (eV 1) (eV 5)) aNil)))) [8, 9] (gTupD 2 (gsCons (gN 8) (gsCons (gN 9) gsNil))) (bO (e2 gEqI (eV 9) (eV 7))) (eTup (aCons (eV 5) (aCons (eV 8) aNil))))))
      [O, .d (.tuple LS), .d (.list WL), .o (.list acc), .d (iD X), .d (iD k), .d t.d, c, d, e] = some (.nx [O, .d (.tuple LS), .d (.list WL), .o (.list (acc ++ (((pcs bb).filter fun p => t.w (t.ch bb p) == (X ^^^ t.w bb)).map fun p => (k, p)).map spD)), .d (iD X), .d (iD k), .d t.d, a', d, e]) := by
  have h1 : gIx (.list WL) (iD k) = some (iD (t.w bb)) := by
    have := atI_im (f := id) hW
    rw [List.map_id] at this
    exact this
  have h2 : gIx (.tuple LS) (iD k) = some (lD bb) := by
    have := atI_im (f := id) hL
    rw [List.map_id] at this
    exact this
  refine ⟨.d (iD (X ^^^ t.w bb)), ?_⟩
  have key : lcGo (wipeE [O, .d (.tuple LS), .d (.list WL), .o (.list acc), .d (iD X), .d (iD k), .d t.d, .d (iD (X ^^^ t.w bb)), d, e] [8, 9]) (gTupD 2 (gsCons (gN 8) (gsCons (gN 9) gsNil))) (bO (e2 gEqI (eV 9) (eV 7))) (eTup (aCons (eV 5) (aCons (eV 8) aNil))) (rows t bb) =
      some (((pcs bb).filter fun p => t.w (t.ch bb p) == (X ^^^ t.w bb)).map fun p => spD (k, p)) := by
    unfold rows
    refine lcGo_imF fun p hp => ⟨_, rfl, ?_, fun _ => ?_⟩
    · simp [bO, e2, eV, wipeE, eq_ii]
    · simp [eTup, aCons, aNil, eV, wipeE, okLen, spD]
  have hrl : (rows t bb).length ≤ 1000 := by unfold rows; rw [List.length_map]; exact Nat.le_trans pcs_small (by omega)
  have hfl : (acc.length + ((pcs bb).filter fun p => t.w (t.ch bb p) == (X ^^^ t.w bb)).length) ≤ 1000 := by
    have := Nat.le_trans (List.length_filter_le (fun p => t.w (t.ch bb p) == (X ^^^ t.w bb)) (pcs bb)) pcs_small
    omega
  simp only [sSeq, sSet, e2, eV, List.getElem?_cons_zero, List.getElem?_cons_succ, Option.bind_some, h1, xor_ii, Option.map_some, List.set_cons_succ, List.set_cons_zero, sMut, eLc, iSeq, eCall, aCons, aNil, h2, hb, seqD, okl hrl, if_true, ownAt]
  rw [key]
  simp only [Option.map_some, Option.bind_some, extD, List.length_map, okl hfl, if_true, List.map_map]
  rfl
end Ea
end
section
set_option Elab.async false
set_option linter.all false
set_option maxRecDepth 100000
set_option maxHeartbeats 4000000
/-! EqP: the program's search, its answers, what is heard of them -/
namespace Ea
open PySem PySem.Spec L2
open PyProof.Rows hiding St
abbrev winBody (fb : List PyData → Option PyData) : DS := sSeq (sSet 7 (e2 gXor (eV 4) (e2 gIx (eV 2) (eV 5)))) (sMut extD 3 (eLc (iSeq (eCall fb (aCons (eV 6) (aCons (e2 gIx (eV 1) (eV 5)) aNil)))) [8, 9] (gTupD 2 (gsCons (gN 8) (gsCons (gN 9) gsNil))) (bO (e2 gEqI (eV 9) (eV 7))) (eTup (aCons (eV 5) (aCons (eV 8) aNil)))))
abbrev winTg : DG := gTupD 2 (gsCons (gN 5) (gsCons (gN 6) gsNil))
theorem win_loop {fb : List PyData → Option PyData} {O d e : Sl} {X : Nat} {LS WL : List PyData} : ∀ (cs : CS) (k : Nat) (acc : List PyData) (a b c : Sl), (∀ (i : Nat) (x : NT × Nat), cs[i]? = some x → LS[k + i]? = some (lD x.2) ∧ WL[k + i]? = some (iD (wOf x))) → (∀ x ∈ cs, fb [x.1.d, lD x.2] = some (.list (rows x.1 x.2))) → acc.length + 7 * cs.length ≤ 500 →
    ∃ a' b' c', forGo winTg (winBody fb) (enumD k (nsL cs)) [O, .d (.tuple LS), .d (.list WL), .o (.list acc), .d (iD X), a, b, c, d, e] = some [O, .d (.tuple LS), .d (.list WL), .o (.list (acc ++ (goodFrom X k cs).map spD)), .d (iD X), a', b', c', d, e]
  | [], k, acc, a, b, c, _, _, _ => ⟨a, b, c, by simp [goodFrom, nsL, enumD, forGo]⟩
  | x :: r, k, acc, a, b, c, hs, hb, hl => by
    obtain ⟨hL, hW⟩ := hs 0 x rfl
    simp only [List.length_cons] at hl
    obtain ⟨a1, h1⟩ := win_turn (fb := fb) (O := O) (L := .no) (WS := .no) (a := .no) (b := .no) (c := c) (d := d) (e := e) (t := x.1) (bb := x.2) (k := k) (X := X) (LS := LS) (WL := WL) (acc := acc) hL hW (hb x (.head _)) (by omega)
    have hfl := Nat.le_trans (List.length_filter_le (fun p => x.1.w (x.1.ch x.2 p) == (X ^^^ x.1.w x.2)) (pcs x.2)) pcs_small
    obtain ⟨a', b', c', h2⟩ := win_loop (fb := fb) (O := O) (d := d) (e := e) (X := X) (LS := LS) (WL := WL) r (k + 1) (acc ++ (((pcs x.2).filter fun p => x.1.w (x.1.ch x.2 p) == (X ^^^ x.1.w x.2)).map fun p => (k, p)).map spD) (.d (iD k)) (.d x.1.d) a1
      (fun i y hy => by have := hs (i + 1) y (by simpa using hy); rw [show k + 1 + i = k + (i + 1) by omega]; exact this) (fun y hy => hb y (.tail _ hy)) (by simp; omega)
    refine ⟨a', b', c', ?_⟩
    have e0 : enumD (k : Int) (nsL (x :: r)) = .tuple [iD k, x.1.d] :: enumD ((k + 1 : Nat) : Int) (nsL r) := rfl
    rw [e0]
    have e1' : winTg (.tuple [iD k, x.1.d]) [O, .d (.tuple LS), .d (.list WL), .o (.list acc), .d (iD X), a, b, c, d, e] = some [O, .d (.tuple LS), .d (.list WL), .o (.list acc), .d (iD X), .d (iD k), .d x.1.d, c, d, e] := rfl
    show (match winTg (.tuple [iD k, x.1.d]) _ with | none => none | some ρ1 => match winBody fb ρ1 with | some (.nx ρ2) => forGo winTg (winBody fb) (enumD ((k + 1 : Nat) : Int) (nsL r)) ρ2 | _ => none) = _
    rw [e1']
    dsimp only
    rw [show winBody fb _ = _ from h1]
    dsimp only
    rw [h2]
    simp only [goodFrom, List.map_append, List.append_assoc]
    rfl
def xorC (cs : CS) : Nat := xorF 0 cs
theorem winning_gen {fw fp fb : List PyData → Option PyData} {cs : CS} (hl : cs.length ≤ 9) (h1 : fw [.tuple (nsL cs), .tuple (lsL cs)] = some (.list (cs.map fun c => iD (wOf c)))) (h2 : fp [.list (cs.map fun c => iD (wOf c))] = some (iD (xorC cs))) (h3 : ∀ x ∈ cs, fb [x.1.d, lD x.2] = some (.list (rows x.1 x.2))) :
    defD 2 10 (sSeq (sParO 2 3 (eCall fw (aCons (eV 0) (aCons (eV 1) aNil))) (eLst aNil)) (sSeq (sSet 4 (eCall fp (aCons (eV 2) aNil))) (sSeq (sFor (iEnumD (eV 0)) winTg (winBody fb)) (sFrz 3 (sRet (eCall gTuple (aCons (eV 3) aNil))))))) [.tuple (nsL cs), .tuple (lsL cs)] = some (.tuple ((goodFrom (xorC cs) 0 cs).map spD)) := by
  obtain ⟨a', b', c', h⟩ := win_loop (fb := fb) (O := .d (.tuple (nsL cs))) (d := .no) (e := .no) (X := xorC cs) (LS := lsL cs) (WL := cs.map fun c => iD (wOf c)) cs 0 [] .no .no .no (fun i x hx => by
    refine ⟨?_, ?_⟩
    · simp [lsL, hx]
    · simp [hx]) h3 (by simp; omega)
  have h' : forGo winTg (winBody fb) (enumD 0 (nsL cs)) [.d (.tuple (nsL cs)), .d (.tuple (lsL cs)), .d (.list (cs.map fun c => iD (wOf c))), .o (.list []), .d (iD (xorC cs)), .no, .no, .no, .no, .no] = _ := h
  simp [defD, sSeq, sParO, eCall, aCons, aNil, eV, startE, h1, eLst, okLen, sSet, h2, sFor, iEnumD, seqD, h', sFrz, sRet, gTuple]
theorem winning_eq {cs : CS} (hl : cs.length ≤ 9) (hc : AllC cs) : d_winning_in [.tuple (nsL cs), .tuple (lsL cs)] = some (.tuple ((goodFrom (xorC cs) 0 cs).map spD)) :=
  winning_gen hl (lefts_worths_eq hl hc) (put_together_eq cs) fun x hx => worths_behind_eq (hc x hx).1 (hc x hx).2
/-! ### spot_sure and its kin -/
/-- a bite: the component at k loses what lies over p -/
def bite (cs : CS) (k p : Nat) : CS := match cs[k]? with
  | some c => cs.set k (c.1, c.1.ch c.2 p)
  | none => cs
theorem lsL_cut {cs : CS} {k p : Nat} {c : NT × Nat} (hk : cs[k]? = some c) : cutD (lsL cs) none (some (k : Int)) ++ [lD (c.1.ch c.2 p)] ++ cutD (lsL cs) (some ((k : Int) + 1)) none = lsL (bite cs k p) := by
  have hl := (List.getElem?_eq_some_iff.mp hk).1
  have hle : (lsL cs).length = cs.length := by simp [lsL]
  have s1 : HT.sIx (lsL cs).length (lsL cs).length (some (k : Int)) = k := by
    unfold HT.sIx
    simp only [hle]
    rw [if_neg (by omega)]
    omega
  have s2 : HT.sIx (lsL cs).length 0 (some ((k : Int) + 1)) = k + 1 := by
    unfold HT.sIx
    simp only [hle]
    rw [if_neg (by omega)]
    omega
  have s3 : HT.sIx (lsL cs).length 0 none = 0 := rfl
  have s4 : HT.sIx (lsL cs).length (lsL cs).length none = (lsL cs).length := rfl
  unfold cutD
  rw [s1, s2, s3, s4]
  unfold bite
  rw [hk]
  simp only [lsL, List.drop_zero, Nat.sub_zero]
  have ht : List.take ((cs.map fun c => lD c.2).length - (k + 1)) (List.drop (k + 1) (cs.map fun c => lD c.2)) = List.drop (k + 1) (cs.map fun c => lD c.2) := List.take_of_length_le (by simp)
  rw [ht, List.map_set]
  rw [List.set_eq_take_append_cons_drop, if_pos (by simpa using hl)]
  simp
theorem bite_all {cs : CS} (hc : AllC cs) {k p : Nat} {c : NT × Nat} (hk : cs[k]? = some c) (hp : p ∈ pcs c.2) : AllC (bite cs k p) := fun x hx => by
  unfold bite at hx
  rw [hk] at hx
  have hm := List.mem_of_getElem? hk
  rcases List.mem_or_eq_of_mem_set hx with h | h
  · exact hc x h
  · rw [h]
    exact ⟨(hc c hm).1, ((comp_facts (hc c hm).1 (hc c hm).2).ps p hp).2.1⟩
theorem bite_len {cs : CS} {k p : Nat} : (bite cs k p).length = cs.length := by
  unfold bite
  split
  · simp
  · rfl
theorem bite_ns {cs : CS} {k p : Nat} : nsL (bite cs k p) = nsL cs := by
  unfold bite
  split
  · rename_i c hk
    unfold nsL
    rw [List.map_set]
    refine List.ext_getElem? fun i => ?_
    by_cases h : k = i
    · subst h
      have hl := (List.getElem?_eq_some_iff.mp hk).1
      rw [List.getElem?_set_self (by simpa using hl), List.getElem?_map, hk]
      rfl
    · rw [List.getElem?_set_ne h]
  · rfl
theorem inI_map {p : Nat} : ∀ {ps : List Nat}, inI (p : Int) (ps.map fun (x : Nat) => (x : Int)) = ps.contains p
  | [] => rfl
  | q :: r => by
    have ih := inI_map (p := p) (ps := r)
    unfold inI at *
    rw [List.map_cons, List.any_cons, ih, List.contains_cons]
    congr 1
    by_cases h : q = p
    · simp [h]
    · have : ¬ ((q : Int) = (p : Int)) := by omega
      simp [this, Ne.symm h]
theorem ints_map : ∀ ps : List Nat, ints? (ps.map iD) = some (ps.map fun (x : Nat) => (x : Int))
  | [] => rfl
  | q :: r => by
    show (ints? (r.map iD)).map ((q : Int) :: ·) = _
    rw [ints_map r]
    rfl
theorem notIn_lD {p b : Nat} (h : p ∈ pcs b) : gNotIn (iD p) (lD b) = some (.bool false) := by
  show (ints? ((pcs b).map iD)).map (fun ns => PyData.bool (!inI (p : Int) ns)) = _
  rw [ints_map]
  simp only [Option.map_some]
  rw [inI_map, List.contains_iff_mem.mpr h]
  rfl
theorem in_lD {p b : Nat} : gIn (iD p) (lD b) = some (.bool ((pcs b).contains p)) := by
  show (ints? ((pcs b).map iD)).map (fun ns => PyData.bool (inI (p : Int) ns)) = _
  rw [ints_map]
  simp only [Option.map_some]
  rw [inI_map]
def spotR (cs : CS) (k p : Nat) : PyData := .tuple [.tuple (nsL cs), .tuple (lsL cs), iD (xorC cs), .tuple (lsL (bite cs k p))]
theorem gIx_ns {cs : CS} {k : Nat} {c : NT × Nat} (hk : cs[k]? = some c) : gIx (.tuple (nsL cs)) (iD k) = some c.1.d := atI_im (f := fun c : NT × Nat => c.1.d) hk
theorem gIx_ls {cs : CS} {k : Nat} {c : NT × Nat} (hk : cs[k]? = some c) : gIx (.tuple (lsL cs)) (iD k) = some (lD c.2) := atI_im (f := fun c : NT × Nat => lD c.2) hk
theorem tup4 {fc : DE} {ρ : En} {a b c d : PyData} (h1 : eV 4 ρ = some a) (h2 : eV 5 ρ = some b) (h3 : eV 6 ρ = some c) (h4 : fc ρ = some d) : sRet (eTup (aCons (eV 4) (aCons (eV 5) (aCons (eV 6) (aCons fc aNil))))) ρ = some (.rt (.tuple [a, b, c, d])) := by
  simp [sRet, eTup, aCons, aNil, h1, h2, h3, h4, okLen]
theorem spot_gen {fl fn fp fw fpc fb ft : List PyData → Option PyData} {cs : CS} {O L : PyData} {k p : Nat} {c : NT × Nat} {T x y z : PyData} (hl : cs.length ≤ 9) (hk : cs[k]? = some c) (hp : p ∈ pcs c.2) (h1 : fl [O, L] = some (.tuple [.tuple (nsL cs), .tuple (lsL cs)])) (h2 : ∀ n : Nat, fn [iD n] = some (.bool true))
    (h3 : fw [.tuple (nsL cs), .tuple (lsL cs)] = some (.list (cs.map fun c => iD (wOf c)))) (h4 : fp [.list (cs.map fun c => iD (wOf c))] = some (iD (xorC cs))) (h5 : fb [lD c.2] = some (iD c.2)) (h6 : ft [c.1.d] = some T) (h7 : gIx T (iD p) = some x) (h8 : gInv x = some y) (h9 : gAnd (iD c.2) y = some z) (h10 : fpc [z] = some (lD (c.1.ch c.2 p))) :
    defR 4 8 (rSeq (rOf (sAsg (eCall fl (aCons (eV 0) (aCons (eV 1) aNil))) (gTupD 2 (gsCons (gN 4) (gsCons (gN 5) gsNil))))) (rSeq (rOf (sIf (tOrD (tNotD (bO (eCall fn (aCons (eV 2) aNil)))) (tNotD (bO (eCall fn (aCons (eV 3) aNil))))) sNo sNil)) (rSeq (rOf (sSet 6 (eCall fp (aCons (eCall fw (aCons (eV 4) (aCons (eV 5) aNil))) aNil)))) (rSeq (rIf (tOrD (tNotD (bO (eCh gLe gLt (eC (.int 0)) (eV 2) (eCall gLen (aCons (eV 4) aNil))))) (bO (e2 gNotIn (eV 3) (e2 gIx (eV 5) (eV 2))))) (fun ρ => ((eTup (aCons (eV 2) (aCons (eV 3) aNil))) ρ).map fun d => .bad (.np d)) (fun ρ => some (.nx ρ))) (rSeq (rOf (sSet 7 (eCall fpc (aCons (e2 gAnd (eCall fb (aCons (e2 gIx (eV 5) (eV 2)) aNil)) (e1 gInv (e2 gIx (eCall ft (aCons (e2 gIx (eV 4) (eV 2)) aNil)) (eV 3)))) aNil)))) (rOf (sRet (eTup (aCons (eV 4) (aCons (eV 5) (aCons (eV 6) (aCons (e2 gAdd (e2 gAdd (eCut (eV 5) pNo (pSome (eV 2))) (eTup (aCons (eV 7) aNil))) (eCut (eV 5) (pSome (e2 gAdd (eV 2) (eC (.int 1)))) pNo)) aNil)))))))))))) [O, L, iD k, iD p] = some (.ok (spotR cs k p)) := by
  have hkl := (List.getElem?_eq_some_iff.mp hk).1
  have g1 := gIx_ns hk
  have g2 := gIx_ls hk
  have hlen : (nsL cs).length = cs.length := by simp [nsL]
  have c1 : eCh gLe gLt (eC (.int 0)) (eV 2) (eCall gLen (aCons (eV 4) aNil)) [.d O, .d L, .d (iD k), .d (iD p), .d (.tuple (nsL cs)), .d (.tuple (lsL cs)), .d (iD (xorC cs)), .no] = some (.bool true) := by
    simp [eCh, eC, eV, iD, gLe, gLt, cmpI, eCall, aCons, aNil, gLen, hlen]
    exact hkl
  have c2 : e2 gNotIn (eV 3) (e2 gIx (eV 5) (eV 2)) [.d O, .d L, .d (iD k), .d (iD p), .d (.tuple (nsL cs)), .d (.tuple (lsL cs)), .d (iD (xorC cs)), .no] = some (.bool false) := by
    simp [e2, eV, g2, notIn_lD hp]
  have hb := lsL_cut (p := p) hk
  have l1 : (cutD (lsL cs) none (some (k : Int))).length ≤ 9 := by
    unfold cutD
    have : (lsL cs).length = cs.length := by simp [lsL]
    rw [List.length_take, List.length_drop]; omega
  have l2 : (cutD (lsL cs) (some ((k : Int) + 1)) none).length ≤ 9 := by
    unfold cutD
    have : (lsL cs).length = cs.length := by simp [lsL]
    rw [List.length_take, List.length_drop]; omega
  have cut : (e2 gAdd (e2 gAdd (eCut (eV 5) pNo (pSome (eV 2))) (eTup (aCons (eV 7) aNil))) (eCut (eV 5) (pSome (e2 gAdd (eV 2) (eC (.int 1)))) pNo)) [.d O, .d L, .d (iD k), .d (iD p), .d (.tuple (nsL cs)), .d (.tuple (lsL cs)), .d (iD (xorC cs)), .d (lD (c.1.ch c.2 p))] = some (.tuple (lsL (bite cs k p))) := by
    have a1 : eCut (eV 5) pNo (pSome (eV 2)) [.d O, .d L, .d (iD k), .d (iD p), .d (.tuple (nsL cs)), .d (.tuple (lsL cs)), .d (iD (xorC cs)), .d (lD (c.1.ch c.2 p))] = some (.tuple (cutD (lsL cs) none (some (k : Int)))) := rfl
    have a2 : eCut (eV 5) (pSome (e2 gAdd (eV 2) (eC (.int 1)))) pNo [.d O, .d L, .d (iD k), .d (iD p), .d (.tuple (nsL cs)), .d (.tuple (lsL cs)), .d (iD (xorC cs)), .d (lD (c.1.ch c.2 p))] = some (.tuple (cutD (lsL cs) (some ((k : Int) + 1)) none)) := rfl
    have a3 : eTup (aCons (eV 7) aNil) [.d O, .d L, .d (iD k), .d (iD p), .d (.tuple (nsL cs)), .d (.tuple (lsL cs)), .d (iD (xorC cs)), .d (lD (c.1.ch c.2 p))] = some (.tuple [lD (c.1.ch c.2 p)]) := rfl
    unfold e2
    rw [a1, a3]
    simp only [Option.bind_some]
    rw [show (e2 gAdd (eV 2) (eC (.int 1))) = fun ρ => (eV 2 ρ).bind fun a => (eC (.int 1) ρ).bind fun b => gAdd a b from rfl] at a2
    rw [a2]
    simp only [Option.bind_some, gAdd, List.length_cons, List.length_nil, okl (n := (cutD (lsL cs) none (some (k : Int))).length + (0 + 1)) (by omega), if_true, List.length_append]
    rw [if_pos (okl (by omega)), hb]
  have s1 : sAsg (eCall fl (aCons (eV 0) (aCons (eV 1) aNil))) (gTupD 2 (gsCons (gN 4) (gsCons (gN 5) gsNil))) [.d O, .d L, .d (iD k), .d (iD p), .no, .no, .no, .no] = some (.nx [.d O, .d L, .d (iD k), .d (iD p), .d (.tuple (nsL cs)), .d (.tuple (lsL cs)), .no, .no]) := by
    simp [sAsg, eCall, aCons, aNil, eV, h1, gTupD, gsCons, gsNil, gN]
  have s2 : sIf (tOrD (tNotD (bO (eCall fn (aCons (eV 2) aNil)))) (tNotD (bO (eCall fn (aCons (eV 3) aNil))))) sNo sNil [.d O, .d L, .d (iD k), .d (iD p), .d (.tuple (nsL cs)), .d (.tuple (lsL cs)), .no, .no] = some (.nx [.d O, .d L, .d (iD k), .d (iD p), .d (.tuple (nsL cs)), .d (.tuple (lsL cs)), .no, .no]) := by
    simp [sIf, tOrD, tNotD, bO, eCall, aCons, aNil, eV, h2, sNil]
  have s3 : sSet 6 (eCall fp (aCons (eCall fw (aCons (eV 4) (aCons (eV 5) aNil))) aNil)) [.d O, .d L, .d (iD k), .d (iD p), .d (.tuple (nsL cs)), .d (.tuple (lsL cs)), .no, .no] = some (.nx [.d O, .d L, .d (iD k), .d (iD p), .d (.tuple (nsL cs)), .d (.tuple (lsL cs)), .d (iD (xorC cs)), .no]) := by
    simp [sSet, eCall, aCons, aNil, eV, h3, h4]
  have s4 : rIf (tOrD (tNotD (bO (eCh gLe gLt (eC (.int 0)) (eV 2) (eCall gLen (aCons (eV 4) aNil))))) (bO (e2 gNotIn (eV 3) (e2 gIx (eV 5) (eV 2))))) (fun ρ => ((eTup (aCons (eV 2) (aCons (eV 3) aNil))) ρ).map fun d => .bad (.np d)) (fun ρ => some (.nx ρ)) [.d O, .d L, .d (iD k), .d (iD p), .d (.tuple (nsL cs)), .d (.tuple (lsL cs)), .d (iD (xorC cs)), .no] = some (.nx [.d O, .d L, .d (iD k), .d (iD p), .d (.tuple (nsL cs)), .d (.tuple (lsL cs)), .d (iD (xorC cs)), .no]) := by
    simp only [rIf, tOrD, tNotD, bO, c1, c2, Option.map_some, Bool.not_true]
  have s5 : sSet 7 (eCall fpc (aCons (e2 gAnd (eCall fb (aCons (e2 gIx (eV 5) (eV 2)) aNil)) (e1 gInv (e2 gIx (eCall ft (aCons (e2 gIx (eV 4) (eV 2)) aNil)) (eV 3)))) aNil)) [.d O, .d L, .d (iD k), .d (iD p), .d (.tuple (nsL cs)), .d (.tuple (lsL cs)), .d (iD (xorC cs)), .no] = some (.nx [.d O, .d L, .d (iD k), .d (iD p), .d (.tuple (nsL cs)), .d (.tuple (lsL cs)), .d (iD (xorC cs)), .d (lD (c.1.ch c.2 p))]) := by
    simp [sSet, eCall, aCons, aNil, eV, e2, e1, g1, g2, h5, h6, h7, h8, h9, h10]
  have s6 : sRet (eTup (aCons (eV 4) (aCons (eV 5) (aCons (eV 6) (aCons (e2 gAdd (e2 gAdd (eCut (eV 5) pNo (pSome (eV 2))) (eTup (aCons (eV 7) aNil))) (eCut (eV 5) (pSome (e2 gAdd (eV 2) (eC (.int 1)))) pNo)) aNil))))) [.d O, .d L, .d (iD k), .d (iD p), .d (.tuple (nsL cs)), .d (.tuple (lsL cs)), .d (iD (xorC cs)), .d (lD (c.1.ch c.2 p))] = some (.rt (spotR cs k p)) := by
    exact tup4 rfl rfl rfl cut
  have go : ∀ {f g : DR} {ρ ρ' : En}, f ρ = some (.nx ρ') → rSeq f g ρ = g ρ' := fun {f g ρ ρ'} h => by unfold rSeq; rw [h]
  have of : ∀ {f : DS} {ρ ρ' : En}, f ρ = some (.nx ρ') → rOf f ρ = some (.nx ρ') := fun {f ρ ρ'} h => by unfold rOf; rw [h]
  unfold defR
  rw [if_pos (show [O, L, iD k, iD p].length = 4 from rfl)]
  rw [show startE 8 [O, L, iD k, iD p] = [.d O, .d L, .d (iD k), .d (iD p), .no, .no, .no, .no] from rfl]
  rw [go (of s1), go (of s2), go (of s3), go s4, go (of s5)]
  unfold rOf
  rw [s6]
theorem is_number_iD (n : Nat) : d_is_number [iD n] = some (.bool true) := rfl
section
variable {cs : CS} {O L : PyData} {k p : Nat} {c : NT × Nat}
theorem spot_eq (hl : cs.length ≤ 9) (hc : AllC cs) (ho : IsO cs O) (hL : IsL cs L) (hk : cs[k]? = some c) (hp : p ∈ pcs c.2) : d_spot_sure [O, L, iD k, iD p] = some (.ok (spotR cs k p)) := by
  have hm := hc c (List.mem_of_getElem? hk)
  obtain ⟨h1, h2, h3, h4⟩ := (comp_facts hm.1 hm.2).ps p hp
  obtain ⟨y, hy, e⟩ := Option.bind_eq_some_iff.mp h4
  exact spot_gen hl hk hp (lefts_sure_eq hl hc ho hL) is_number_iD (lefts_worths_eq hl hc) (put_together_eq cs) (bit_facts (comp_facts hm.1 hm.2).lt).1 (net_facts hm.1).2.2.2.1 (gIx_td (net_facts hm.1).2.2.2.2.2.2.2.2 h1) hy e (bit_facts (ch_lt hm.1 hm.2 hp)).2.2.1
theorem behind_gen2 {fs : List PyData → Option Rs} {N P : PyData} (h : fs [O, L, N, P] = some (.ok (spotR cs k p))) : defR 4 4 (rRet (xIx (fun ρ => ((aCons (eV 0) (aCons (eV 1) (aCons (eV 2) (aCons (eV 3) aNil)))) ρ).bind fs) (eC (.int 3)))) [O, L, N, P] = some (.ok (.tuple (lsL (bite cs k p)))) := by
  have e : gIx (spotR cs k p) (.int 3) = some (.tuple (lsL (bite cs k p))) := rfl
  simp [defR, rRet, xIx, aCons, aNil, eV, startE, h, eC, e]
theorem behind_eq (hl : cs.length ≤ 9) (hc : AllC cs) (ho : IsO cs O) (hL : IsL cs L) (hk : cs[k]? = some c) (hp : p ∈ pcs c.2) : d_behind_spot [O, L, iD k, iD p] = some (.ok (.tuple (lsL (bite cs k p)))) := behind_gen2 (spot_eq hl hc ho hL hk hp)
/-- the first good spot -/
def answerR (cs : CS) (k p : Nat) : Option Rs := if xorC cs ≠ 0 then some .can else ((goodFrom (xorC (bite cs k p)) 0 (bite cs k p)).head?).map fun q => .ok (spD q)
theorem answer_gen {fs : List PyData → Option Rs} {fw : List PyData → Option PyData} {N P : PyData} {r : Rs} (h : fs [O, L, N, P] = some (.ok (spotR cs k p))) (hw : fw [.tuple (nsL cs), .tuple (lsL (bite cs k p))] = some (.tuple ((goodFrom (xorC (bite cs k p)) 0 (bite cs k p)).map spD))) (hr : answerR cs k p = some r) :
    defR 4 8 (rSeq (rAsg (fun ρ => ((aCons (eV 0) (aCons (eV 1) (aCons (eV 2) (aCons (eV 3) aNil)))) ρ).bind fs) (gTupD 4 (gsCons (gN 4) (gsCons (gN 5) (gsCons (gN 6) (gsCons (gN 7) gsNil)))))) (rSeq (rIf (bO (e2 gNeI (eV 6) (eC (.int 0)))) (fun _ => some (.bad .can)) (fun ρ => some (.nx ρ))) (rOf (sRet (e2 gIx (eCall fw (aCons (eV 4) (aCons (eV 7) aNil))) (eC (.int 0))))))) [O, L, N, P] = some r := by
  have s1 : rAsg (fun ρ => ((aCons (eV 0) (aCons (eV 1) (aCons (eV 2) (aCons (eV 3) aNil)))) ρ).bind fs) (gTupD 4 (gsCons (gN 4) (gsCons (gN 5) (gsCons (gN 6) (gsCons (gN 7) gsNil))))) [.d O, .d L, .d N, .d P, .no, .no, .no, .no] = some (.nx [.d O, .d L, .d N, .d P, .d (.tuple (nsL cs)), .d (.tuple (lsL cs)), .d (iD (xorC cs)), .d (.tuple (lsL (bite cs k p)))]) := by
    simp [rAsg, aCons, aNil, eV, h, gTupD, gsCons, gsNil, gN, spotR]
  have go : ∀ {f g : DR} {ρ ρ' : En}, f ρ = some (.nx ρ') → rSeq f g ρ = g ρ' := fun {f g ρ ρ'} h => by unfold rSeq; rw [h]
  unfold defR
  rw [if_pos (show [O, L, N, P].length = 4 from rfl)]
  rw [show startE 8 [O, L, N, P] = [.d O, .d L, .d N, .d P, .no, .no, .no, .no] from rfl]
  rw [go s1]
  unfold answerR at hr
  by_cases hx : xorC cs = 0
  · rw [if_neg (by simpa using hx)] at hr
    obtain ⟨q, hq, e⟩ := Option.map_eq_some_iff.mp hr
    subst e
    have t1 : bO (e2 gNeI (eV 6) (eC (.int 0))) [.d O, .d L, .d N, .d P, .d (.tuple (nsL cs)), .d (.tuple (lsL cs)), .d (iD (xorC cs)), .d (.tuple (lsL (bite cs k p)))] = some false := by
      simp [bO, e2, eV, eC, hx, gNeI, cmpI, iD]
    have g0 : gIx (.tuple ((goodFrom (xorC (bite cs k p)) 0 (bite cs k p)).map spD)) (.int 0) = some (spD q) := by
      have h0 : (goodFrom (xorC (bite cs k p)) 0 (bite cs k p))[0]? = some q := by rw [← List.head?_eq_getElem?]; exact hq
      exact atI_im (f := spD) h0
    rw [go (show rIf (bO (e2 gNeI (eV 6) (eC (.int 0)))) (fun _ => some (.bad .can)) (fun ρ => some (.nx ρ)) _ = some (.nx _) by unfold rIf; rw [t1])]
    simp [rOf, sRet, e2, eCall, aCons, aNil, eV, hw, eC, g0]
  · rw [if_pos hx] at hr
    cases hr
    have t1 : bO (e2 gNeI (eV 6) (eC (.int 0))) [.d O, .d L, .d N, .d P, .d (.tuple (nsL cs)), .d (.tuple (lsL cs)), .d (iD (xorC cs)), .d (.tuple (lsL (bite cs k p)))] = some true := by
      simp [bO, e2, eV, eC, gNeI, cmpI, iD]
      omega
    simp [rSeq, rIf, t1]
theorem winning_bite (hl : cs.length ≤ 9) (hc : AllC cs) (hk : cs[k]? = some c) (hp : p ∈ pcs c.2) : d_winning_in [.tuple (nsL cs), .tuple (lsL (bite cs k p))] = some (.tuple ((goodFrom (xorC (bite cs k p)) 0 (bite cs k p)).map spD)) := by
  have h := winning_eq (cs := bite cs k p) (by rw [bite_len]; exact hl) (bite_all hc hk hp)
  rw [bite_ns] at h
  exact h
theorem answer_eq (hl : cs.length ≤ 9) (hc : AllC cs) (ho : IsO cs O) (hL : IsL cs L) (hk : cs[k]? = some c) (hp : p ∈ pcs c.2) {r : Rs} (hr : answerR cs k p = some r) : d_answer_spot [O, L, iD k, iD p] = some r :=
  answer_gen (spot_eq hl hc ho hL hk hp) (winning_bite hl hc hk hp) hr
/-! heard -/
theorem heard_gen {gb ga : List PyData → Option Rs} {door N P : PyData} {r : Rs} (h : hDoor gb ga door [O, L, N, P] = some r) : defD 5 8 (sSeq (sSet 5 (eC .none)) (sSeq (sTry gb ga) (sRet (eV 5)))) [door, O, L, N, P] = some (hRes r) := by
  simp [defD, sSeq, sSet, eC, startE, sTry, eV, aCons, aNil, h, sRet]
theorem heard0_eq (hl : cs.length ≤ 9) (hc : AllC cs) (ho : IsO cs O) (hL : IsL cs L) (hk : cs[k]? = some c) (hp : p ∈ pcs c.2) : d_l_heard [iD 0, O, L, iD k, iD p] = some (.tuple (lsL (bite cs k p))) :=
  heard_gen (r := .ok (.tuple (lsL (bite cs k p)))) (behind_eq hl hc ho hL hk hp)
theorem heard1_eq (hl : cs.length ≤ 9) (hc : AllC cs) (ho : IsO cs O) (hL : IsL cs L) (hk : cs[k]? = some c) (hp : p ∈ pcs c.2) {r : Rs} (hr : answerR cs k p = some r) : d_l_heard [iD 1, O, L, iD k, iD p] = some (hRes r) :=
  heard_gen (r := r) (answer_eq hl hc ho hL hk hp hr)
end
end Ea
end
section
set_option Elab.async false
set_option linter.all false
set_option maxRecDepth 100000
set_option maxHeartbeats 400000
/-! EqQ: is_answer_spot, the law's own search, likeness of data -/
namespace Ea
open PySem PySem.Spec L2
open PyProof.Rows hiding St
theorem lay_spots : ∀ gs : List (Nat × Nat), PyData.canLayAll0 (gs.map spD) = true ∧ PyData.depthAll (gs.map spD) ≤ 1
  | [] => ⟨rfl, Nat.zero_le _⟩
  | q :: r => by
    obtain ⟨h1, h2⟩ := lay_spots r
    refine ⟨?_, ?_⟩
    · show (PyData.canLay0 (spD q) && PyData.canLayAll0 (r.map spD)) = true
      rw [h1]; rfl
    · show max (PyData.depth (spD q)) (PyData.depthAll (r.map spD)) ≤ 1
      have : PyData.depth (spD q) = 1 := rfl
      omega
theorem shaped_spots (gs : List (Nat × Nat)) : SeqAt.shaped (.tuple (gs.map spD)) = true := by
  obtain ⟨h1, h2⟩ := lay_spots gs
  unfold SeqAt.shaped
  refine Bool.and_eq_true_iff.mpr ⟨h1, decide_eq_true ?_⟩
  show PyData.depthAll (gs.map spD) + 1 ≤ 64
  omega
theorem shaped_spotsL (gs : List (Nat × Nat)) : SeqAt.shaped (.list (gs.map spD)) = true := by
  obtain ⟨h1, h2⟩ := lay_spots gs
  unfold SeqAt.shaped
  refine Bool.and_eq_true_iff.mpr ⟨h1, decide_eq_true ?_⟩
  show PyData.depthAll (gs.map spD) + 1 ≤ 64
  omega
/-- the things that are asked of -/
inductive Thing where
  | spot (q : Nat × Nat)
  | non
  | one
def Thing.d : Thing → PyData
  | .spot q => spD q
  | .non => .none
  | .one => .tuple [iD 0]
def isIn (gs : List (Nat × Nat)) : Thing → Bool
  | .spot q => (gs.map spD).any fun z => PyData.eqv z (spD q)
  | _ => false
theorem gInT_thing (gs : List (Nat × Nat)) (x : Thing) : gInT x.d (.tuple (gs.map spD)) = some (.bool (isIn gs x)) := by
  have hs : SeqAt.shaped x.d = true := by cases x <;> rfl
  show (if SeqAt.shaped x.d && SeqAt.shaped (.tuple (gs.map spD)) then some (PyData.bool ((gs.map spD).any fun z => PyData.eqv z x.d)) else none) = _
  rw [hs, shaped_spots]
  simp only [Bool.and_self, if_true]
  congr 2
  cases x with
  | spot q => rfl
  | non =>
    show (gs.map spD).any _ = false
    rw [List.any_eq_false]
    intro z hz
    obtain ⟨q, _, rfl⟩ := List.mem_map.mp hz
    intro h
    cases h
  | one =>
    show (gs.map spD).any _ = false
    rw [List.any_eq_false]
    intro z hz
    obtain ⟨q, _, rfl⟩ := List.mem_map.mp hz
    intro h
    have : PyData.eqv (spD q) (.tuple [iD 0]) = ((iD q.1).eqv (iD 0) && false) := rfl
    simp only [Thing.d] at h
    rw [this, Bool.and_false] at h
    cases h
theorem is_spot_thing (x : Thing) : d_is_spot [x.d] = some (.bool (match x with | .spot _ => true | _ => false)) := by
  cases x <;> rfl
section
variable {cs : CS} {O L : PyData} {k p : Nat} {c : NT × Nat}
theorem is_answer_gen {fs fi fw : List PyData → Option PyData} {N P t W : PyData} {b1 b2 : Bool} (h : fs [O, L, N, P] = some (spotR cs k p)) (hi : fi [t] = some (.bool b1)) (hw : fw [.tuple (nsL cs), .tuple (lsL (bite cs k p))] = some W) (hg : gInT t W = some (.bool b2)) (hb : b1 = false → b2 = false) :
    defD 5 9 (sSeq (sAsg (eCall fs (aCons (eV 0) (aCons (eV 1) (aCons (eV 2) (aCons (eV 3) aNil))))) (gTupD 4 (gsCons (gN 5) (gsCons (gN 6) (gsCons (gN 7) (gsCons (gN 8) gsNil)))))) (sRet (eAnd (eCall fi (aCons (eV 4) aNil)) (e2 gInT (eV 4) (eCall fw (aCons (eV 5) (aCons (eV 8) aNil))))))) [O, L, N, P, t] = some (.bool b2) := by
  have s1 : sAsg (eCall fs (aCons (eV 0) (aCons (eV 1) (aCons (eV 2) (aCons (eV 3) aNil))))) (gTupD 4 (gsCons (gN 5) (gsCons (gN 6) (gsCons (gN 7) (gsCons (gN 8) gsNil))))) [.d O, .d L, .d N, .d P, .d t, .no, .no, .no, .no] = some (.nx [.d O, .d L, .d N, .d P, .d t, .d (.tuple (nsL cs)), .d (.tuple (lsL cs)), .d (iD (xorC cs)), .d (.tuple (lsL (bite cs k p)))]) := by
    have z : eCall fs (aCons (eV 0) (aCons (eV 1) (aCons (eV 2) (aCons (eV 3) aNil)))) [.d O, .d L, .d N, .d P, .d t, .no, .no, .no, .no] = some (spotR cs k p) := h
    unfold sAsg
    rw [z]
    rfl
  have e1' : eCall fi (aCons (eV 4) aNil) [.d O, .d L, .d N, .d P, .d t, .d (.tuple (nsL cs)), .d (.tuple (lsL cs)), .d (iD (xorC cs)), .d (.tuple (lsL (bite cs k p)))] = some (.bool b1) := hi
  have e2' : e2 gInT (eV 4) (eCall fw (aCons (eV 5) (aCons (eV 8) aNil))) [.d O, .d L, .d N, .d P, .d t, .d (.tuple (nsL cs)), .d (.tuple (lsL cs)), .d (iD (xorC cs)), .d (.tuple (lsL (bite cs k p)))] = some (.bool b2) := by
    have z : eCall fw (aCons (eV 5) (aCons (eV 8) aNil)) [.d O, .d L, .d N, .d P, .d t, .d (.tuple (nsL cs)), .d (.tuple (lsL cs)), .d (iD (xorC cs)), .d (.tuple (lsL (bite cs k p)))] = some W := hw
    unfold e2
    rw [z]
    exact hg
  have fin : eAnd (eCall fi (aCons (eV 4) aNil)) (e2 gInT (eV 4) (eCall fw (aCons (eV 5) (aCons (eV 8) aNil)))) [.d O, .d L, .d N, .d P, .d t, .d (.tuple (nsL cs)), .d (.tuple (lsL cs)), .d (iD (xorC cs)), .d (.tuple (lsL (bite cs k p)))] = some (.bool b2) := by
    unfold eAnd
    rw [e1']
    cases b1 with
    | true => exact e2'
    | false => rw [hb rfl]
  have s2 : sRet (eAnd (eCall fi (aCons (eV 4) aNil)) (e2 gInT (eV 4) (eCall fw (aCons (eV 5) (aCons (eV 8) aNil))))) [.d O, .d L, .d N, .d P, .d t, .d (.tuple (nsL cs)), .d (.tuple (lsL cs)), .d (iD (xorC cs)), .d (.tuple (lsL (bite cs k p)))] = some (.rt (.bool b2)) := by
    unfold sRet
    rw [fin]
    rfl
  have go : ∀ {f g : DS} {ρ ρ' : En}, f ρ = some (.nx ρ') → sSeq f g ρ = g ρ' := fun {f g ρ ρ'} h => by unfold sSeq; rw [h]
  unfold defD
  rw [if_pos (show [O, L, N, P, t].length = 5 from rfl)]
  rw [show startE 9 [O, L, N, P, t] = [.d O, .d L, .d N, .d P, .d t, .no, .no, .no, .no] from rfl]
  rw [go s1, s2]
theorem is_answer_eq (hl : cs.length ≤ 9) (hc : AllC cs) (ho : IsO cs O) (hL : IsL cs L) (hk : cs[k]? = some c) (hp : p ∈ pcs c.2) (x : Thing) : d_is_answer_spot [O, L, iD k, iD p, x.d] = some (.bool (isIn (goodFrom (xorC (bite cs k p)) 0 (bite cs k p)) x)) :=
  is_answer_gen (fs := dk_spot_sure) (by show okOf _ = _; rw [spot_eq hl hc ho hL hk hp]; rfl) (is_spot_thing x) (winning_bite hl hc hk hp) (gInT_thing _ x) (by cases x <;> simp [isIn])
end
/-! the law's search -/
abbrev goodBody (fa fw fb : List PyData → Option PyData) : DS := sSeq (sSet 6 (eCall fa (aCons (eV 5) (aCons (e2 gIx (eV 1) (eV 4)) aNil)))) (sSeq (sSet 7 (e2 gDGet (eCall fw (aCons (eV 5) aNil)) (eCall fb (aCons (e2 gIx (eV 1) (eV 4)) aNil)))) (sSet 3 (e2 gAdd (eV 3) (eLc (iSeq (eV 6)) [8, 9] (gTupD 2 (gsCons (gN 8) (gsCons (gN 9) gsNil))) (bO (e2 gEqI (e2 gXor (e2 gXor (eV 2) (eV 7)) (eV 9)) (eC (.int 0)))) (eTup (aCons (eV 4) (aCons (eV 8) aNil)))))))
abbrev goodTg : DG := gTupD 2 (gsCons (gN 4) (gsCons (gN 5) gsNil))
theorem xor_zero (X w v : Nat) : ((X ^^^ w ^^^ v) == 0) = (v == (X ^^^ w)) := by
  by_cases h : v = X ^^^ w
  · subst h; rw [Nat.xor_self]; simp
  · have : ¬ (X ^^^ w ^^^ v = 0) := fun e => h (by
      have e2 : X ^^^ w ^^^ v ^^^ v = 0 ^^^ v := by rw [e]
      rw [Nat.xor_assoc (X ^^^ w) v v, Nat.xor_self, Nat.xor_zero, Nat.zero_xor] at e2
      exact e2.symm)
    rw [beq_eq_false_iff_ne.mpr this, beq_eq_false_iff_ne.mpr h]
theorem good_loop {fa fw fb : List PyData → Option PyData} {O d e : Sl} {X : Nat} {LS : List PyData} : ∀ (cs : CS) (k : Nat) (acc : List PyData) (a b c c' : Sl), (∀ (i : Nat) (x : NT × Nat), cs[i]? = some x → LS[k + i]? = some (lD x.2)) → (∀ x ∈ cs, fa [x.1.d, lD x.2] = some (.list (rows x.1 x.2)) ∧ ((fw [x.1.d]).bind fun W => (fb [lD x.2]).bind fun B => gDGet W B) = some (iD (wOf x))) → acc.length + 7 * cs.length ≤ 500 →
    ∃ a' b' c1 c2, forGo goodTg (goodBody fa fw fb) (enumD k (nsL cs)) [O, .d (.tuple LS), .d (iD X), .d (.list acc), a, b, c, c', d, e] = some [O, .d (.tuple LS), .d (iD X), .d (.list (acc ++ (goodFrom X k cs).map spD)), a', b', c1, c2, d, e]
  | [], k, acc, a, b, c, c', _, _, _ => ⟨a, b, c, c', by simp [goodFrom, nsL, enumD, forGo]⟩
  | x :: r, k, acc, a, b, c, c', hs, hb, hl => by
    have hL := hs 0 x rfl
    obtain ⟨ha, hw⟩ := hb x (.head _)
    simp only [List.length_cons] at hl
    have hfl := Nat.le_trans (List.length_filter_le (fun p => x.1.w (x.1.ch x.2 p) == (X ^^^ x.1.w x.2)) (pcs x.2)) pcs_small
    have h2 : gIx (.tuple LS) (iD k) = some (lD x.2) := by
      have := atI_im (f := id) hL
      rw [List.map_id] at this
      exact this
    obtain ⟨W, hW, hw⟩ := Option.bind_eq_some_iff.mp hw
    obtain ⟨B, hB, hw⟩ := Option.bind_eq_some_iff.mp hw
    have key : lcGo (wipeE [O, .d (.tuple LS), .d (iD X), .d (.list acc), .d (iD k), .d x.1.d, .d (.list (rows x.1 x.2)), .d (iD (wOf x)), d, e] [8, 9]) (gTupD 2 (gsCons (gN 8) (gsCons (gN 9) gsNil))) (bO (e2 gEqI (e2 gXor (e2 gXor (eV 2) (eV 7)) (eV 9)) (eC (.int 0)))) (eTup (aCons (eV 4) (aCons (eV 8) aNil))) (rows x.1 x.2) =
        some (((pcs x.2).filter fun p => x.1.w (x.1.ch x.2 p) == (X ^^^ x.1.w x.2)).map fun p => spD (k, p)) := by
      unfold rows
      refine lcGo_imF fun p hp => ⟨_, rfl, ?_, fun _ => ?_⟩
      · have z : gEqI (iD (X ^^^ wOf x ^^^ x.1.w (x.1.ch x.2 p))) (.int 0) = some (.bool ((X ^^^ wOf x ^^^ x.1.w (x.1.ch x.2 p)) == 0)) := eq_ii _ 0
        have z2 := xor_zero X (wOf x) (x.1.w (x.1.ch x.2 p))
        simp [bO, e2, eV, wipeE, xor_ii, eC, z]
        exact z2
      · simp [eTup, aCons, aNil, eV, wipeE, okLen, spD]
    have hrl : (rows x.1 x.2).length ≤ 1000 := by unfold rows; rw [List.length_map]; exact Nat.le_trans pcs_small (by omega)
    have h1 : goodBody fa fw fb [O, .d (.tuple LS), .d (iD X), .d (.list acc), .d (iD k), .d x.1.d, c, c', d, e] = some (.nx [O, .d (.tuple LS), .d (iD X), .d (.list (acc ++ (((pcs x.2).filter fun p => x.1.w (x.1.ch x.2 p) == (X ^^^ x.1.w x.2)).map fun p => (k, p)).map spD)), .d (iD k), .d x.1.d, .d (.list (rows x.1 x.2)), .d (iD (wOf x)), d, e]) := by
      simp only [goodBody, sSeq, sSet, e2, eV, List.getElem?_cons_zero, List.getElem?_cons_succ, Option.bind_some, Option.map_some, List.set_cons_succ, List.set_cons_zero, eLc, iSeq, eCall, aCons, aNil, h2, ha, hW, hB, hw, seqD, okl hrl, if_true]
      rw [key]
      simp only [Option.map_some, Option.bind_some, gAdd, List.length_map, okl (n := acc.length + ((pcs x.2).filter fun p => x.1.w (x.1.ch x.2 p) == (X ^^^ x.1.w x.2)).length) (by omega), if_true, List.map_map]
      rfl
    obtain ⟨a', b', c1, c2, h3⟩ := good_loop (fa := fa) (fw := fw) (fb := fb) (O := O) (d := d) (e := e) (X := X) (LS := LS) r (k + 1) (acc ++ (((pcs x.2).filter fun p => x.1.w (x.1.ch x.2 p) == (X ^^^ x.1.w x.2)).map fun p => (k, p)).map spD) (.d (iD k)) (.d x.1.d) (.d (.list (rows x.1 x.2))) (.d (iD (wOf x)))
      (fun i y hy => by have := hs (i + 1) y (by simpa using hy); rw [show k + 1 + i = k + (i + 1) by omega]; exact this) (fun y hy => hb y (.tail _ hy)) (by simp; omega)
    refine ⟨a', b', c1, c2, ?_⟩
    have e0 : enumD (k : Int) (nsL (x :: r)) = .tuple [iD k, x.1.d] :: enumD ((k + 1 : Nat) : Int) (nsL r) := rfl
    rw [e0]
    have e1' : goodTg (.tuple [iD k, x.1.d]) [O, .d (.tuple LS), .d (iD X), .d (.list acc), a, b, c, c', d, e] = some [O, .d (.tuple LS), .d (iD X), .d (.list acc), .d (iD k), .d x.1.d, c, c', d, e] := rfl
    show (match goodTg (.tuple [iD k, x.1.d]) _ with | none => none | some ρ1 => match goodBody fa fw fb ρ1 with | some (.nx ρ2) => forGo goodTg (goodBody fa fw fb) (enumD ((k + 1 : Nat) : Int) (nsL r)) ρ2 | _ => none) = _
    rw [e1']
    dsimp only
    rw [show goodBody fa fw fb _ = _ from h1]
    dsimp only
    rw [h3]
    simp only [goodFrom, List.map_append, List.append_assoc]
    rfl
theorem good_gen {fp fo fa fw fb : List PyData → Option PyData} {cs : CS} (hl : cs.length ≤ 9) (h1 : fo [.tuple (nsL cs), .tuple (lsL cs)] = some (.list (cs.map fun c => iD (wOf c)))) (h2 : fp [.list (cs.map fun c => iD (wOf c))] = some (iD (xorC cs))) (h3 : ∀ x ∈ cs, fa [x.1.d, lD x.2] = some (.list (rows x.1 x.2)) ∧ ((fw [x.1.d]).bind fun W => (fb [lD x.2]).bind fun B => gDGet W B) = some (iD (wOf x))) :
    defD 2 10 (sSeq (sAsg (eTup (aCons (eCall fp (aCons (eCall fo (aCons (eV 0) (aCons (eV 1) aNil))) aNil)) (aCons (eLst aNil) aNil))) (gTupD 2 (gsCons (gN 2) (gsCons (gN 3) gsNil)))) (sSeq (sFor (iEnumD (eV 0)) goodTg (goodBody fa fw fb)) (sRet (eCall gTuple (aCons (eV 3) aNil))))) [.tuple (nsL cs), .tuple (lsL cs)] = some (.tuple ((goodFrom (xorC cs) 0 cs).map spD)) := by
  obtain ⟨a', b', c1, c2, h⟩ := good_loop (fa := fa) (fw := fw) (fb := fb) (O := .d (.tuple (nsL cs))) (d := .no) (e := .no) (X := xorC cs) (LS := lsL cs) cs 0 [] .no .no .no .no (fun i x hx => by simp [lsL, hx]) h3 (by simp; omega)
  have h' : forGo goodTg (goodBody fa fw fb) (enumD 0 (nsL cs)) [.d (.tuple (nsL cs)), .d (.tuple (lsL cs)), .d (iD (xorC cs)), .d (.list []), .no, .no, .no, .no, .no, .no] = _ := h
  simp [defD, sSeq, sAsg, eCall, aCons, aNil, eV, startE, h1, eLst, eTup, okLen, h2, gTupD, gsCons, gsNil, gN, sFor, iEnumD, seqD]
  rw [show forGo _ _ _ _ = _ from h']
  simp [sRet, eCall, aCons, aNil, eV, gTuple]
theorem good_spots_eq {cs : CS} (hl : cs.length ≤ 9) (hc : AllC cs) : d_l_good_spots [.tuple (nsL cs), .tuple (lsL cs)] = some (.tuple ((goodFrom (xorC cs) 0 cs).map spD)) :=
  good_gen hl (worths_of_eq hl hc) (put_by_bits_eq cs) fun x hx => ⟨behind_all_eq (hc x hx).1 (hc x hx).2, by
    rw [(net_facts (hc x hx).1).2.2.1, Option.bind_some, (bit_facts (comp_facts (hc x hx).1 (hc x hx).2).lt).2.1, Option.bind_some]
    exact get_w (inw_of (hc x hx).2)⟩
end Ea
end
section
set_option Elab.async false
set_option linter.all false
set_option maxRecDepth 100000
set_option maxHeartbeats 400000
/-! EqR: likeness, spots, whole lefts, balance -/
namespace Ea
open PySem PySem.Spec L2
open PyProof.Rows hiding St
/-! likeness -/
theorem same_int (k : Nat) (i j : Int) : r_l_same (k + 1) [.int i, .int j] = some (.bool (i == j)) := rfl
theorem same_bool (k : Nat) (b : Bool) : r_l_same (k + 1) [.bool b, .bool b] = some (.bool true) := by cases b <;> rfl
theorem bls_map {α : Type} {q : α → Bool} : ∀ xs : List α, bls? (xs.map fun a => .bool (q a)) = some (xs.map q)
  | [] => rfl
  | x :: r => by
    show (bls? (r.map fun a => .bool (q a))).map (q x :: ·) = _
    rw [bls_map r]
    rfl
theorem all_bools {α : Type} {q : α → Bool} (xs : List α) : gAll [.list (xs.map fun a => .bool (q a))] = some (.bool (xs.all q)) := by
  show (bls? _).map _ = _
  rw [bls_map]
  simp [List.all_map]
theorem same_seq {α : Type} {r : List PyData → Option PyData} {xs : List α} {u v : α → PyData} {q : α → Bool} {x y : PyData} (hx : (x = .tuple (xs.map u) ∧ y = .tuple (xs.map v)) ∨ (x = .list (xs.map u) ∧ y = .list (xs.map v))) (hl : xs.length ≤ 1000)
    (h : ∀ a ∈ xs, r [u a, v a] = some (.bool (q a))) : defD 2 4 (b_l_same r) [x, y] = some (.bool (xs.all q)) := by
  have key : lcGo (wipeE [.d x, .d y, .no, .no] [2, 3]) (gTupD 2 (gsCons (gN 2) (gsCons (gN 3) gsNil))) dYes (eCall r (aCons (eV 2) (aCons (eV 3) aNil))) (zipD (xs.map u) (xs.map v)) = some (xs.map fun a => .bool (q a)) := by
    rw [zip_im]
    refine lcGo_im fun a ha => ⟨_, rfl, ?_⟩
    simp [eCall, aCons, aNil, eV, wipeE, h a ha]
  have hz : (zipD (xs.map u) (xs.map v)).length ≤ 1000 := by rw [zip_im]; simpa using hl
  have z1 : iZipD (eV 0) (eV 1) [.d x, .d y, .no, .no] = some (zipD (xs.map u) (xs.map v)) := by rcases hx with ⟨rfl, rfl⟩ | ⟨rfl, rfl⟩ <;> rfl
  have z2 : eLc (iZipD (eV 0) (eV 1)) [2, 3] (gTupD 2 (gsCons (gN 2) (gsCons (gN 3) gsNil))) dYes (eCall r (aCons (eV 2) (aCons (eV 3) aNil))) [.d x, .d y, .no, .no] = some (.list (xs.map fun a => .bool (q a))) := by
    unfold eLc
    rw [z1]
    simp only [Option.bind_some, okl hz, if_true]
    rw [key]
    rfl
  have t1 : bO (e1 (gIsi2 "list" "tuple") (eV 1)) [.d x, .d y, .no, .no] = some true := by rcases hx with ⟨rfl, rfl⟩ | ⟨rfl, rfl⟩ <;> rfl
  have t2 : tOrD (bO (e2 gNeB (e1 (gIsi "list") (eV 0)) (e1 (gIsi "list") (eV 1)))) (bO (e2 gNeB (e1 (gIsi "tuple") (eV 0)) (e1 (gIsi "tuple") (eV 1)))) [.d x, .d y, .no, .no] = some false := by rcases hx with ⟨rfl, rfl⟩ | ⟨rfl, rfl⟩ <;> rfl
  have t3 : e2 gEqI (eCall gLen (aCons (eV 0) aNil)) (eCall gLen (aCons (eV 1) aNil)) [.d x, .d y, .no, .no] = some (.bool true) := by
    rcases hx with ⟨rfl, rfl⟩ | ⟨rfl, rfl⟩ <;> simp [e2, eCall, aCons, aNil, eV, gLen, gEqI, cmpI]
  have t4 : eCall gAll (aCons (eLc (iZipD (eV 0) (eV 1)) [2, 3] (gTupD 2 (gsCons (gN 2) (gsCons (gN 3) gsNil))) dYes (eCall r (aCons (eV 2) (aCons (eV 3) aNil)))) aNil) [.d x, .d y, .no, .no] = some (.bool (xs.all q)) := by
    unfold eCall aCons
    have z3 := z2
    unfold eCall aCons at z3
    rw [z3]
    exact all_bools xs
  show (match b_l_same r [.d x, .d y, .no, .no] with | some (.rt d) => some d | some (.nx _) => some .none | none => none) = _
  unfold b_l_same
  unfold sSeq sIf
  rw [t1]
  dsimp only
  rw [t2]
  dsimp only [sNil]
  unfold sRet eAnd
  rw [t3]
  dsimp only
  rw [t4]
  rfl
theorem same_bits : ∀ b ∈ List.range 128, beqO (r_l_same 7 [lD b, lD b]) (.bool true) = true := by decide +kernel
theorem same_ls {cs : CS} (hl : cs.length ≤ 9) (hc : AllC cs) : d_l_same [.tuple (lsL cs), .tuple (lsL cs)] = some (.bool true) := by
  have h := same_seq (r := r_l_same 7) (xs := cs) (u := fun c => lD c.2) (v := fun c => lD c.2) (q := fun _ => true) (.inl ⟨rfl, rfl⟩) (by omega) fun c hcc => beqO_eq (same_bits c.2 (List.mem_range.mpr (comp_facts (hc c hcc).1 (hc c hcc).2).lt))
  have e : (cs.all fun _ => true) = true := by simp
  rw [e] at h
  exact h
theorem same_sp (a b : Nat × Nat) : d_l_same [spD a, spD b] = some (.bool ((a.1 : Int) == b.1 && ((a.2 : Int) == b.2 && true))) :=
  same_seq (r := r_l_same 7) (xs := [(a.1, b.1), (a.2, b.2)]) (u := fun p => iD p.1) (v := fun p => iD p.2) (q := fun p => (p.1 : Int) == p.2) (.inl ⟨rfl, rfl⟩) (show 2 ≤ 1000 by decide) fun p _ => same_int 6 p.1 p.2
theorem same_spE (a : Nat × Nat) : d_l_same [spD a, spD a] = some (.bool true) := by rw [same_sp]; simp
theorem same_bl {α : Type} (xs : List α) (q : α → Bool) (hl : xs.length ≤ 1000) : d_l_same [.list (xs.map fun a => .bool (q a)), .list (xs.map fun a => .bool (q a))] = some (.bool true) := by
  have h := same_seq (r := r_l_same 7) (xs := xs) (u := fun a => .bool (q a)) (v := fun a => .bool (q a)) (q := fun _ => true) (.inr ⟨rfl, rfl⟩) hl fun a _ => same_bool 6 (q a)
  have e : (xs.all fun _ => true) = true := by simp
  rw [e] at h
  exact h
abbrev canD : PyData := .list [.str "can not", .bool true]
theorem same_canD : d_l_same [canD, canD] = some (.bool true) := beqO_eq (by decide +kernel)
def chD (m : Nat) : PyData := oD m (chainT m)
theorem same_first : ∀ m ∈ List.range 8, ∀ b ∈ [true, false], beqO (d_l_same [.list [chD m, .bool b, .bool true], .list [chD m, .bool b, .bool true]]) (.bool true) = true := by decide +kernel
theorem chain_eq : ∀ m ∈ List.range 8, beqO (d_l_chain [iD m]) (chD m) = true := by decide +kernel
/-! whole lefts -/
def fullC (cs : CS) : CS := cs.map fun c => (c.1, c.1.full)
theorem full_mem {t : NT} (ht : t ∈ NTS) : t.full ∈ allB t ∧ lD t.full = .tuple ((List.range t.size).map iD) := by
  have h := full_all t ht
  obtain ⟨h1, h2⟩ := Bool.and_eq_true_iff.mp h
  exact ⟨List.contains_iff_mem.mp h1, beqD_eq h2⟩
theorem full_allC {cs : CS} (hc : AllC cs) : AllC (fullC cs) := fun x hx => by
  obtain ⟨c, hcc, rfl⟩ := List.mem_map.mp hx
  exact ⟨(hc c hcc).1, (full_mem (hc c hcc).1).1⟩
theorem full_len {cs : CS} : (fullC cs).length = cs.length := by simp [fullC]
theorem full_ns {cs : CS} : nsL (fullC cs) = nsL cs := by simp [fullC, nsL]
theorem rgD_map : ∀ (n a : Nat), rgD (a : Int) n = (List.range' a n).map iD
  | 0, _ => rfl
  | n + 1, a => by
    show PyData.int a :: rgD ((a : Int) + 1) n = _
    have := rgD_map n (a + 1)
    rw [show ((a : Int) + 1) = ((a + 1 : Nat) : Int) by omega, this]
    rfl
theorem rgD_range (n : Nat) : rgD 0 n = (List.range n).map iD := by
  rw [List.range_eq_range']
  exact rgD_map n 0
theorem tupRg_size {t : NT} (ht : t ∈ NTS) : gTupRg (iD t.size) = some (lD t.full) := by
  have hs : t.size ≤ 7 := by
    have : ∀ t ∈ NTS, t.size ≤ 7 := by decide +kernel
    exact this t ht
  show (if decide ((0 : Int) ≤ t.size) && decide ((t.size : Int) ≤ 16777216) then some (PyData.tuple (rgD 0 (t.size : Int).toNat)) else none) = _
  rw [decide_eq_true (by omega), decide_eq_true (by omega), (full_mem ht).2, Int.toNat_natCast, rgD_range]
  rfl
theorem gIx_size (t : NT) : gIx t.d (.int 0) = some (iD t.size) := rfl
/-- the tuple of all whole lefts -/
theorem alls_eq {ρ : En} {cs : CS} {i j : Nat} (hl : cs.length ≤ 9) (hc : AllC cs) (h : eV i ρ = some (.tuple (nsL cs))) (hj : j < ρ.length) : eCall gTuple (aCons (eLc (iSeq (eV i)) [j] (gN j) dYes (e1 gTupRg (e2 gIx (eV j) (eC (.int 0))))) aNil) ρ = some (.tuple (lsL (fullC cs))) := by
  have key : lcGo (wipeE ρ [j]) (gN j) dYes (e1 gTupRg (e2 gIx (eV j) (eC (.int 0)))) (nsL cs) = some (cs.map fun c => lD c.1.full) := by
    refine lcGo_im fun c hcc => ⟨_, rfl, ?_⟩
    have e : eV j ((wipeE ρ [j]).set j (.d c.1.d)) = some c.1.d := by
      unfold eV
      rw [List.getElem?_set_self (by show j < (ρ.set j .no).length; simpa using hj)]
    unfold e1 e2
    rw [e]
    show (gIx c.1.d (.int 0)).bind gTupRg = _
    rw [gIx_size]
    exact tupRg_size (hc c hcc).1
  have hz : (nsL cs).length ≤ 1000 := by simp [nsL]; omega
  have z : eLc (iSeq (eV i)) [j] (gN j) dYes (e1 gTupRg (e2 gIx (eV j) (eC (.int 0)))) ρ = some (.list (cs.map fun c => lD c.1.full)) := by
    unfold eLc iSeq
    rw [h]
    simp only [Option.bind_some, seqD, okl hz, if_true]
    rw [key]
    rfl
  unfold eCall aCons
  rw [z]
  show some (PyData.tuple (cs.map fun c => lD c.1.full)) = _
  simp [lsL, fullC]
end Ea
end
section
set_option Elab.async false
set_option linter.all false
set_option maxRecDepth 100000
set_option maxHeartbeats 400000
/-! EqS: all spots, balance, and that a lost position has an answer to every bite -/
namespace Ea
open PySem PySem.Spec L2
open PyProof.Rows hiding St
/-! all spots -/
def allSp : Nat → CS → List (Nat × Nat)
  | _, [] => []
  | k, c :: r => ((List.range c.1.size).map fun p => (k, p)) ++ allSp (k + 1) r
theorem size7 : ∀ t ∈ NTS, t.size ≤ 7 := by decide +kernel
theorem allSp_len : ∀ (cs : CS) (k : Nat), AllC cs → (allSp k cs).length ≤ 7 * cs.length
  | [], _, _ => Nat.zero_le _
  | c :: r, k, h => by
    have h1 := allSp_len r (k + 1) fun x hx => h x (.tail _ hx)
    have h2 := size7 c.1 (h c (.head _)).1
    simp only [allSp, List.length_append, List.length_map, List.length_range, List.length_cons]
    omega
theorem e2_of {g : PyData → PyData → Option PyData} {fa fb : DE} {ρ : En} {a b c : PyData} (ha : fa ρ = some a) (hb : fb ρ = some b) (hg : g a b = some c) : e2 g fa fb ρ = some c := by
  unfold e2
  rw [ha, hb]
  exact hg
theorem small_ok {n : Nat} (h : n ≤ 1000) : small62 (n : Int) = true := by
  have h1 : (-4611686018427387904 : Int) ≤ (n : Int) := Int.le_trans (by decide) (Int.natCast_nonneg n)
  have h2 : (n : Int) < 4611686018427387904 := Int.lt_of_le_of_lt (Int.ofNat_le.mpr h) (by decide)
  exact Bool.and_eq_true_iff.mpr ⟨decide_eq_true h1, decide_eq_true h2⟩
theorem bind_int {n : Nat} {f : PyData → Option (List PyData)} : (some (iD n)).bind f = f (.int (n : Int)) := rfl
theorem forGo_step {g : DG} {fb : DS} {x : PyData} {r : List PyData} {ρ ρ1 ρ2 : En} (h1 : g x ρ = some ρ1) (h2 : fb ρ1 = some (.nx ρ2)) : forGo g fb (x :: r) ρ = forGo g fb r ρ2 := by
  simp [forGo, h1, h2]
theorem iRg1_of {f : DE} {ρ : En} {n : Nat} (h : f ρ = some (iD n)) (hn : n ≤ 1000) : iRg1 f ρ = some ((List.range n).map iD) := by
  have hs := small_ok hn
  unfold iRg1
  rw [h, bind_int]
  simp only [hs, if_true, Int.toNat_natCast, rgD_range]
abbrev spBody : DS := sSet 1 (e2 gAdd (eV 1) (eLc (iRg1 (e2 gIx (eV 3) (eC (.int 0)))) [4] (gN 4) dYes (eTup (aCons (eV 2) (aCons (eV 4) aNil)))))
abbrev spTg : DG := gTupD 2 (gsCons (gN 2) (gsCons (gN 3) gsNil))
theorem sp_loop {O e : Sl} : ∀ (cs : CS) (k : Nat) (acc : List PyData) (a b : Sl), AllC cs → acc.length + 7 * cs.length ≤ 500 →
    ∃ a' b', forGo spTg spBody (enumD k (nsL cs)) [O, .d (.list acc), a, b, e] = some [O, .d (.list (acc ++ (allSp k cs).map spD)), a', b', e]
  | [], k, acc, a, b, _, _ => ⟨a, b, by simp [allSp, nsL, enumD, forGo]⟩
  | x :: r, k, acc, a, b, hc, hl => by
    simp only [List.length_cons] at hl
    have h7 := size7 x.1 (hc x (.head _)).1
    have key : lcGo (wipeE [O, .d (.list acc), .d (iD k), .d x.1.d, e] [4]) (gN 4) dYes (eTup (aCons (eV 2) (aCons (eV 4) aNil))) ((List.range x.1.size).map iD) = some ((List.range x.1.size).map fun p => spD (k, p)) := by
      refine lcGo_im fun p hp => ⟨_, rfl, ?_⟩
      simp [eTup, aCons, aNil, eV, wipeE, okLen, spD]
    have it : iRg1 (e2 gIx (eV 3) (eC (.int 0))) [O, .d (.list acc), .d (iD k), .d x.1.d, e] = some ((List.range x.1.size).map iD) := by
      exact iRg1_of rfl (by omega)
    have hlc : eLc (iRg1 (e2 gIx (eV 3) (eC (.int 0)))) [4] (gN 4) dYes (eTup (aCons (eV 2) (aCons (eV 4) aNil))) [O, .d (.list acc), .d (iD k), .d x.1.d, e] = some (.list ((List.range x.1.size).map fun p => spD (k, p))) := by
      unfold eLc
      rw [it]
      simp only [Option.bind_some, List.length_map, List.length_range, okl (n := x.1.size) (by omega), if_true]
      rw [key]
      rfl
    have h1 : spBody [O, .d (.list acc), .d (iD k), .d x.1.d, e] = some (.nx [O, .d (.list (acc ++ (((List.range x.1.size).map fun p => (k, p)).map spD))), .d (iD k), .d x.1.d, e]) := by
      have z : e2 gAdd (eV 1) (eLc (iRg1 (e2 gIx (eV 3) (eC (.int 0)))) [4] (gN 4) dYes (eTup (aCons (eV 2) (aCons (eV 4) aNil)))) [O, .d (.list acc), .d (iD k), .d x.1.d, e] = some (.list (acc ++ ((List.range x.1.size).map fun p => (k, p)).map spD)) := by
        refine e2_of rfl hlc ?_
        unfold gAdd
        simp only [List.length_map, List.length_range, okl (n := acc.length + x.1.size) (by omega), if_true, List.map_map]
        rfl
      unfold spBody sSet
      rw [z]
      rfl
    obtain ⟨a', b', h3⟩ := sp_loop (O := O) (e := e) r (k + 1) (acc ++ (((List.range x.1.size).map fun p => (k, p)).map spD)) (.d (iD k)) (.d x.1.d) (fun y hy => hc y (.tail _ hy)) (by simp; omega)
    refine ⟨a', b', ?_⟩
    have e0 : enumD (k : Int) (nsL (x :: r)) = .tuple [iD k, x.1.d] :: enumD ((k + 1 : Nat) : Int) (nsL r) := rfl
    rw [e0]
    have e1' : spTg (.tuple [iD k, x.1.d]) [O, .d (.list acc), a, b, e] = some [O, .d (.list acc), .d (iD k), .d x.1.d, e] := rfl
    rw [forGo_step e1' h1, h3]
    simp only [allSp, List.map_append, List.append_assoc]
theorem spots_of_eq {cs : CS} (hl : cs.length ≤ 9) (hc : AllC cs) : d_l_spots_of [.tuple (nsL cs)] = some (.list ((allSp 0 cs).map spD)) := by
  obtain ⟨a', b', h⟩ := sp_loop (O := .d (.tuple (nsL cs))) (e := .no) cs 0 [] .no .no hc (by simp; omega)
  have h' : forGo spTg spBody (enumD 0 (nsL cs)) [.d (.tuple (nsL cs)), .d (.list []), .no, .no, .no] = some [.d (.tuple (nsL cs)), .d (.list ((allSp 0 cs).map spD)), a', b', .no] := h
  have s1 : sSet 1 (eLst aNil) [.d (.tuple (nsL cs)), .no, .no, .no, .no] = some (.nx [.d (.tuple (nsL cs)), .d (.list []), .no, .no, .no]) := rfl
  have s2 : sFor (iEnumD (eV 0)) spTg spBody [.d (.tuple (nsL cs)), .d (.list []), .no, .no, .no] = some (.nx [.d (.tuple (nsL cs)), .d (.list ((allSp 0 cs).map spD)), a', b', .no]) := by
    show (forGo spTg spBody (enumD 0 (nsL cs)) [.d (.tuple (nsL cs)), .d (.list []), .no, .no, .no]).map Out.nx = _
    rw [h']
    rfl
  have go : ∀ {f g : DS} {ρ ρ' : En}, f ρ = some (.nx ρ') → sSeq f g ρ = g ρ' := fun {f g ρ ρ'} h => by unfold sSeq; rw [h]
  unfold d_l_spots_of defD b_l_spots_of
  rw [if_pos (show [PyData.tuple (nsL cs)].length = 1 from rfl)]
  rw [show startE 5 [PyData.tuple (nsL cs)] = [.d (.tuple (nsL cs)), .no, .no, .no, .no] from rfl]
  rw [go s1, go s2]
  rfl
end Ea
end
section
set_option Elab.async false
set_option linter.all false
set_option maxRecDepth 100000
set_option maxHeartbeats 400000
/-! EqY: balance, are_balanced; to every bite out of a lost position there is an answer -/
namespace Ea
open PySem PySem.Spec L2
open PyProof.Rows hiding St
theorem goS {f g : DS} {ρ ρ' : En} (h : f ρ = some (.nx ρ')) : sSeq f g ρ = g ρ' := by unfold sSeq; rw [h]
/-! worths of whole orders -/
theorem full_bits : ∀ t ∈ NTS, beqO ((gShl (.int 1) (iD t.size)).bind fun x => gSub x (.int 1)) (iD t.full) = true := by decide +kernel
theorem worth_in_gen {fw : List PyData → Option PyData} {n W s f r : PyData} (h1 : fw [n] = some W) (h2 : gIx n (.int 0) = some s) (h3 : ((gShl (.int 1) s).bind fun x => gSub x (.int 1)) = some f) (h4 : gDGet W f = some r) :
    defD 1 1 (sRet (e2 gDGet (eCall fw (aCons (eV 0) aNil)) (e2 gSub (e2 gShl (eC (.int 1)) (e2 gIx (eV 0) (eC (.int 0)))) (eC (.int 1))))) [n] = some r := by
  obtain ⟨x, hx, h3⟩ := Option.bind_eq_some_iff.mp h3
  simp [defD, sRet, e2, eCall, aCons, aNil, eV, eC, startE, h1, h2, hx, h3, h4]
theorem worth_in_eq {t : NT} (ht : t ∈ NTS) : d_worth_in [t.d] = some (iD (t.w t.full)) :=
  worth_in_gen (net_facts ht).2.1 (gIx_size t) (beqO_eq (full_bits t ht)) (get_w (inw_of (full_mem ht).1))
section
variable {cs : CS} {O : PyData}
theorem orders_worth_gen {fp fw : List PyData → Option PyData} {r : PyData} (hl : cs.length ≤ 9) (h : ∀ c ∈ cs, fw [c.1.d] = some (iD (c.1.w c.1.full))) (hp : fp [.list (cs.map fun c => iD (c.1.w c.1.full))] = some r) :
    defD 1 2 (sRet (eCall fp (aCons (eLc (iSeq (eV 0)) [1] (gN 1) dYes (eCall fw (aCons (eV 1) aNil))) aNil))) [.tuple (nsL cs)] = some r := by
  have key : lcGo (wipeE [.d (.tuple (nsL cs)), .no] [1]) (gN 1) dYes (eCall fw (aCons (eV 1) aNil)) (nsL cs) = some (cs.map fun c => iD (c.1.w c.1.full)) := by
    refine lcGo_im fun c hc => ⟨_, rfl, ?_⟩
    simp [eCall, aCons, aNil, eV, wipeE, h c hc]
  have hz : (nsL cs).length ≤ 1000 := by simp [nsL]; omega
  have z : eLc (iSeq (eV 0)) [1] (gN 1) dYes (eCall fw (aCons (eV 1) aNil)) [.d (.tuple (nsL cs)), .no] = some (.list (cs.map fun c => iD (c.1.w c.1.full))) := by
    unfold eLc
    rw [show iSeq (eV 0) [.d (.tuple (nsL cs)), .no] = some (nsL cs) from rfl]
    simp only [Option.bind_some, okl hz, if_true]
    rw [key]
    rfl
  have z2 : eCall fp (aCons (eLc (iSeq (eV 0)) [1] (gN 1) dYes (eCall fw (aCons (eV 1) aNil))) aNil) [.d (.tuple (nsL cs)), .no] = some r := by
    unfold eCall aCons
    have z3 := z
    unfold eCall aCons at z3
    rw [z3]
    exact hp
  unfold defD
  rw [if_pos (show [PyData.tuple (nsL cs)].length = 1 from rfl), show startE 2 [PyData.tuple (nsL cs)] = [.d (.tuple (nsL cs)), .no] from rfl]
  unfold sRet
  rw [z2]
  rfl
theorem orders_worth_eq (hl : cs.length ≤ 9) (hc : AllC cs) : d_orders_worth [.tuple (nsL cs)] = some (iD (xorC (fullC cs))) :=
  orders_worth_gen hl (fun c h => worth_in_eq (hc c h).1) (by
    have h := put_together_eq (fullC cs)
    have e : (fullC cs).map (fun c => iD (wOf c)) = cs.map fun c => iD (c.1.w c.1.full) := by simp [fullC, wOf]
    rw [e] at h
    exact h)
theorem sum_worth_gen {fo fs : List PyData → Option PyData} {a r : PyData} (h1 : fs [O] = some a) (h2 : fo [a] = some r) : defD 1 1 (sRet (eCall fo (aCons (eCall fs (aCons (eV 0) aNil)) aNil))) [O] = some r := by
  simp [defD, sRet, eCall, aCons, aNil, eV, startE, h1, h2]
theorem sum_worth_eq (hl : cs.length ≤ 9) (hc : AllC cs) (ho : IsO cs O) : d_sum_worth [O] = some (iD (xorC (fullC cs))) := sum_worth_gen (sure_orders_eq hl hc ho) (orders_worth_eq hl hc)
end
theorem chain_it {i m : Nat} {ρ : En} (h : eV i ρ = some (iD m)) (hm : m ≤ 100) : iRg1 (e2 gSub (eV i) (eC (.int 1))) ρ = some ((List.range (m - 1)).map iD) := by
  cases m with
  | succ k =>
    refine iRg1_of (e2_of h rfl ?_) (by omega)
    show some (PyData.int (((k + 1 : Nat) : Int) - 1)) = some (iD (k + 1 - 1))
    have e : ((k + 1 : Nat) : Int) - 1 = (k : Int) := by omega
    rw [e]
    rfl
  | zero =>
    have e : e2 gSub (eV i) (eC (.int 1)) ρ = some (.int (-1)) := e2_of h rfl rfl
    unfold iRg1
    rw [e]
    have hs : small62 (-1) = true := by decide
    simp only [Option.bind_some, hs, if_true]
    rfl
theorem chain_lc {i j m : Nat} {ρ : En} (h : eV i ρ = some (iD m)) (hj : j < ρ.length) (hm : m ≤ 100) : eLc (iRg1 (e2 gSub (eV i) (eC (.int 1)))) [j] (gN j) dYes (eTup (aCons (eV j) (aCons (e2 gAdd (eV j) (eC (.int 1))) aNil))) ρ = some (.list ((chainT m).map pD)) := by
  have key : lcGo (wipeE ρ [j]) (gN j) dYes (eTup (aCons (eV j) (aCons (e2 gAdd (eV j) (eC (.int 1))) aNil))) ((List.range (m - 1)).map iD) = some ((List.range (m - 1)).map fun k => pD (k, k + 1)) := by
    refine lcGo_im fun k hk => ⟨_, rfl, ?_⟩
    have e : eV j ((wipeE ρ [j]).set j (.d (iD k))) = some (iD k) := by
      unfold eV
      rw [List.getElem?_set_self (by show j < (ρ.set j .no).length; simpa using hj)]
    have e2' : e2 gAdd (eV j) (eC (.int 1)) ((wipeE ρ [j]).set j (.d (iD k))) = some (iD (k + 1)) := e2_of e rfl rfl
    simp [eTup, aCons, aNil, e, e2', okLen, pD]
  unfold eLc
  rw [chain_it h hm]
  simp only [Option.bind_some, List.length_map, List.length_range, okl (n := m - 1) (by omega), if_true]
  rw [key]
  simp [chainT]
theorem balance_gen {fs : List PyData → Option PyData} {O : PyData} {m : Nat} (h : fs [O] = some (iD m)) (hm : m ≤ 100) : defD 1 3 (sSeq (sSet 1 (eCall fs (aCons (eV 0) aNil))) (sRet (eTup (aCons (eV 1) (aCons (eCall gTuple (aCons (eLc (iRg1 (e2 gSub (eV 1) (eC (.int 1)))) [2] (gN 2) dYes (eTup (aCons (eV 2) (aCons (e2 gAdd (eV 2) (eC (.int 1))) aNil)))) aNil)) aNil))))) [O] = some (chD m) := by
  have s1 : sSet 1 (eCall fs (aCons (eV 0) aNil)) [.d O, .no, .no] = some (.nx [.d O, .d (iD m), .no]) := by
    simp [sSet, eCall, aCons, aNil, eV, h]
  have z := chain_lc (i := 1) (j := 2) (m := m) (ρ := [.d O, .d (iD m), .no]) rfl (by show 2 < 3; decide) hm
  have s2 : ∀ {f : DE}, f [.d O, .d (iD m), .no] = some (.list ((chainT m).map pD)) → sRet (eTup (aCons (eV 1) (aCons (eCall gTuple (aCons f aNil)) aNil))) [.d O, .d (iD m), .no] = some (.rt (chD m)) := fun {f} hf => by
    simp [sRet, eTup, aCons, aNil, eV, eCall, hf, gTuple, okLen, chD, oD]
  unfold defD
  rw [if_pos (show [O].length = 1 from rfl), show startE 3 [O] = [.d O, .no, .no] from rfl, goS s1, s2 z]
theorem balance_eq {cs : CS} {O : PyData} (hl : cs.length ≤ 9) (hc : AllC cs) (ho : IsO cs O) (hm : xorC (fullC cs) ≤ 100) : d_balance [O] = some (chD (xorC (fullC cs))) := balance_gen (sum_worth_eq hl hc ho) hm
theorem are_gen {fs fo : List PyData → Option PyData} {O P a b : PyData} {m n : Nat} (h1 : fs [O] = some a) (h2 : fs [P] = some b) (h3 : fo [a] = some (iD m)) (h4 : fo [b] = some (iD n)) :
    defD 2 4 (sSeq (sPar 2 3 (eCall fs (aCons (eV 0) aNil)) (eCall fs (aCons (eV 1) aNil))) (sRet (e2 gEqI (eCall fo (aCons (eV 2) aNil)) (eCall fo (aCons (eV 3) aNil))))) [O, P] = some (.bool (m == n)) := by
  simp [defD, sSeq, sPar, sRet, e2, eCall, aCons, aNil, eV, startE, h1, h2, h3, h4, eq_ii]
theorem are_eq {cs ds : CS} {O P : PyData} (hl : cs.length ≤ 9) (hc : AllC cs) (ho : IsO cs O) (hl2 : ds.length ≤ 9) (hc2 : AllC ds) (ho2 : IsO ds P) : d_are_balanced [O, P] = some (.bool (xorC (fullC cs) == xorC (fullC ds))) :=
  are_gen (sure_orders_eq hl hc ho) (sure_orders_eq hl2 hc2 ho2) (orders_worth_eq hl hc) (orders_worth_eq hl2 hc2)
end Ea
end
section
set_option Elab.async false
set_option linter.all false
set_option maxRecDepth 100000
set_option maxHeartbeats 400000
/-! EqZ: to every bite out of a lost position there is an answer -/
namespace Ea
open PySem PySem.Spec L2
open PyProof.Rows hiding St
theorem xorF_cons (acc : Nat) (c : NT × Nat) (r : CS) : xorF acc (c :: r) = xorF (acc ^^^ wOf c) r := rfl
theorem xorF_acc : ∀ (cs : CS) (acc : Nat), xorF acc cs = acc ^^^ xorF 0 cs
  | [], acc => by show acc = acc ^^^ 0; rw [Nat.xor_zero]
  | c :: r, acc => by
    rw [xorF_cons, xorF_cons, xorF_acc r (acc ^^^ wOf c), xorF_acc r (0 ^^^ wOf c), Nat.zero_xor, Nat.xor_assoc]
theorem xorF_bit {i : Nat} : ∀ (cs : CS) (acc : Nat), (xorF acc cs).testBit i = true → acc.testBit i = true ∨ ∃ c ∈ cs, (wOf c).testBit i = true
  | [], acc, h => .inl h
  | c :: r, acc, h => by
    rw [xorF_cons] at h
    rcases xorF_bit r _ h with h | ⟨x, hx, h⟩
    · rw [Nat.testBit_xor] at h
      cases ha : acc.testBit i with
      | true => exact .inl rfl
      | false =>
        rw [ha, Bool.false_xor] at h
        exact .inr ⟨c, .head _, h⟩
    · exact .inr ⟨x, .tail _ hx, h⟩
theorem xor8 : ∀ a ∈ List.range 8, ∀ b ∈ List.range 8, a ^^^ b < 8 := by decide
theorem xorF_lt : ∀ (cs : CS) (acc : Nat), acc < 8 → (∀ c ∈ cs, wOf c < 8) → xorF acc cs < 8
  | [], acc, h, _ => h
  | c :: r, acc, h, hw => by
    rw [xorF_cons]
    exact xorF_lt r _ (xor8 acc (List.mem_range.mpr h) _ (List.mem_range.mpr (hw c (.head _)))) fun x hx => hw x (.tail _ hx)
theorem w_lt {cs : CS} (hc : AllC cs) : ∀ c ∈ cs, wOf c < 8 := fun c h => (comp_facts (hc c h).1 (hc c h).2).w8
theorem xorC_lt {cs : CS} (hc : AllC cs) : xorC cs < 8 := xorF_lt cs 0 (by decide) (w_lt hc)
theorem top_bit : ∀ X ∈ List.range 8, X ≠ 0 → ∃ i ∈ List.range 3, X.testBit i = true ∧ ∀ w ∈ List.range 8, w.testBit i = true → X ^^^ w < w := by decide
/-- some component can bring the whole to nothing -/
theorem lead {cs : CS} (hc : AllC cs) (h : xorC cs ≠ 0) : ∃ c ∈ cs, xorC cs ^^^ wOf c < wOf c := by
  obtain ⟨i, _, hi, hw⟩ := top_bit _ (List.mem_range.mpr (xorC_lt hc)) h
  rcases xorF_bit cs 0 hi with h0 | ⟨c, hcc, hb⟩
  · rw [Nat.zero_testBit] at h0; cases h0
  · exact ⟨c, hcc, hw _ (List.mem_range.mpr (w_lt hc c hcc)) hb⟩
theorem goodFrom_some {X : Nat} : ∀ (cs : CS) (k : Nat), AllC cs → (∃ c ∈ cs, X ^^^ wOf c < wOf c) → goodFrom X k cs ≠ []
  | [], _, _, ⟨_, h, _⟩ => nomatch h
  | x :: r, k, hc, ⟨c, hcc, hlt⟩ => by
    intro e
    obtain ⟨e1, e2⟩ := List.append_eq_nil_iff.mp e
    rcases List.mem_cons.mp hcc with rfl | hr
    · obtain ⟨p, hp, hw⟩ := (comp_facts (hc c (.head _)).1 (hc c (.head _)).2).mx _ hlt
      have hm : p ∈ (pcs c.2).filter fun p => c.1.w (c.1.ch c.2 p) == (X ^^^ wOf c) := List.mem_filter.mpr ⟨hp, by simpa using hw⟩
      rw [List.map_eq_nil_iff.mp e1] at hm
      cases hm
    · exact goodFrom_some r (k + 1) (fun y hy => hc y (.tail _ hy)) ⟨c, hr, hlt⟩ e2
theorem goodFrom_mem {X : Nat} : ∀ (cs : CS) (k : Nat) (q : Nat × Nat), q ∈ goodFrom X k cs → ∃ i c, q.1 = k + i ∧ cs[i]? = some c ∧ q.2 ∈ pcs c.2
  | [], _, _, h => nomatch h
  | x :: r, k, q, h => by
    rcases List.mem_append.mp h with h | h
    · obtain ⟨p, hp, rfl⟩ := List.mem_map.mp h
      exact ⟨0, x, rfl, rfl, (List.mem_filter.mp hp).1⟩
    · obtain ⟨i, c, h1, h2, h3⟩ := goodFrom_mem r (k + 1) q h
      exact ⟨i + 1, c, by omega, by simpa using h2, h3⟩
theorem xorF_set {c c' : NT × Nat} : ∀ (cs : CS) (k acc : Nat), cs[k]? = some c → xorF acc (cs.set k c') = xorF acc cs ^^^ (wOf c ^^^ wOf c')
  | [], _, _, h => by simp at h
  | x :: r, 0, acc, h => by
    have e : x = c := by simpa using h
    subst e
    show xorF (acc ^^^ wOf c') r = xorF (acc ^^^ wOf x) r ^^^ (wOf x ^^^ wOf c')
    rw [xorF_acc r (acc ^^^ wOf c'), xorF_acc r (acc ^^^ wOf x)]
    have hx : wOf x ^^^ wOf x = 0 := Nat.xor_self _
    calc acc ^^^ wOf c' ^^^ xorF 0 r = acc ^^^ (wOf x ^^^ wOf x) ^^^ wOf c' ^^^ xorF 0 r := by rw [hx, Nat.xor_zero]
      _ = acc ^^^ wOf x ^^^ xorF 0 r ^^^ (wOf x ^^^ wOf c') := by ac_rfl
  | x :: r, k + 1, acc, h => by
    show xorF (acc ^^^ wOf x) (r.set k c') = _
    exact xorF_set r k _ (by simpa using h)
theorem bite_ne {cs : CS} (hc : AllC cs) {k p : Nat} {c : NT × Nat} (hk : cs[k]? = some c) (hp : p ∈ pcs c.2) (h0 : xorC cs = 0) : xorC (bite cs k p) ≠ 0 := by
  have hm := hc c (List.mem_of_getElem? hk)
  have hw := ((comp_facts hm.1 hm.2).ps p hp).2.2.1
  have e : xorC (bite cs k p) = xorC cs ^^^ (wOf c ^^^ c.1.w (c.1.ch c.2 p)) := by
    unfold xorC bite
    rw [hk]
    exact xorF_set cs k 0 hk
  rw [e, h0, Nat.zero_xor]
  intro z
  have z2 : wOf c ^^^ c.1.w (c.1.ch c.2 p) ^^^ c.1.w (c.1.ch c.2 p) = 0 ^^^ c.1.w (c.1.ch c.2 p) := by rw [z]
  rw [Nat.xor_assoc, Nat.xor_self, Nat.xor_zero, Nat.zero_xor] at z2
  exact hw z2.symm
end Ea
end
section
set_option Elab.async false
set_option linter.all false
set_option maxRecDepth 100000
set_option maxHeartbeats 400000
/-! EqX: one lap of _law_right's loop -/
namespace Ea
open PySem PySem.Spec L2
open PyProof.Rows hiding St
theorem ok_set {f : DE} {i : Nat} {ρ : En} {d : PyData} {P : Out → Prop} (h : f ρ = some d) (p : P (.nx (ρ.set i (.d d)))) : OkS (nsAsg (nP f) (gN i) ρ) 0 P :=
  ok_asg (Pe := fun x => x = d) (ok_nP h rfl) fun x hx => ⟨ρ.set i (.d d), by rw [hx]; rfl, p⟩
theorem ev_same {i : Nat} {ρ : En} {d : PyData} (h : i < ρ.length) : eV i (ρ.set i (.d d)) = some d := by
  unfold eV
  rw [List.getElem?_set_self h]
theorem ev_ne {i j : Nat} {ρ : En} {s : Sl} (h : i ≠ j) : eV j (ρ.set i s) = eV j ρ := by
  unfold eV
  rw [List.getElem?_set_ne h]
theorem e2_of' {g : PyData → PyData → Option PyData} {fa fb : DE} {ρ : En} {a b c : PyData} (ha : fa ρ = some a) (hb : fb ρ = some b) (hg : g a b = some c) : e2 g fa fb ρ = some c := e2_of ha hb hg
theorem call1 {f : List PyData → Option PyData} {a : DE} {ρ : En} {x r : PyData} (ha : a ρ = some x) (h : f [x] = some r) : eCall f (aCons a aNil) ρ = some r := by
  unfold eCall aCons
  rw [ha]
  exact h
theorem call2 {f : List PyData → Option PyData} {a b : DE} {ρ : En} {x y r : PyData} (ha : a ρ = some x) (hb : b ρ = some y) (h : f [x, y] = some r) : eCall f (aCons a (aCons b aNil)) ρ = some r := by
  unfold eCall
  simp only [aCons, aNil, ha, hb, Option.bind_some]
  exact h
theorem call3 {f : List PyData → Option PyData} {a b c : DE} {ρ : En} {x y z r : PyData} (ha : a ρ = some x) (hb : b ρ = some y) (hc : c ρ = some z) (h : f [x, y, z] = some r) : eCall f (aCons a (aCons b (aCons c aNil))) ρ = some r := by
  unfold eCall
  simp only [aCons, aNil, ha, hb, hc, Option.bind_some]
  exact h
theorem call5 {f : List PyData → Option PyData} {a b c d e : DE} {ρ : En} {x y z u v r : PyData} (ha : a ρ = some x) (hb : b ρ = some y) (hc : c ρ = some z) (hd : d ρ = some u) (he : e ρ = some v) (h : f [x, y, z, u, v] = some r) : eCall f (aCons a (aCons b (aCons c (aCons d (aCons e aNil))))) ρ = some r := by
  unfold eCall
  simp only [aCons, aNil, ha, hb, hc, hd, he, Option.bind_some]
  exact h
/-- the spots that are there -/
def here (cs : CS) (q : Nat × Nat) : Bool := match cs[q.1]? with
  | some c => (pcs c.2).contains q.2
  | none => false
def spots (cs : CS) : List (Nat × Nat) := (allSp 0 cs).filter (here cs)
theorem here_some {cs : CS} {q : Nat × Nat} (h : here cs q = true) : ∃ c, cs[q.1]? = some c ∧ q.2 ∈ pcs c.2 := by
  unfold here at h
  split at h
  · rename_i c hc
    exact ⟨c, hc, List.contains_iff_mem.mp h⟩
  · cases h
theorem allSp_lt : ∀ (cs : CS) (k : Nat) (q : Nat × Nat), q ∈ allSp k cs → ∃ i, q.1 = k + i ∧ i < cs.length
  | [], _, _, h => nomatch h
  | c :: r, k, q, h => by
    rcases List.mem_append.mp h with h | h
    · obtain ⟨p, _, rfl⟩ := List.mem_map.mp h
      exact ⟨0, rfl, by simp⟩
    · obtain ⟨i, h1, h2⟩ := allSp_lt r (k + 1) q h
      exact ⟨i + 1, by omega, by simpa using h2⟩
structure Lap (cs : CS) (ρ : En) : Prop where
  len : ρ.length = 21
  w : eV 10 ρ = some (.tuple (nsL cs))
  r : eV 11 ρ = some (.tuple (lsL cs))
theorem Lap.set {cs : CS} {ρ : En} (h : Lap cs ρ) {i : Nat} {s : Sl} (h1 : i ≠ 10) (h2 : i ≠ 11) : Lap cs (ρ.set i s) := ⟨by simp [h.len], (ev_ne h1).trans h.w, (ev_ne h2).trans h.r⟩
section
variable {cs : CS} {ρ : En}
theorem lap_spots (hl : cs.length ≤ 9) (hc : AllC cs) (h : Lap cs ρ) : eLc (iSeq (eCall d_l_spots_of (aCons (eV 10) aNil))) [14, 15] (gTupD 2 (gsCons (gN 14) (gsCons (gN 15) gsNil))) (bO (e2 gIn (eV 15) (e2 gIx (eV 11) (eV 14)))) (eTup (aCons (eV 14) (aCons (eV 15) aNil))) ρ = some (.list ((spots cs).map spD)) := by
  have it : iSeq (eCall d_l_spots_of (aCons (eV 10) aNil)) ρ = some ((allSp 0 cs).map spD) := by
    unfold iSeq
    rw [call1 h.w (spots_of_eq hl hc)]
    rfl
  have hw : Lap cs (wipeE ρ [14, 15]) := (h.set (i := 15) (s := .no) (by decide) (by decide)).set (i := 14) (s := .no) (by decide) (by decide)
  have key : lcGo (wipeE ρ [14, 15]) (gTupD 2 (gsCons (gN 14) (gsCons (gN 15) gsNil))) (bO (e2 gIn (eV 15) (e2 gIx (eV 11) (eV 14)))) (eTup (aCons (eV 14) (aCons (eV 15) aNil))) ((allSp 0 cs).map spD) = some (((allSp 0 cs).filter (here cs)).map spD) := by
    refine lcGo_imF fun q hq => ⟨((wipeE ρ [14, 15]).set 14 (.d (iD q.1))).set 15 (.d (iD q.2)), rfl, ?_, fun _ => ?_⟩
    · obtain ⟨i, hi, hlt⟩ := allSp_lt cs 0 q hq
      have hi' : q.1 < cs.length := by omega
      have hk : cs[q.1]? = some cs[q.1] := List.getElem?_eq_getElem hi'
      have hs := (hw.set (i := 14) (s := .d (iD q.1)) (by decide) (by decide)).set (i := 15) (s := .d (iD q.2)) (by decide) (by decide)
      have e15 : eV 15 (((wipeE ρ [14, 15]).set 14 (.d (iD q.1))).set 15 (.d (iD q.2))) = some (iD q.2) := ev_same (by simp [hw.len])
      have e14 : eV 14 (((wipeE ρ [14, 15]).set 14 (.d (iD q.1))).set 15 (.d (iD q.2))) = some (iD q.1) := (ev_ne (by decide)).trans (ev_same (by simp [hw.len]))
      have z := e2_of e15 (e2_of hs.r e14 (gIx_ls hk)) in_lD
      have hh : here cs q = (pcs cs[q.1].2).contains q.2 := by unfold here; rw [hk]
      unfold bO
      rw [z, hh]
    · have e15 : eV 15 (((wipeE ρ [14, 15]).set 14 (.d (iD q.1))).set 15 (.d (iD q.2))) = some (iD q.2) := ev_same (by simp [hw.len])
      have e14 : eV 14 (((wipeE ρ [14, 15]).set 14 (.d (iD q.1))).set 15 (.d (iD q.2))) = some (iD q.1) := (ev_ne (by decide)).trans (ev_same (by simp [hw.len]))
      simp [eTup, aCons, aNil, e14, e15, okLen, spD]
  have hz : (allSp 0 cs).length ≤ 1000 := Nat.le_trans (allSp_len cs 0 hc) (by omega)
  unfold eLc
  rw [it]
  simp only [Option.bind_some, List.length_map, okl hz, if_true]
  rw [key]
  rfl
theorem lap_later (hl : cs.length ≤ 9) (hc : AllC cs) (h : Lap cs ρ) {k p : Nat} {c : NT × Nat} (hk : cs[k]? = some c) (hp : p ∈ pcs c.2) (e14 : eV 14 ρ = some (iD k)) (e15 : eV 15 ρ = some (iD p)) :
    (e2 gAdd (e2 gAdd (eCut (eV 11) pNo (pSome (eV 14))) (eTup (aCons (eCall d_l_bitten (aCons (e2 gIx (eV 10) (eV 14)) (aCons (e2 gIx (eV 11) (eV 14)) (aCons (eV 15) aNil)))) aNil))) (eCut (eV 11) (pSome (e2 gAdd (eV 14) (eC (.int 1)))) pNo)) ρ = some (.tuple (lsL (bite cs k p))) := by
  have hm := hc c (List.mem_of_getElem? hk)
  have b := call3 (e2_of h.w e14 (gIx_ns hk)) (e2_of h.r e14 (gIx_ls hk)) e15 (bitten_eq hm.1 hm.2 hp)
  have a1 : eCut (eV 11) pNo (pSome (eV 14)) ρ = some (.tuple (cutD (lsL cs) none (some (k : Int)))) := by
    unfold eCut pSome pNo
    rw [h.r, e14]
    rfl
  have e1' : e2 gAdd (eV 14) (eC (.int 1)) ρ = some (.int ((k : Int) + 1)) := e2_of e14 rfl rfl
  have a2 : eCut (eV 11) (pSome (e2 gAdd (eV 14) (eC (.int 1)))) pNo ρ = some (.tuple (cutD (lsL cs) (some ((k : Int) + 1)) none)) := by
    unfold eCut pSome pNo
    rw [h.r, e1']
    rfl
  have a3 : eTup (aCons (eCall d_l_bitten (aCons (e2 gIx (eV 10) (eV 14)) (aCons (e2 gIx (eV 11) (eV 14)) (aCons (eV 15) aNil)))) aNil) ρ = some (.tuple [lD (c.1.ch c.2 p)]) := by
    simp only [eTup, aCons, aNil] at b ⊢
    rw [b]
    rfl
  have hlen : (lsL cs).length = cs.length := by simp [lsL]
  have l1 : (cutD (lsL cs) none (some (k : Int))).length ≤ 9 := by
    unfold cutD
    rw [List.length_take, List.length_drop]; omega
  have l2 : (cutD (lsL cs) (some ((k : Int) + 1)) none).length ≤ 9 := by
    unfold cutD
    rw [List.length_take, List.length_drop]; omega
  refine e2_of (e2_of a1 a3 (c := .tuple (cutD (lsL cs) none (some (k : Int)) ++ [lD (c.1.ch c.2 p)])) ?_) a2 ?_
  · unfold gAdd
    simp only [List.length_cons, List.length_nil]
    rw [if_pos (okl (by omega))]
  · unfold gAdd
    simp only [List.length_append, List.length_cons, List.length_nil]
    rw [if_pos (okl (by omega)), lsL_cut hk]
end
end Ea
end
section
set_option Elab.async false
set_option linter.all false
set_option maxRecDepth 100000
set_option maxHeartbeats 400000
/-! EqZa: a lap of the loop ends well -/
namespace Ea
open PySem PySem.Spec L2
open PyProof.Rows hiding St
abbrev lapB : LS := (nsSeq (nsAsg (nP (eLc (iSeq (eCall d_l_spots_of (aCons (eV 10) aNil))) [14, 15] (gTupD 2 (gsCons (gN 14) (gsCons (gN 15) gsNil))) (bO (e2 gIn (eV 15) (e2 gIx (eV 11) (eV 14)))) (eTup (aCons (eV 14) (aCons (eV 15) aNil))))) (gN 13)) (nsSeq (nsIf (fun ρ => ((bO (e2 gEqD (eV 13) (eLst aNil))) ρ).map fun b => ([b], 0)) (nsRet (nP (eC (.bool true)))) nsNil) (nsSeq (nsAsg (nCall gn_l_of (aCons (eV 13) aNil)) (gTupD 2 (gsCons (gN 14) (gsCons (gN 15) gsNil)))) (nsSeq (nsAsg (nP (e2 gAdd (e2 gAdd (eCut (eV 11) pNo (pSome (eV 14))) (eTup (aCons (eCall d_l_bitten (aCons (e2 gIx (eV 10) (eV 14)) (aCons (e2 gIx (eV 11) (eV 14)) (aCons (eV 15) aNil)))) aNil))) (eCut (eV 11) (pSome (e2 gAdd (eV 14) (eC (.int 1)))) pNo))) (gN 16)) (nsSeq (nsAsg (nP (eCall d_l_good_spots (aCons (eV 10) (aCons (eV 16) aNil)))) (gN 17)) (nsSeq (nsAsg (nP (eCall d_l_heard (aCons (eC (.int 1)) (aCons (eCall d_l_lists (aCons (eV 10) aNil)) (aCons (eV 11) (aCons (eV 14) (aCons (eV 15) aNil))))))) (gN 18)) (nsSeq (nsIf (fun ρ => ((tOrD (tNotD (bO (eCall d_l_same (aCons (eCall d_l_heard (aCons (eC (.int 0)) (aCons (eV 10) (aCons (eCall d_l_lists (aCons (eV 11) aNil)) (aCons (eV 14) (aCons (eV 15) aNil)))))) (aCons (eV 16) aNil))))) (bO (e2 gEqD (eLc (iSeq (eV 17)) [20] (gN 20) (bO (eCall d_l_same (aCons (eV 18) (aCons (eV 20) aNil)))) (eC (.int 1))) (eLst aNil)))) ρ).map fun b => ([b], 0)) (nsRet (nP (eC (.bool false)))) nsNil) (nsSeq (nsAsg (nP (e2 gAdd (eCall d_l_spots_of (aCons (eV 10) aNil)) (eLst (aCons (eC .none) (aCons (eTup (aCons (eC (.int 0)) aNil)) aNil))))) (gN 19)) (nsSeq (nsIf (fun ρ => ((tNotD (bO (eCall d_l_same (aCons (eLc (iSeq (eV 19)) [20] (gN 20) dYes (eCall (fun ds => d_is_answer_spot ds.reverse) (aCons (eV 20) (aCons (eV 15) (aCons (eV 14) (aCons (eV 11) (aCons (eV 10) aNil))))))) (aCons (eLc (iSeq (eV 19)) [20] (gN 20) dYes (e2 gInT (eV 20) (eV 17))) aNil))))) ρ).map fun b => ([b], 0)) (nsRet (nP (eC (.bool false)))) nsNil) (nsIf (fun ρ => ((tNotD (bO (eCall d_l_same (aCons (eCall d_l_heard (aCons (eC (.int 1)) (aCons (eV 10) (aCons (eV 16) (aCons (e2 gIx (e2 gIx (eV 17) (eC (.int 0))) (eC (.int 0))) (aCons (e2 gIx (e2 gIx (eV 17) (eC (.int 0))) (eC (.int 1))) aNil)))))) (aCons (eLst (aCons (eC (.str "can not")) (aCons (eC (.bool true)) aNil))) aNil))))) ρ).map fun b => ([b], 0)) (nsRet (nP (eC (.bool false)))) nsNil))))))))))
def lapP (cs : CS) : Out → Prop
  | .nx ρ => Lap cs ρ
  | .rt d => d = .bool true
theorem eqv_nil (xs : List (Nat × Nat)) : gEqD (.list (xs.map spD)) (.list []) = some (.bool xs.isEmpty) := by
  show (if SeqAt.shaped (.list (xs.map spD)) && SeqAt.shaped (.list []) then some (PyData.bool (PyData.eqv (.list (xs.map spD)) (.list []))) else none) = _
  rw [shaped_spotsL]
  cases xs <;> rfl
theorem gn_of_spots {xs : List (Nat × Nat)} (h : xs ≠ []) (hl : xs.length ≤ 1000) : gn_l_of [.list (xs.map spD)] = some (xs.map spD, 1) := by
  have h1 : 0 < (xs.map spD).length := by simpa using List.length_pos_iff.mpr h
  have h2 : (xs.map spD).length < 1073741824 := by simp; omega
  show (if decide (0 < (xs.map spD).length) && decide ((xs.map spD).length < 1073741824) then some (xs.map spD, 1) else none) = _
  rw [decide_eq_true h1, decide_eq_true h2]
  rfl
theorem lay_ones {α : Type} : ∀ xs : List α, PyData.canLayAll0 (xs.map fun _ => PyData.int 1) = true ∧ PyData.depthAll (xs.map fun _ => PyData.int 1) ≤ 0
  | [] => ⟨rfl, Nat.le_refl _⟩
  | x :: r => by
    obtain ⟨h1, h2⟩ := lay_ones r
    refine ⟨?_, ?_⟩
    · show (PyData.canLay0 (.int 1) && PyData.canLayAll0 (r.map fun _ => PyData.int 1)) = true
      rw [h1]; rfl
    · show max (PyData.depth (.int 1)) (PyData.depthAll (r.map fun _ => PyData.int 1)) ≤ 0
      have : PyData.depth (.int 1) = 0 := rfl
      omega
theorem ones_ne {α : Type} {xs : List α} (h : xs ≠ []) : gEqD (.list (xs.map fun _ => PyData.int 1)) (.list []) = some (.bool false) := by
  have hs : SeqAt.shaped (.list (xs.map fun _ => PyData.int 1)) = true := by
    obtain ⟨h1, h2⟩ := lay_ones xs
    unfold SeqAt.shaped
    refine Bool.and_eq_true_iff.mpr ⟨h1, decide_eq_true ?_⟩
    show PyData.depthAll (xs.map fun _ => PyData.int 1) + 1 ≤ 64
    omega
  show (if SeqAt.shaped (.list (xs.map fun _ => PyData.int 1)) && SeqAt.shaped (.list []) then some (PyData.bool (PyData.eqv (.list (xs.map fun _ => PyData.int 1)) (.list []))) else none) = _
  rw [hs]
  cases xs with
  | nil => exact absurd rfl h
  | cons x r => rfl
def sameQ (a b : Nat × Nat) : Bool := ((a.1 : Int) == b.1 && ((a.2 : Int) == b.2 && true))
theorem sameQ_refl (a : Nat × Nat) : sameQ a a = true := by simp [sameQ]
theorem lap_ones {ρ : En} {G : List (Nat × Nat)} {g0 : Nat × Nat} (hl : ρ.length = 21) (hG : G.length ≤ 1000) (e17 : eV 17 ρ = some (.tuple (G.map spD))) (e18 : eV 18 ρ = some (spD g0)) :
    eLc (iSeq (eV 17)) [20] (gN 20) (bO (eCall d_l_same (aCons (eV 18) (aCons (eV 20) aNil)))) (eC (.int 1)) ρ = some (.list ((G.filter (sameQ g0)).map fun _ => PyData.int 1)) := by
  have key : lcGo (wipeE ρ [20]) (gN 20) (bO (eCall d_l_same (aCons (eV 18) (aCons (eV 20) aNil)))) (eC (.int 1)) (G.map spD) = some ((G.filter (sameQ g0)).map fun _ => PyData.int 1) := by
    refine lcGo_imF fun q hq => ⟨(wipeE ρ [20]).set 20 (.d (spD q)), rfl, ?_, fun _ => rfl⟩
    have e20 : eV 20 ((wipeE ρ [20]).set 20 (.d (spD q))) = some (spD q) := ev_same (by show 20 < (ρ.set 20 .no).length; rw [List.length_set, hl]; decide)
    have e18' : eV 18 ((wipeE ρ [20]).set 20 (.d (spD q))) = some (spD g0) := ((ev_ne (by decide)).trans (ev_ne (by decide))).trans e18
    unfold bO
    rw [call2 e18' e20 (same_sp g0 q)]
    rfl
  unfold eLc iSeq
  rw [e17]
  simp only [Option.bind_some, seqD, List.length_map, okl hG, if_true]
  rw [key]
  rfl
theorem orNot {f g : DE} {ρ : En} (h1 : f ρ = some (.bool true)) (h2 : g ρ = some (.bool false)) : tOrD (tNotD (bO f)) (bO g) ρ = some false := by
  unfold tOrD tNotD bO
  rw [h1, h2]
  rfl
theorem notT {f : DE} {ρ : En} (h1 : f ρ = some (.bool true)) : tNotD (bO f) ρ = some false := by
  unfold tNotD bO
  rw [h1]
  rfl
def things (cs : CS) : List Thing := (allSp 0 cs).map Thing.spot ++ [.non, .one]
theorem things_d (cs : CS) : (things cs).map Thing.d = (allSp 0 cs).map spD ++ [.none, .tuple [iD 0]] := by
  simp [things, Thing.d]
theorem things_len {cs : CS} (hl : cs.length ≤ 9) (hc : AllC cs) : (things cs).length ≤ 1000 := by
  have := allSp_len cs 0 hc
  simp [things]
  omega
theorem lap_asks {cs : CS} {ρ : En} {fe : DE} {q : Thing → Bool} (hl : cs.length ≤ 9) (hc : AllC cs) (e19 : eV 19 ρ = some (.list ((things cs).map Thing.d))) (h : ∀ x, fe ((wipeE ρ [20]).set 20 (.d x.d)) = some (.bool (q x))) :
    eLc (iSeq (eV 19)) [20] (gN 20) dYes fe ρ = some (.list ((things cs).map fun x => .bool (q x))) := by
  have key : lcGo (wipeE ρ [20]) (gN 20) dYes fe ((things cs).map Thing.d) = some ((things cs).map fun x => .bool (q x)) := lcGo_im fun x _ => ⟨_, rfl, h x⟩
  unfold eLc iSeq
  rw [e19]
  simp only [Option.bind_some, seqD, List.length_map, okl (things_len hl hc), if_true]
  rw [key]
  rfl
theorem lap_ok {cs : CS} {ρ : En} (hl : cs.length ≤ 9) (hc : AllC cs) (hx : xorC cs = 0) (h : Lap cs ρ) : OkS (lapB ρ) 1 (lapP cs) := by
  have hS : (spots cs).length ≤ 1000 := Nat.le_trans (List.length_filter_le _ _) (Nat.le_trans (allSp_len cs 0 hc) (by omega))
  refine ok_weakS (ok_seq (cf := 0) (cg := 1) (ok_set (lap_spots hl hc h) ?_)) (by decide) fun o p => p
  have h1 := h.set (i := 13) (s := .d (.list ((spots cs).map spD))) (by decide) (by decide)
  have e13 : eV 13 (ρ.set 13 (.d (.list ((spots cs).map spD)))) = some (.list ((spots cs).map spD)) := ev_same (by rw [h.len]; decide)
  generalize ρ.set 13 (.d (.list ((spots cs).map spD))) = ρ1 at h1 e13 ⊢
  have tst : bO (e2 gEqD (eV 13) (eLst aNil)) ρ1 = some (spots cs).isEmpty := by
    unfold bO
    rw [e2_of e13 (show eLst aNil ρ1 = some (.list []) from rfl) (eqv_nil _)]
  show OkS (nsSeq _ _ ρ1) 1 _
  refine ok_seq (cf := 0) (cg := 1) (ok_if tst ?_)
  by_cases hem : spots cs = []
  · rw [hem]
    show OkS (nsRet (nP (eC (.bool true))) ρ1) 0 _
    exact ok_ret (ok_nP (d := .bool true) rfl rfl)
  · have hf : (spots cs).isEmpty = false := by simpa using hem
    rw [hf]
    show OkS (nsNil ρ1) 0 _
    refine ok_nil ?_
    show OkS (nsSeq _ _ ρ1) 1 _
    refine ok_seq (cf := 1) (cg := 0) (ok_asg (ok_call (ds := [.list ((spots cs).map spD)]) (by simp [aCons, aNil, e13]) (gn_of_spots hem hS)) fun d hd => ?_)
    obtain ⟨q, hq, rfl⟩ := List.mem_map.mp hd
    obtain ⟨c, hk, hp⟩ := here_some (List.mem_filter.mp hq).2
    refine ⟨(ρ1.set 14 (.d (iD q.1))).set 15 (.d (iD q.2)), rfl, ?_⟩
    have h2 := (h1.set (i := 14) (s := .d (iD q.1)) (by decide) (by decide)).set (i := 15) (s := .d (iD q.2)) (by decide) (by decide)
    have e15 : eV 15 ((ρ1.set 14 (.d (iD q.1))).set 15 (.d (iD q.2))) = some (iD q.2) := ev_same (by rw [List.length_set, h1.len]; decide)
    have e14 : eV 14 ((ρ1.set 14 (.d (iD q.1))).set 15 (.d (iD q.2))) = some (iD q.1) := (ev_ne (by decide)).trans (ev_same (by rw [h1.len]; decide))
    generalize (ρ1.set 14 (.d (iD q.1))).set 15 (.d (iD q.2)) = ρ2 at h2 e14 e15 ⊢
    obtain ⟨k, p⟩ := q
    dsimp only at hk hp e14 e15
    have hb := bite_all hc hk hp
    have hbl : (bite cs k p).length ≤ 9 := by rw [bite_len]; exact hl
    have hne := bite_ne hc hk hp hx
    have hG0 := goodFrom_some (X := xorC (bite cs k p)) (bite cs k p) 0 hb (lead hb hne)
    have hGl := goodFrom_len (bite cs k p) (xorC (bite cs k p)) 0
    have hmem := fun q hq => goodFrom_mem (X := xorC (bite cs k p)) (bite cs k p) 0 q hq
    have win := good_spots_eq hbl hb
    rw [bite_ns] at win
    have ans : answerR cs k p = ((goodFrom (xorC (bite cs k p)) 0 (bite cs k p)).head?).map fun q => .ok (spD q) := by
      unfold answerR
      rw [if_neg (by simpa using hx)]
    have isa := fun x => is_answer_eq hl hc (.inl rfl) (.inl rfl) hk hp x
    generalize goodFrom (xorC (bite cs k p)) 0 (bite cs k p) = G at hG0 hGl hmem win ans isa
    obtain ⟨g0, G', rfl⟩ : ∃ g0 G', G = g0 :: G' := by
      cases G with
      | nil => exact absurd rfl hG0
      | cons a b => exact ⟨a, b, rfl⟩
    have ans' : answerR cs k p = some (.ok (spD g0)) := ans
    -- the bite
    refine ok_seq (cf := 0) (cg := 0) (ok_set (lap_later hl hc h2 hk hp e14 e15) ?_)
    have h3 := h2.set (i := 16) (s := .d (.tuple (lsL (bite cs k p)))) (by decide) (by decide)
    have e16 : eV 16 (ρ2.set 16 (.d (.tuple (lsL (bite cs k p))))) = some (.tuple (lsL (bite cs k p))) := ev_same (by rw [h2.len]; decide)
    have e14 : eV 14 (ρ2.set 16 (.d (.tuple (lsL (bite cs k p))))) = some (iD k) := (ev_ne (by decide)).trans e14
    have e15 : eV 15 (ρ2.set 16 (.d (.tuple (lsL (bite cs k p))))) = some (iD p) := (ev_ne (by decide)).trans e15
    generalize ρ2.set 16 (.d (.tuple (lsL (bite cs k p)))) = ρ3 at h3 e14 e15 e16 ⊢
    -- the good spots
    show OkS (nsSeq _ _ ρ3) 0 _
    refine ok_seq (cf := 0) (cg := 0) (ok_set (call2 h3.w e16 win) ?_)
    have h4 := h3.set (i := 17) (s := .d (.tuple ((g0 :: G').map spD))) (by decide) (by decide)
    have e17 : eV 17 (ρ3.set 17 (.d (.tuple ((g0 :: G').map spD)))) = some (.tuple ((g0 :: G').map spD)) := ev_same (by rw [h3.len]; decide)
    have e14 : eV 14 (ρ3.set 17 (.d (.tuple ((g0 :: G').map spD)))) = some (iD k) := (ev_ne (by decide)).trans e14
    have e15 : eV 15 (ρ3.set 17 (.d (.tuple ((g0 :: G').map spD)))) = some (iD p) := (ev_ne (by decide)).trans e15
    have e16 : eV 16 (ρ3.set 17 (.d (.tuple ((g0 :: G').map spD)))) = some (.tuple (lsL (bite cs k p))) := (ev_ne (by decide)).trans e16
    generalize ρ3.set 17 (.d (.tuple ((g0 :: G').map spD))) = ρ4 at h4 e14 e15 e16 e17 ⊢
    -- told
    show OkS (nsSeq _ _ ρ4) 0 _
    refine ok_seq (cf := 0) (cg := 0) (ok_set (call5 (show eC (.int 1) ρ4 = some (iD 1) from rfl) (call1 h4.w (lists_O hl hc)) h4.r e14 e15 (heard1_eq hl hc (.inr rfl) (.inl rfl) hk hp ans')) ?_)
    have h5 := h4.set (i := 18) (s := .d (hRes (.ok (spD g0)))) (by decide) (by decide)
    have e18 : eV 18 (ρ4.set 18 (.d (hRes (.ok (spD g0))))) = some (spD g0) := ev_same (by rw [h4.len]; decide)
    have e14 : eV 14 (ρ4.set 18 (.d (hRes (.ok (spD g0))))) = some (iD k) := (ev_ne (by decide)).trans e14
    have e15 : eV 15 (ρ4.set 18 (.d (hRes (.ok (spD g0))))) = some (iD p) := (ev_ne (by decide)).trans e15
    have e16 : eV 16 (ρ4.set 18 (.d (hRes (.ok (spD g0))))) = some (.tuple (lsL (bite cs k p))) := (ev_ne (by decide)).trans e16
    have e17 : eV 17 (ρ4.set 18 (.d (hRes (.ok (spD g0))))) = some (.tuple ((g0 :: G').map spD)) := (ev_ne (by decide)).trans e17
    generalize ρ4.set 18 (.d (hRes (.ok (spD g0)))) = ρ5 at h5 e14 e15 e16 e17 e18 ⊢
    show OkS (nsSeq _ _ ρ5) 0 _
    have sm := call2 (call5 (show eC (.int 0) ρ5 = some (iD 0) from rfl) h5.w (call1 h5.r (lists_L hl hc)) e14 e15 (heard0_eq hl hc (.inl rfl) (.inr rfl) hk hp)) e16 (same_ls hbl hb)
    have hfil : (g0 :: G').filter (sameQ g0) ≠ [] := by simp [sameQ_refl]
    have on := e2_of (lap_ones h5.len (by omega) e17 e18) (show eLst aNil ρ5 = some (.list []) from rfl) (ones_ne hfil)
    refine ok_seq (cf := 0) (cg := 0) (ok_if (orNot sm on) (ok_nil ?_))
    -- the things
    show OkS (nsSeq _ _ ρ5) 0 _
    have hA := allSp_len cs 0 hc
    have th : gAdd (.list ((allSp 0 cs).map spD)) (.list [.none, .tuple [iD 0]]) = some (.list ((things cs).map Thing.d)) := by
      rw [things_d]
      unfold gAdd
      simp only [List.length_map, List.length_cons, List.length_nil]
      rw [if_pos (okl (by omega))]
    refine ok_seq (cf := 0) (cg := 0) (ok_set (e2_of (call1 h5.w (spots_of_eq hl hc)) (show eLst _ ρ5 = some (.list [.none, .tuple [iD 0]]) from rfl) th) ?_)
    have h6 := h5.set (i := 19) (s := .d (.list ((things cs).map Thing.d))) (by decide) (by decide)
    have e19 : eV 19 (ρ5.set 19 (.d (.list ((things cs).map Thing.d)))) = some (.list ((things cs).map Thing.d)) := ev_same (by rw [h5.len]; decide)
    have e14 : eV 14 (ρ5.set 19 (.d (.list ((things cs).map Thing.d)))) = some (iD k) := (ev_ne (by decide)).trans e14
    have e15 : eV 15 (ρ5.set 19 (.d (.list ((things cs).map Thing.d)))) = some (iD p) := (ev_ne (by decide)).trans e15
    have e16 : eV 16 (ρ5.set 19 (.d (.list ((things cs).map Thing.d)))) = some (.tuple (lsL (bite cs k p))) := (ev_ne (by decide)).trans e16
    have e17 : eV 17 (ρ5.set 19 (.d (.list ((things cs).map Thing.d)))) = some (.tuple ((g0 :: G').map spD)) := (ev_ne (by decide)).trans e17
    generalize ρ5.set 19 (.d (.list ((things cs).map Thing.d))) = ρ6 at h6 e14 e15 e16 e17 e19 ⊢
    show OkS (nsSeq _ _ ρ6) 0 _
    have w20 : ∀ x : Thing, eV 20 ((wipeE ρ6 [20]).set 20 (.d x.d)) = some x.d := fun x => ev_same (by show 20 < (ρ6.set 20 .no).length; rw [List.length_set, h6.len]; decide)
    have wj : ∀ (x : Thing) (j : Nat) (d : PyData), 20 ≠ j → eV j ρ6 = some d → eV j ((wipeE ρ6 [20]).set 20 (.d x.d)) = some d := fun x j d hj e => ((ev_ne hj).trans (ev_ne hj)).trans e
    have q1 := lap_asks (fe := eCall (fun ds => d_is_answer_spot ds.reverse) (aCons (eV 20) (aCons (eV 15) (aCons (eV 14) (aCons (eV 11) (aCons (eV 10) aNil)))))) (q := isIn (g0 :: G')) hl hc e19 fun x =>
      call5 (w20 x) (wj x 15 _ (by decide) e15) (wj x 14 _ (by decide) e14) (wj x 11 _ (by decide) h6.r) (wj x 10 _ (by decide) h6.w) (isa x)
    have q2 := lap_asks (fe := e2 gInT (eV 20) (eV 17)) (q := isIn (g0 :: G')) hl hc e19 fun x => e2_of (w20 x) (wj x 17 _ (by decide) e17) (gInT_thing _ x)
    refine ok_seq (cf := 0) (cg := 0) (ok_if (notT (call2 q1 q2 (same_bl (things cs) (isIn (g0 :: G')) (things_len hl hc)))) (ok_nil ?_))
    -- it is no longer lost
    obtain ⟨i, c', hi, hci, hpi⟩ := hmem g0 (.head _)
    have hi' : g0.1 = i := by omega
    subst hi'
    have x0 : gIx (.tuple ((g0 :: G').map spD)) (.int 0) = some (spD g0) := atI_im (f := spD) (xs := g0 :: G') (p := 0) rfl
    have x1 : e2 gIx (e2 gIx (eV 17) (eC (.int 0))) (eC (.int 0)) ρ6 = some (iD g0.1) := e2_of (e2_of e17 rfl x0) rfl rfl
    have x2 : e2 gIx (e2 gIx (eV 17) (eC (.int 0))) (eC (.int 1)) ρ6 = some (iD g0.2) := e2_of (e2_of e17 rfl x0) rfl rfl
    have can : answerR (bite cs g0.1 g0.2 |> fun _ => bite cs k p) g0.1 g0.2 = some .can := by
      unfold answerR
      exact if_pos hne
    have hO : IsO (bite cs k p) (.tuple (nsL cs)) := .inl (by rw [bite_ns])
    have hd := heard1_eq hbl hb hO (.inl rfl) hci hpi can
    exact ok_if (notT (call2 (call5 (show eC (.int 1) ρ6 = some (iD 1) from rfl) h6.w e16 x1 x2 hd) (show eLst _ ρ6 = some canD from rfl) same_canD)) (ok_nil h6)
end Ea
end
section
set_option Elab.async false
set_option linter.all false
set_option maxRecDepth 100000
set_option maxHeartbeats 400000
/-! EqZb: _law_right answers True -/
namespace Ea
open PySem PySem.Spec L2
open PyProof.Rows hiding St
theorem laps {cs : CS} (hl : cs.length ≤ 9) (hc : AllC cs) (hx : xorC cs = 0) : ∀ (xs : List PyData) (ρ : En), Lap cs ρ → OkS (forL (gN 12) lapB xs ρ) xs.length (lapP cs)
  | [], ρ, h => ⟨[.nx ρ], 0, rfl, Nat.le_refl _, fun o ho => by obtain rfl := List.mem_singleton.mp ho; exact h⟩
  | x :: r, ρ, h => by
    obtain ⟨l1, c1, e1, hc1, p1⟩ := lap_ok hl hc hx (h.set (i := 12) (s := .d x) (by decide) (by decide))
    obtain ⟨l2, c2, e2, hc2, p2⟩ := seqL_of (g := forL (gN 12) lapB r) (C := r.length) (P := lapP cs) (l := l1) (fun ρ' hr => laps hl hc hx r ρ' (p1 _ hr)) fun d hd => p1 _ hd
    refine ⟨l2, c1 + c2, ?_, by rw [List.length_cons]; omega, p2⟩
    show ((gN 12 x ρ).bind fun ρ1 => (lapB ρ1).bind fun p => (seqL (forL (gN 12) lapB r) p.1).map fun q => (q.1, p.2 + q.2)) = _
    rw [show gN 12 x ρ = some (ρ.set 12 (.d x)) from rfl]
    simp only [Option.bind_some]
    rw [e1]
    simp only [Option.bind_some, e2, Option.map_some]
theorem toCS : ∀ (cs0 : List Comp), (∀ c ∈ cs0, c ∈ COMPS) → ∃ cs : CS, AllC cs ∧ cs.length = cs0.length ∧ cs0.map (·.1) = nsL cs ∧ cs0.map (·.2) = lsL cs
  | [], _ => ⟨[], (fun _ h => nomatch h), rfl, rfl, rfl⟩
  | c :: r, h => by
    obtain ⟨cs, h1, h2, h3, h4⟩ := toCS r fun x hx => h x (.tail _ hx)
    obtain ⟨n, hn, hm⟩ := List.mem_flatMap.mp (h c (.head _))
    obtain ⟨l, hl, rfl⟩ := List.mem_map.mp hm
    obtain ⟨t, ht, e⟩ := List.any_eq_true.mp (comps_in n hn l hl)
    obtain ⟨e1, e2⟩ := Bool.and_eq_true_iff.mp e
    obtain ⟨b, hb, e3⟩ := List.any_eq_true.mp e2
    refine ⟨(t, b) :: cs, fun x hx => ?_, by simp [h2], ?_, ?_⟩
    · rcases List.mem_cons.mp hx with rfl | hx
      · exact ⟨ht, hb⟩
      · exact h1 x hx
    · show n :: _ = t.d :: nsL cs
      rw [← h3, beqD_eq e1]
    · show l :: _ = lD b :: lsL cs
      rw [← h4, beqD_eq e3]
theorem chain_net : ∀ m ∈ List.range 8, (NTS.any fun t => beqD t.d (chD m) && t.w t.full == m && t.size == m) = true := by decide +kernel
theorem chain_ex {m : Nat} (h : m < 8) : ∃ t ∈ NTS, t.d = chD m ∧ t.w t.full = m ∧ t.size = m := by
  obtain ⟨t, ht, e⟩ := List.any_eq_true.mp (chain_net m (List.mem_range.mpr h))
  simp only [Bool.and_eq_true, beq_iff_eq] at e
  exact ⟨t, ht, beqD_eq e.1.1, e.1.2, e.2⟩
theorem gn3 (L : List Comp) : gnSO L [.int 3] = some ((seqsOf L 3).map compsD, 100) := rfl
theorem gn2 (L : List Comp) : gnSO L [.int 2] = some ((seqsOf L 2).map compsD, 100) := rfl
end Ea
end
section
set_option Elab.async false
set_option linter.all false
set_option maxRecDepth 100000
set_option maxHeartbeats 400000
/-! EqZc: _law_right answers True -/
namespace Ea
open PySem PySem.Spec L2
open PyProof.Rows hiding St
theorem lst3 {f g h : DE} {ρ : En} {a b c : PyData} (h1 : f ρ = some a) (h2 : g ρ = some b) (h3 : h ρ = some c) : eLst (aCons f (aCons g (aCons h aNil))) ρ = some (.list [a, b, c]) := by
  simp [eLst, aCons, aNil, h1, h2, h3, okLen]
theorem tup1 {f : DE} {ρ : En} {a : PyData} (h1 : f ρ = some a) : eTup (aCons f aNil) ρ = some (.tuple [a]) := by
  simp [eTup, aCons, aNil, h1, okLen]
theorem tup2 {f g : DE} {ρ : En} {a b : PyData} (h1 : f ρ = some a) (h2 : g ρ = some b) : eTup (aCons f (aCons g aNil)) ρ = some (.tuple [a, b]) := by
  simp [eTup, aCons, aNil, h1, h2, okLen]
theorem cat_tup {xs ys : List PyData} (h : xs.length + ys.length ≤ 1000) : gAdd (.tuple xs) (.tuple ys) = some (.tuple (xs ++ ys)) := by
  show (if okLen (xs.length + ys.length) = true then some (PyData.tuple (xs ++ ys)) else none) = _
  rw [if_pos (okl h)]
theorem right_ok : OkS (b_l_right (startN 21 [])) 1000 fun o => o = .rt (.bool true) := by
  have hlen : (startN 21 []).length = 21 := rfl
  generalize startN 21 [] = ρ at hlen ⊢
  unfold b_l_right
  refine ok_weakS (ok_seq (cf := 100) (cg := 200) (ok_asg (ok_call (ds := [.int 3]) rfl (gn3 COMPS)) fun d hd => ?_)) (by decide) fun o h => h
  obtain ⟨cs0, hcs, rfl⟩ := List.mem_map.mp hd
  obtain ⟨l0, hin⟩ := mem_seqsOf.mp hcs
  obtain ⟨cs, hc, hlc, hn, hls⟩ := toCS cs0 hin
  have hl3 : cs.length ≤ 3 := by omega
  clear hd hcs
  refine ⟨(ρ.set 1 (.d (.tuple (cs0.map (·.1))))).set 2 (.d (.tuple (cs0.map (·.2)))), rfl, ?_⟩
  rw [hn, hls]
  have k1 : ((ρ.set 1 (.d (.tuple (nsL cs)))).set 2 (.d (.tuple (lsL cs)))).length = 21 := by simp [hlen]
  have v2 : eV 2 ((ρ.set 1 (.d (.tuple (nsL cs)))).set 2 (.d (.tuple (lsL cs)))) = some (.tuple (lsL cs)) := ev_same (by rw [List.length_set, hlen]; decide)
  have v1 : eV 1 ((ρ.set 1 (.d (.tuple (nsL cs)))).set 2 (.d (.tuple (lsL cs)))) = some (.tuple (nsL cs)) := (ev_ne (by decide)).trans (ev_same (by rw [hlen]; decide))
  generalize (ρ.set 1 (.d (.tuple (nsL cs)))).set 2 (.d (.tuple (lsL cs))) = ρ1 at k1 v1 v2 ⊢
  have hF := full_allC hc
  have hFl : (fullC cs).length ≤ 9 := by rw [full_len]; omega
  -- all pieces, the number
  show OkS (nsSeq _ _ ρ1) 200 _
  refine ok_seq (cf := 0) (cg := 200) (ok_set (alls_eq (by omega) hc v1 (by rw [k1]; decide)) ?_)
  have v3 : eV 3 (ρ1.set 3 (.d (.tuple (lsL (fullC cs))))) = some (.tuple (lsL (fullC cs))) := ev_same (by rw [k1]; decide)
  have v1 : eV 1 (ρ1.set 3 (.d (.tuple (lsL (fullC cs))))) = some (.tuple (nsL cs)) := (ev_ne (by decide)).trans v1
  have v2 : eV 2 (ρ1.set 3 (.d (.tuple (lsL (fullC cs))))) = some (.tuple (lsL cs)) := (ev_ne (by decide)).trans v2
  have k2 : (ρ1.set 3 (.d (.tuple (lsL (fullC cs))))).length = 21 := by simp [k1]
  generalize ρ1.set 3 (.d (.tuple (lsL (fullC cs)))) = ρ2 at k2 v1 v2 v3 ⊢
  have wo := worths_of_eq hFl hF
  rw [full_ns] at wo
  show OkS (nsSeq _ _ ρ2) 200 _
  refine ok_seq (cf := 0) (cg := 200) (ok_set (call1 (call2 v1 v3 wo) (put_by_bits_eq (fullC cs))) ?_)
  have hM : xorF 0 (fullC cs) < 8 := xorC_lt hF
  have eM : xorC (fullC cs) = xorF 0 (fullC cs) := rfl
  generalize xorF 0 (fullC cs) = M at hM eM ⊢
  have v4 : eV 4 (ρ2.set 4 (.d (iD M))) = some (iD M) := ev_same (by rw [k2]; decide)
  have v1 : eV 1 (ρ2.set 4 (.d (iD M))) = some (.tuple (nsL cs)) := (ev_ne (by decide)).trans v1
  have v2 : eV 2 (ρ2.set 4 (.d (iD M))) = some (.tuple (lsL cs)) := (ev_ne (by decide)).trans v2
  have k3 : (ρ2.set 4 (.d (iD M))).length = 21 := by simp [k2]
  generalize ρ2.set 4 (.d (iD M)) = ρ3 at k3 v1 v2 v4 ⊢
  -- the others
  show OkS (nsSeq _ _ ρ3) 200 _
  refine ok_seq (cf := (100 + 0) + 0) (cg := 100) (ok_par (Pa := fun a => ∃ ds : CS, AllC ds ∧ ds.length ≤ 2 ∧ a = .tuple (nsL ds)) (Pb := fun b => b = .list (nsQ cs)) (ok_n2 (Pb := fun b => b = .int 0) (ok_call (ds := [.int 2]) rfl (gn2 COMPS)) (ok_nP (d := .int 0) rfl rfl) fun a b ha hb => ?_) (ok_nP (call1 v1 (lists_O (by omega) hc)) rfl) fun a b ha hb => ?_)
  · subst hb
    obtain ⟨ds0, hds, rfl⟩ := List.mem_map.mp ha
    obtain ⟨d0, din⟩ := mem_seqsOf.mp hds
    obtain ⟨ds, dc, dl, dn, _⟩ := toCS ds0 din
    exact ⟨.tuple (ds0.map (·.1)), rfl, ds, dc, by omega, by rw [dn]⟩
  obtain ⟨ds, dc, dl, rfl⟩ := ha
  subst hb
  have v6 : eV 6 ((ρ3.set 5 (.d (.tuple (nsL ds)))).set 6 (.d (.list (nsQ cs)))) = some (.list (nsQ cs)) := ev_same (by rw [List.length_set, k3]; decide)
  have v5 : eV 5 ((ρ3.set 5 (.d (.tuple (nsL ds)))).set 6 (.d (.list (nsQ cs)))) = some (.tuple (nsL ds)) := (ev_ne (by decide)).trans (ev_same (by rw [k3]; decide))
  have v1 : eV 1 ((ρ3.set 5 (.d (.tuple (nsL ds)))).set 6 (.d (.list (nsQ cs)))) = some (.tuple (nsL cs)) := ((ev_ne (by decide)).trans (ev_ne (by decide))).trans v1
  have v2 : eV 2 ((ρ3.set 5 (.d (.tuple (nsL ds)))).set 6 (.d (.list (nsQ cs)))) = some (.tuple (lsL cs)) := ((ev_ne (by decide)).trans (ev_ne (by decide))).trans v2
  have v4 : eV 4 ((ρ3.set 5 (.d (.tuple (nsL ds)))).set 6 (.d (.list (nsQ cs)))) = some (iD M) := ((ev_ne (by decide)).trans (ev_ne (by decide))).trans v4
  have k4 : ((ρ3.set 5 (.d (.tuple (nsL ds)))).set 6 (.d (.list (nsQ cs)))).length = 21 := by simp [k3]
  generalize (ρ3.set 5 (.d (.tuple (nsL ds)))).set 6 (.d (.list (nsQ cs))) = ρ4 at k4 v1 v2 v4 v5 v6 ⊢
  have dF := full_allC dc
  have dFl : (fullC ds).length ≤ 9 := by rw [full_len]; omega
  have wo2 := worths_of_eq dFl dF
  rw [full_ns] at wo2
  show OkS (nsSeq _ _ ρ4) 100 _
  refine ok_seq (cf := 0) (cg := 100) (ok_set (call1 (call2 v5 (alls_eq (by omega) dc v5 (by rw [k4]; decide)) wo2) (put_by_bits_eq (fullC ds))) ?_)
  have eN : xorC (fullC ds) = xorF 0 (fullC ds) := rfl
  generalize xorF 0 (fullC ds) = M2 at eN ⊢
  have v7 : eV 7 (ρ4.set 7 (.d (iD M2))) = some (iD M2) := ev_same (by rw [k4]; decide)
  have v1 : eV 1 (ρ4.set 7 (.d (iD M2))) = some (.tuple (nsL cs)) := (ev_ne (by decide)).trans v1
  have v2 : eV 2 (ρ4.set 7 (.d (iD M2))) = some (.tuple (lsL cs)) := (ev_ne (by decide)).trans v2
  have v4 : eV 4 (ρ4.set 7 (.d (iD M2))) = some (iD M) := (ev_ne (by decide)).trans v4
  have v5 : eV 5 (ρ4.set 7 (.d (iD M2))) = some (.tuple (nsL ds)) := (ev_ne (by decide)).trans v5
  have v6 : eV 6 (ρ4.set 7 (.d (iD M2))) = some (.list (nsQ cs)) := (ev_ne (by decide)).trans v6
  have k5 : (ρ4.set 7 (.d (iD M2))).length = 21 := by simp [k4]
  generalize ρ4.set 7 (.d (iD M2)) = ρ5 at k5 v1 v2 v4 v5 v6 v7 ⊢
  -- what is got
  show OkS (nsSeq _ _ ρ5) 100 _
  obtain ⟨t, ht, td, tw, ts⟩ := chain_ex hM
  have hcT : AllC [(t, t.full)] := fun x hx => by obtain rfl := List.mem_singleton.mp hx; exact ⟨ht, (full_mem ht).1⟩
  have xT : xorC (fullC [(t, t.full)]) = M := by
    show 0 ^^^ t.w t.full = M
    rw [Nat.zero_xor, tw]
  have ch : d_l_chain [iD M] = some (chD M) := beqO_eq (chain_eq M (List.mem_range.mpr hM))
  have b1 := balance_eq (cs := cs) (O := .list (nsQ cs)) (by omega) hc (.inr rfl) (by rw [eM]; omega)
  rw [eM] at b1
  have b2 := are_eq (cs := cs) (ds := ds) (O := .tuple (nsL cs)) (P := .list (nsQ ds)) (by omega) hc (.inl rfl) (by omega) dc (.inr rfl)
  rw [eM, eN] at b2
  have b3 := are_eq (cs := cs) (ds := [(t, t.full)]) (O := .list (nsQ cs)) (P := .tuple [chD M]) (by omega) hc (.inr rfl) (show 1 ≤ 9 by decide) hcT (.inl (by show PyData.tuple [chD M] = .tuple [t.d]; rw [td]))
  rw [eM, xT, beq_self_eq_true] at b3
  have g := lst3 (call1 (f := fun ds => d_balance ds.reverse) v6 b1) (call2 (f := fun ds => d_are_balanced ds.reverse) (call1 v5 (lists_O (by omega) dc)) v1 b2) (call2 (f := fun ds => d_are_balanced ds.reverse) (tup1 (call1 v4 ch)) v6 b3)
  refine ok_seq (cf := 0) (cg := 100) (ok_set g ?_)
  have v8 : eV 8 (ρ5.set 8 (.d (.list [chD M, .bool (M == M2), .bool true]))) = some (.list [chD M, .bool (M == M2), .bool true]) := ev_same (by rw [k5]; decide)
  have v1 : eV 1 (ρ5.set 8 (.d (.list [chD M, .bool (M == M2), .bool true]))) = some (.tuple (nsL cs)) := (ev_ne (by decide)).trans v1
  have v2 : eV 2 (ρ5.set 8 (.d (.list [chD M, .bool (M == M2), .bool true]))) = some (.tuple (lsL cs)) := (ev_ne (by decide)).trans v2
  have v4 : eV 4 (ρ5.set 8 (.d (.list [chD M, .bool (M == M2), .bool true]))) = some (iD M) := (ev_ne (by decide)).trans v4
  have v7 : eV 7 (ρ5.set 8 (.d (.list [chD M, .bool (M == M2), .bool true]))) = some (iD M2) := (ev_ne (by decide)).trans v7
  have k6 : (ρ5.set 8 (.d (.list [chD M, .bool (M == M2), .bool true]))).length = 21 := by simp [k5]
  generalize ρ5.set 8 (.d (.list [chD M, .bool (M == M2), .bool true])) = ρ6 at k6 v1 v2 v4 v7 v8 ⊢
  have sw : (M2 == M) = (M == M2) := by
    by_cases h : M = M2
    · subst h; rfl
    · rw [beq_eq_false_iff_ne.mpr h, beq_eq_false_iff_ne.mpr (Ne.symm h)]
  have due := lst3 (ρ := ρ6) (call1 v4 ch) (e2_of v7 v4 (eq_ii M2 M)) (show eC (.bool true) ρ6 = some (.bool true) from rfl)
  rw [sw] at due
  have hb : (M == M2) ∈ [true, false] := by cases (M == M2) <;> simp
  have sm : d_l_same [.list [chD M, .bool (M == M2), .bool true], .list [chD M, .bool (M == M2), .bool true]] = some (.bool true) := beqO_eq (same_first M (List.mem_range.mpr hM) _ hb)
  show OkS (nsSeq _ _ ρ6) 100 _
  refine ok_seq (cf := 0) (cg := 100) (ok_if (notT (call2 v8 due sm)) (ok_nil ?_))
  -- the whole, lost
  have wo3 := worths_of_eq (cs := cs) (by omega) hc
  show OkS (nsSeq _ _ ρ6) 100 _
  refine ok_seq (cf := 0) (cg := 100) (ok_set (call1 (call2 v1 v2 wo3) (put_by_bits_eq cs)) ?_)
  have hX : xorF 0 cs < 8 := xorC_lt hc
  have eX : xorC cs = xorF 0 cs := rfl
  generalize xorF 0 cs = X at hX eX ⊢
  have v9 : eV 9 (ρ6.set 9 (.d (iD X))) = some (iD X) := ev_same (by rw [k6]; decide)
  have v1 : eV 1 (ρ6.set 9 (.d (iD X))) = some (.tuple (nsL cs)) := (ev_ne (by decide)).trans v1
  have v2 : eV 2 (ρ6.set 9 (.d (iD X))) = some (.tuple (lsL cs)) := (ev_ne (by decide)).trans v2
  have k7 : (ρ6.set 9 (.d (iD X))).length = 21 := by simp [k6]
  generalize ρ6.set 9 (.d (iD X)) = ρ7 at k7 v1 v2 v9 ⊢
  obtain ⟨u, hu, ud, uw, us⟩ := chain_ex hX
  have hcW : AllC (cs ++ [(u, u.full)]) := fun x hx => by
    rcases List.mem_append.mp hx with h | h
    · exact hc x h
    · obtain rfl := List.mem_singleton.mp h; exact ⟨hu, (full_mem hu).1⟩
  have xW : xorC (cs ++ [(u, u.full)]) = 0 := by
    have : xorC (cs ++ [(u, u.full)]) = xorC cs ^^^ u.w u.full := by
      show (cs ++ [(u, u.full)]).foldl (fun a c => a ^^^ wOf c) 0 = _
      rw [List.foldl_append]
      rfl
    rw [this, eX, uw, Nat.xor_self]
  have chX : d_l_chain [iD X] = some (chD X) := beqO_eq (chain_eq X (List.mem_range.mpr hX))
  have trX : gTupRg (iD X) = some (lD u.full) := by
    have := tupRg_size hu
    rw [us] at this
    exact this
  have t9 : e1 gTupRg (eV 9) ρ7 = some (lD u.full) := by
    unfold e1
    rw [v9]
    exact trX
  have nsW : gAdd (.tuple (nsL cs)) (.tuple [chD X]) = some (.tuple (nsL (cs ++ [(u, u.full)]))) := by
    have e : nsL (cs ++ [(u, u.full)]) = nsL cs ++ [chD X] := by simp [nsL, ud]
    rw [e]
    exact cat_tup (by simp [nsL]; omega)
  have lsW : gAdd (.tuple (lsL cs)) (.tuple [lD u.full]) = some (.tuple (lsL (cs ++ [(u, u.full)]))) := by
    have e : lsL (cs ++ [(u, u.full)]) = lsL cs ++ [lD u.full] := by simp [lsL]
    rw [e]
    exact cat_tup (by simp [lsL]; omega)
  have hlW : (cs ++ [(u, u.full)]).length ≤ 9 := by simp; omega
  generalize cs ++ [(u, u.full)] = cw at hcW xW nsW lsW hlW
  show OkS (nsSeq _ _ ρ7) 100 _
  refine ok_seq (cf := 0) (cg := 100) (ok_asg (Pe := fun x => x = .tuple [.tuple (nsL cw), .tuple (lsL cw)]) (ok_nP (tup2 (e2_of v1 (tup1 (call1 v9 chX)) nsW) (e2_of v2 (tup1 t9) lsW)) rfl) fun d hd => ?_)
  subst hd
  refine ⟨(ρ7.set 10 (.d (.tuple (nsL cw)))).set 11 (.d (.tuple (lsL cw))), rfl, ?_⟩
  have lap : Lap cw ((ρ7.set 10 (.d (.tuple (nsL cw)))).set 11 (.d (.tuple (lsL cw)))) := ⟨by simp [k7], (ev_ne (by decide)).trans (ev_same (by rw [k7]; decide)), ev_same (by rw [List.length_set, k7]; decide)⟩
  generalize (ρ7.set 10 (.d (.tuple (nsL cw)))).set 11 (.d (.tuple (lsL cw))) = ρ8 at lap ⊢
  show OkS (nsSeq _ _ ρ8) 100 _
  have L := laps hlW hcW xW (rgD 0 3) ρ8 lap
  have L2 : OkS (nsFor (iRg1 (eC (.int 3))) (gN 12) lapB ρ8) 3 (lapP cw) := L
  refine ok_weakS (ok_seq (cf := 3) (cg := 0) (ok_weakS L2 (Nat.le_refl _) fun o ho => ?_)) (by decide) fun o h => h
  cases o with
  | nx ρ9 => exact ok_ret (ok_nP (d := .bool true) rfl rfl)
  | rt d => exact congrArg Out.rt ho
end Ea
end
section
set_option Elab.async false
set_option linter.all false
set_option maxRecDepth 100000
set_option maxHeartbeats 400000
/-! EqZd: the promise of _law_right, in short -/
namespace Ea
open PySem PySem.Spec L2
open PyProof.Rows hiding St
def gn_l_right : List PyData → Option (List PyData × Nat)
  | [] => some ([.bool true], 1000)
  | _ => none
section
variable {P : Program} {w : World} {K : PySem.W.Frag} {mg : Str → Option Value} {base : Heap}
theorem okn_l_right {k : Nat} {f : Addr} {fd : FuncData} {ps : List Str} (F : FnOk P w K mg base CX0 k f fd ps (spN 0 g_l_right)) : FnOk P w K mg base CX0 k f fd ps (spN 0 gn_l_right) := spN_imp F fun ds l c h => by
  unfold gn_l_right at h
  split at h
  · cases h
    obtain ⟨l, c, e, hc, p⟩ := right_ok
    refine ⟨l.map outD, c, ?_, hc, fun d hd => ?_⟩
    · unfold g_l_right defN
      rw [if_pos (show ([] : List PyData).length = 0 from rfl), e]
      rfl
    · obtain ⟨o, ho, rfl⟩ := List.mem_map.mp hd
      rw [p o ho]
      exact .head _
  · cases h
end
end Ea
end
section
set_option Elab.async false
set_option linter.all false
set_option maxRecDepth 100000
set_option maxHeartbeats 4000000
namespace Ea
open PySem PySem.Spec L2
open PyProof.Rows hiding St
section
variable {P : Program} {w : World} {K : PySem.W.Frag} {mg : Str → Option Value} {base : Heap}
abbrev s_l_box : Stmt := topS 55
abbrev N_l_box : List Str := ["_law_script", "_law_k", "_law_bit_so"]
theorem sc_l_box : FnScope N_l_box ["_law_script", "_law_k"] (defScope s_l_box) := ⟨rfl, rfl, rfl, by decide +kernel, rfl, by decide +kernel, by decide +kernel⟩
def b_l_box : DS := (sSeq (sSet 2 (eIf (bO (e2 gLt (eV 1) (eCall gLen (aCons (eV 0) aNil)))) (e2 gIx (eV 0) (eV 1)) (eC (.int 0)))) (sRet (eLst (aCons (e2 gMul (eCall gAbs (aCons (eV 2) aNil)) (eCall gInt (aCons (e2 gGe (eCall gAbs (aCons (eV 2) aNil)) (e2 gPow (eC (.int 10)) (eC (.int 18)))) aNil))) (aCons (e2 gAdd (e2 gAdd (e2 gMod (eCall gInt (aCons (eV 2) aNil)) (eC (.int 2305843009213693951))) (e2 gMul (eC (.int 39373)) (eV 1))) (eC (.int 5323016))) (aCons (eC (.int 0)) aNil))))))
def d_l_box : List PyData → Option PyData := defD 2 3 b_l_box
theorem ok_l_box {f : Addr} {fd : FuncData} (F : Fun K "_law_box" "_law_box" s_l_box f fd) (T : Tp mg) : FnOk P w K mg base CX0 1 f fd ["_law_script", "_law_k"] (spP 2 d_l_box) :=
  okP (k := 0) (g := b_l_box) F sc_l_box rfl rfl (by decide) rfl fun cdv A outer s H E hr => (ss_cons (s_set (i := 2) sc_l_box.nd rfl (by first | exact Or.inl rfl | exact Or.inr rfl) (e_if (t_cmp oLt (v 1) (e_callB cLen rfl T.len PySem.boot_len (a_cons (v 0) a_nil))) (e_ix (v 0) (v 1)) e_int)) (ss_one (s_ret (e_lst (a_cons (e_op oMul (e_callB cAbs rfl T.abs boot_abs (a_cons (v 2) a_nil)) (e_callTy cInt rfl T.int PyProof.Rows.boot_int (a_cons (e_cmp oGe (e_callB cAbs rfl T.abs boot_abs (a_cons (v 2) a_nil)) (e_op oPow e_int e_int)) a_nil))) (a_cons (e_op oAdd (e_op oAdd (e_op oMod (e_callTy cInt rfl T.int PyProof.Rows.boot_int (a_cons (v 2) a_nil)) e_int) (e_op oMul e_int (v 1))) e_int) (a_cons e_int a_nil)))))))
abbrev s_l_by_hand_right : Stmt := topS 82
abbrev N_l_by_hand_right : List Str := ["_law_vee_so", "_law_cap_so", "_law_three_so", "_law_all_so", "_law_got", "_law_due", "_law_far_so", "_law_near_so", "_law_alls_so", "_law_nets", "_law_own", "_law_door"]
theorem sc_l_by_hand_right : FnScope N_l_by_hand_right [] (defScope s_l_by_hand_right) := ⟨rfl, rfl, rfl, by decide +kernel, rfl, by decide +kernel, by decide +kernel⟩
def b_l_by_hand_right : DS := (sSeq (sAsg (eTup (aCons (eTup (aCons (eC (.int 3)) (aCons (eTup (aCons (eTup (aCons (eC (.int 0)) (aCons (eC (.int 1)) aNil))) (aCons (eTup (aCons (eC (.int 0)) (aCons (eC (.int 2)) aNil))) aNil))) aNil))) (aCons (eTup (aCons (eC (.int 3)) (aCons (eTup (aCons (eTup (aCons (eC (.int 0)) (aCons (eC (.int 2)) aNil))) (aCons (eTup (aCons (eC (.int 1)) (aCons (eC (.int 2)) aNil))) aNil))) aNil))) (aCons (eTup (aCons (eC (.int 3)) (aCons (eTup (aCons (eTup (aCons (eC (.int 0)) (aCons (eC (.int 1)) aNil))) (aCons (eTup (aCons (eC (.int 1)) (aCons (eC (.int 2)) aNil))) aNil))) aNil))) (aCons (eTup (aCons (eC (.int 0)) (aCons (eC (.int 1)) (aCons (eC (.int 2)) aNil)))) aNil))))) (gTupD 4 (gsCons (gN 0) (gsCons (gN 1) (gsCons (gN 2) (gsCons (gN 3) gsNil)))))) (sSeq (sSetO 4 (eLst (aCons (eCall d_balance (aCons (eTup (aCons (eV 0) (aCons (eV 1) aNil))) aNil)) (aCons (eCall d_balance (aCons (eTup (aCons (eV 0) (aCons (eV 1) (aCons (eV 2) aNil)))) aNil)) (aCons (eCall d_balance (aCons (eTup (aCons (eV 0) aNil)) aNil)) (aCons (eCall d_balance (aCons (eTup aNil) aNil)) (aCons (eCall d_balance (aCons (eLst (aCons (eV 1) aNil)) aNil)) aNil))))))) (sSeq (sSet 5 (eLst (aCons (eV 2) (aCons (eTup (aCons (eC (.int 0)) (aCons (eTup aNil) aNil))) (aCons (eTup (aCons (eC (.int 1)) (aCons (eTup aNil) aNil))) (aCons (eTup (aCons (eC (.int 0)) (aCons (eTup aNil) aNil))) (aCons (eTup (aCons (eC (.int 2)) (aCons (eTup (aCons (eTup (aCons (eC (.int 0)) (aCons (eC (.int 1)) aNil))) aNil)) aNil))) aNil))))))) (sFrz 4 (sSeq (sSetO 4 (e2 gCat (eV 4) (eLst (aCons (eCall d_are_balanced (aCons (eTup (aCons (eV 0) (aCons (eV 1) aNil))) (aCons (eTup (aCons (eV 2) aNil)) aNil))) (aCons (eCall d_are_balanced (aCons (eTup (aCons (eV 0) aNil)) (aCons (eTup (aCons (eV 1) aNil)) aNil))) (aCons (eCall d_are_balanced (aCons (eTup aNil) (aCons (eTup aNil) aNil))) (aCons (eCall d_are_balanced (aCons (eTup aNil) (aCons (eTup (aCons (eTup (aCons (eC (.int 2)) (aCons (eTup aNil) aNil))) aNil)) aNil))) (aCons (eCall d_are_balanced (aCons (eLst (aCons (eV 1) aNil)) (aCons (eLst (aCons (eV 1) aNil)) aNil))) aNil)))))))) (sSeq (sSet 5 (e2 gAdd (eV 5) (eLst (aCons (eC (.bool true)) (aCons (eC (.bool false)) (aCons (eC (.bool true)) (aCons (eC (.bool true)) (aCons (eC (.bool true)) aNil)))))))) (sSeq (sPar 6 7 (eCall d_l_chain (aCons (eC (.int 60)) aNil)) (eCall d_l_chain (aCons (eC (.int 59)) aNil))) (sFrz 4 (sSeq (sSetO 4 (e2 gCat (eV 4) (eLst (aCons (eCall d_balance (aCons (eTup (aCons (eV 6) (aCons (eV 7) aNil))) aNil)) (aCons (eCall d_are_balanced (aCons (eTup (aCons (eV 6) aNil)) (aCons (eTup (aCons (eV 7) (aCons (eCall d_l_chain (aCons (eC (.int 7)) aNil)) aNil))) aNil))) aNil))))) (sSeq (sMut appD 4 (eCall d_l_heard (aCons (eC (.int 1)) (aCons (eTup (aCons (eV 7) (aCons (eV 7) aNil))) (aCons (eTup (aCons (e1 gTupRg (eC (.int 59))) (aCons (e1 gTupRg (eC (.int 59))) aNil))) (aCons (eC (.int 1)) (aCons (eC (.int 20)) aNil))))))) (sFrz 4 (sSeq (sSet 5 (e2 gAdd (eV 5) (eLst (aCons (eCall d_l_chain (aCons (eC (.int 7)) aNil)) (aCons (eC (.bool true)) (aCons (eTup (aCons (eC (.int 0)) (aCons (eC (.int 20)) aNil))) aNil)))))) (sSeq (sAsg (eTup (aCons (eTup (aCons (eV 3) (aCons (eV 3) (aCons (eV 3) aNil)))) (aCons (eTup (aCons (eV 0) (aCons (eV 1) (aCons (eV 2) aNil)))) aNil))) (gTupD 2 (gsCons (gN 8) (gsCons (gN 9) gsNil)))) (sSeq (sSetO 4 (e2 gCat (eV 4) (eLst (aCons (eCall d_l_heard (aCons (eC (.int 0)) (aCons (eV 9) (aCons (eV 8) (aCons (eC (.int 1)) (aCons (eC (.int 0)) aNil)))))) (aCons (eCall d_l_heard (aCons (eC (.int 0)) (aCons (eV 9) (aCons (eV 8) (aCons (eC (.int 0)) (aCons (eC (.int 0)) aNil)))))) (aCons (eCall d_l_heard (aCons (eC (.int 0)) (aCons (eV 9) (aCons (eV 8) (aCons (eC (.int 2)) (aCons (eC (.int 1)) aNil)))))) aNil)))))) (sFrz 4 (sSeq (sSet 5 (e2 gAdd (eV 5) (eLst (aCons (eTup (aCons (eV 3) (aCons (eTup (aCons (eC (.int 1)) aNil)) (aCons (eV 3) aNil)))) (aCons (eTup (aCons (eTup aNil) (aCons (eV 3) (aCons (eV 3) aNil)))) (aCons (eTup (aCons (eV 3) (aCons (eV 3) (aCons (eTup (aCons (eC (.int 0)) aNil)) aNil)))) aNil)))))) (sSeq (sSetO 4 (e2 gCat (eV 4) (eLc (iSeq (eTup (aCons (eTup (aCons (eC (.int 2)) (aCons (eC (.int 0)) aNil))) (aCons (eTup (aCons (eC (.int 0)) (aCons (eC (.int 1)) aNil))) (aCons (eTup (aCons (eC (.int 0)) (aCons (eC (.int 2)) aNil))) (aCons (eTup (aCons (eC (.int 2)) (aCons (eC (.int 1)) aNil))) (aCons (eTup (aCons (eC (.int 1)) (aCons (eC (.int 1)) aNil))) (aCons (eLst (aCons (eC (.int 2)) (aCons (eC (.int 0)) aNil))) (aCons (eC .none) aNil))))))))) [10] (gN 10) dYes (eCall d_is_answer_spot (aCons (eV 9) (aCons (eV 8) (aCons (eC (.int 1)) (aCons (eC (.int 0)) (aCons (eV 10) aNil))))))))) (sFrz 4 (sSeq (sSet 5 (e2 gAdd (eV 5) (eLst (aCons (eC (.bool true)) (aCons (eC (.bool true)) (aCons (eC (.bool true)) (aCons (eC (.bool false)) (aCons (eC (.bool false)) (aCons (eC (.bool false)) (aCons (eC (.bool false)) aNil)))))))))) (sSeq (sSetO 4 (e2 gCat (eV 4) (eLst (aCons (eCall d_l_heard (aCons (eC (.int 1)) (aCons (eTup (aCons (eV 2) (aCons (eV 2) aNil))) (aCons (eTup (aCons (eV 3) (aCons (eV 3) aNil))) (aCons (eC (.int 1)) (aCons (eC (.int 2)) aNil)))))) (aCons (eCall d_l_heard (aCons (eC (.int 1)) (aCons (eTup (aCons (eV 0) (aCons (eV 1) aNil))) (aCons (eTup (aCons (eV 3) (aCons (eV 3) aNil))) (aCons (eC (.int 0)) (aCons (eC (.int 0)) aNil)))))) (aCons (eCall d_l_heard (aCons (eC (.int 1)) (aCons (eTup (aCons (eV 0) (aCons (eV 0) aNil))) (aCons (eTup (aCons (eV 3) (aCons (eV 3) aNil))) (aCons (eC (.int 0)) (aCons (eC (.int 0)) aNil)))))) aNil)))))) (sFrz 4 (sSeq (sSet 5 (e2 gAdd (eV 5) (eLst (aCons (eTup (aCons (eC (.int 0)) (aCons (eC (.int 2)) aNil))) (aCons (eLst (aCons (eC (.str "can not")) (aCons (eC (.bool true)) aNil))) (aCons (eTup (aCons (eC (.int 1)) (aCons (eC (.int 0)) aNil))) aNil)))))) (sRet (eCall d_l_same (aCons (e2 gAdd (eV 4) (eLc (iSeq (eTup (aCons (eC (.int 0)) (aCons (eC (.int 1)) aNil)))) [11] (gN 11) dYes (eCall d_l_heard (aCons (eV 11) (aCons (eTup (aCons (eV 0) (aCons (eV 1) aNil))) (aCons (eTup (aCons (eTup (aCons (eC (.int 0)) aNil)) (aCons (eTup (aCons (eC (.int 0)) (aCons (eC (.int 1)) aNil))) aNil))) (aCons (eC (.int 0)) (aCons (eC (.int 2)) aNil)))))))) (aCons (e2 gAdd (eV 5) (e2 gMul (eLst (aCons (eLst (aCons (eC (.str "piece")) (aCons (eTup (aCons (eC (.int 0)) (aCons (eC (.int 2)) aNil))) (aCons (eC (.bool true)) aNil)))) aNil)) (eC (.int 2)))) aNil))))))))))))))))))))))))))
def d_l_by_hand_right : List PyData → Option PyData := defD 0 12 b_l_by_hand_right
theorem ok_l_by_hand_right {f : Addr} {fd : FuncData} (F : Fun K "_law_by_hand_right" "_law_by_hand_right" s_l_by_hand_right f fd) (T : Tp mg) (c_balance : CallD P w K mg base "balance" 12 1 d_balance) (c_are_balanced : CallD P w K mg base "are_balanced" 11 2 d_are_balanced) (c_l_chain : CallD P w K mg base "_law_chain" 1 1 d_l_chain) (c_l_heard : CallD P w K mg base "_law_heard" 14 5 d_l_heard) (c_is_answer_spot : CallD P w K mg base "is_answer_spot" 13 5 d_is_answer_spot) (c_l_same : CallD P w K mg base "_law_same" 8 2 d_l_same) : FnOk P w K mg base CX0 15 f fd [] (spP 0 d_l_by_hand_right) :=
  okP (k := 14) (g := b_l_by_hand_right) F sc_l_by_hand_right rfl rfl (by decide) rfl fun cdv A outer s H E hr => (ss_cons (s_asg (e_tup (a_cons (e_tup (a_cons e_int (a_cons (e_tup (a_cons (e_tup (a_cons e_int (a_cons e_int a_nil))) (a_cons (e_tup (a_cons e_int (a_cons e_int a_nil))) a_nil))) a_nil))) (a_cons (e_tup (a_cons e_int (a_cons (e_tup (a_cons (e_tup (a_cons e_int (a_cons e_int a_nil))) (a_cons (e_tup (a_cons e_int (a_cons e_int a_nil))) a_nil))) a_nil))) (a_cons (e_tup (a_cons e_int (a_cons (e_tup (a_cons (e_tup (a_cons e_int (a_cons e_int a_nil))) (a_cons (e_tup (a_cons e_int (a_cons e_int a_nil))) a_nil))) a_nil))) (a_cons (e_tup (a_cons e_int (a_cons e_int (a_cons e_int a_nil)))) a_nil))))) (g_tup rfl (gs_cons (g_name (i := 0) sc_l_by_hand_right.nd rfl (by first | exact Or.inl rfl | exact Or.inr rfl)) (gs_cons (g_name (i := 1) sc_l_by_hand_right.nd rfl (by first | exact Or.inl rfl | exact Or.inr rfl)) (gs_cons (g_name (i := 2) sc_l_by_hand_right.nd rfl (by first | exact Or.inl rfl | exact Or.inr rfl)) (gs_cons (g_name (i := 3) sc_l_by_hand_right.nd rfl (by first | exact Or.inl rfl | exact Or.inr rfl)) gs_nil)))))) (ss_cons (s_setO (i := 4) sc_l_by_hand_right.nd rfl (by first | exact Or.inl rfl | exact Or.inr rfl) (o_lst (a_cons (e_callD c_balance (hr.mono (by decide)) (fun _ _ h => defD_len h) rfl (a_cons (e_tup (a_cons (v 0) (a_cons (v 1) a_nil))) a_nil)) (a_cons (e_callD c_balance (hr.mono (by decide)) (fun _ _ h => defD_len h) rfl (a_cons (e_tup (a_cons (v 0) (a_cons (v 1) (a_cons (v 2) a_nil)))) a_nil)) (a_cons (e_callD c_balance (hr.mono (by decide)) (fun _ _ h => defD_len h) rfl (a_cons (e_tup (a_cons (v 0) a_nil)) a_nil)) (a_cons (e_callD c_balance (hr.mono (by decide)) (fun _ _ h => defD_len h) rfl (a_cons (e_tup a_nil) a_nil)) (a_cons (e_callD c_balance (hr.mono (by decide)) (fun _ _ h => defD_len h) rfl (a_cons (e_lst (a_cons (v 1) a_nil)) a_nil)) a_nil))))))) (ss_cons (s_set (i := 5) sc_l_by_hand_right.nd rfl (by first | exact Or.inl rfl | exact Or.inr rfl) (e_lst (a_cons (v 2) (a_cons (e_tup (a_cons e_int (a_cons (e_tup a_nil) a_nil))) (a_cons (e_tup (a_cons e_int (a_cons (e_tup a_nil) a_nil))) (a_cons (e_tup (a_cons e_int (a_cons (e_tup a_nil) a_nil))) (a_cons (e_tup (a_cons e_int (a_cons (e_tup (a_cons (e_tup (a_cons e_int (a_cons e_int a_nil))) a_nil)) a_nil))) a_nil))))))) (ss_frz (i := 4) (ss_cons (s_setO (i := 4) sc_l_by_hand_right.nd rfl (by first | exact Or.inl rfl | exact Or.inr rfl) (o_cat (v 4) (e_lst (a_cons (e_callD c_are_balanced (hr.mono (by decide)) (fun _ _ h => defD_len h) rfl (a_cons (e_tup (a_cons (v 0) (a_cons (v 1) a_nil))) (a_cons (e_tup (a_cons (v 2) a_nil)) a_nil))) (a_cons (e_callD c_are_balanced (hr.mono (by decide)) (fun _ _ h => defD_len h) rfl (a_cons (e_tup (a_cons (v 0) a_nil)) (a_cons (e_tup (a_cons (v 1) a_nil)) a_nil))) (a_cons (e_callD c_are_balanced (hr.mono (by decide)) (fun _ _ h => defD_len h) rfl (a_cons (e_tup a_nil) (a_cons (e_tup a_nil) a_nil))) (a_cons (e_callD c_are_balanced (hr.mono (by decide)) (fun _ _ h => defD_len h) rfl (a_cons (e_tup a_nil) (a_cons (e_tup (a_cons (e_tup (a_cons e_int (a_cons (e_tup a_nil) a_nil))) a_nil)) a_nil))) (a_cons (e_callD c_are_balanced (hr.mono (by decide)) (fun _ _ h => defD_len h) rfl (a_cons (e_lst (a_cons (v 1) a_nil)) (a_cons (e_lst (a_cons (v 1) a_nil)) a_nil))) a_nil)))))))) (ss_cons (s_set (i := 5) sc_l_by_hand_right.nd rfl (by first | exact Or.inl rfl | exact Or.inr rfl) (e_op oAdd (v 5) (e_lst (a_cons e_bl (a_cons e_bl (a_cons e_bl (a_cons e_bl (a_cons e_bl a_nil)))))))) (ss_cons (s_par (i := 6) (j := 7) rfl sc_l_by_hand_right.nd rfl rfl (by decide) rfl rfl (e_callD c_l_chain (hr.mono (by decide)) (fun _ _ h => defD_len h) rfl (a_cons e_int a_nil)) (e_callD c_l_chain (hr.mono (by decide)) (fun _ _ h => defD_len h) rfl (a_cons e_int a_nil)) rfl) (ss_frz (i := 4) (ss_cons (s_setO (i := 4) sc_l_by_hand_right.nd rfl (by first | exact Or.inl rfl | exact Or.inr rfl) (o_cat (v 4) (e_lst (a_cons (e_callD c_balance (hr.mono (by decide)) (fun _ _ h => defD_len h) rfl (a_cons (e_tup (a_cons (v 6) (a_cons (v 7) a_nil))) a_nil)) (a_cons (e_callD c_are_balanced (hr.mono (by decide)) (fun _ _ h => defD_len h) rfl (a_cons (e_tup (a_cons (v 6) a_nil)) (a_cons (e_tup (a_cons (v 7) (a_cons (e_callD c_l_chain (hr.mono (by decide)) (fun _ _ h => defD_len h) rfl (a_cons e_int a_nil)) a_nil))) a_nil))) a_nil))))) (ss_cons (s_append (pv 4) (e_callD c_l_heard (hr.mono (by decide)) (fun _ _ h => defD_len h) rfl (a_cons e_int (a_cons (e_tup (a_cons (v 7) (a_cons (v 7) a_nil))) (a_cons (e_tup (a_cons (e_tupRg rfl rfl T.tuple rfl T.range e_int) (a_cons (e_tupRg rfl rfl T.tuple rfl T.range e_int) a_nil))) (a_cons e_int (a_cons e_int a_nil))))))) (ss_frz (i := 4) (ss_cons (s_set (i := 5) sc_l_by_hand_right.nd rfl (by first | exact Or.inl rfl | exact Or.inr rfl) (e_op oAdd (v 5) (e_lst (a_cons (e_callD c_l_chain (hr.mono (by decide)) (fun _ _ h => defD_len h) rfl (a_cons e_int a_nil)) (a_cons e_bl (a_cons (e_tup (a_cons e_int (a_cons e_int a_nil))) a_nil)))))) (ss_cons (s_asg (e_tup (a_cons (e_tup (a_cons (v 3) (a_cons (v 3) (a_cons (v 3) a_nil)))) (a_cons (e_tup (a_cons (v 0) (a_cons (v 1) (a_cons (v 2) a_nil)))) a_nil))) (g_tup rfl (gs_cons (g_name (i := 8) sc_l_by_hand_right.nd rfl (by first | exact Or.inl rfl | exact Or.inr rfl)) (gs_cons (g_name (i := 9) sc_l_by_hand_right.nd rfl (by first | exact Or.inl rfl | exact Or.inr rfl)) gs_nil)))) (ss_cons (s_setO (i := 4) sc_l_by_hand_right.nd rfl (by first | exact Or.inl rfl | exact Or.inr rfl) (o_cat (v 4) (e_lst (a_cons (e_callD c_l_heard (hr.mono (by decide)) (fun _ _ h => defD_len h) rfl (a_cons e_int (a_cons (v 9) (a_cons (v 8) (a_cons e_int (a_cons e_int a_nil)))))) (a_cons (e_callD c_l_heard (hr.mono (by decide)) (fun _ _ h => defD_len h) rfl (a_cons e_int (a_cons (v 9) (a_cons (v 8) (a_cons e_int (a_cons e_int a_nil)))))) (a_cons (e_callD c_l_heard (hr.mono (by decide)) (fun _ _ h => defD_len h) rfl (a_cons e_int (a_cons (v 9) (a_cons (v 8) (a_cons e_int (a_cons e_int a_nil)))))) a_nil)))))) (ss_frz (i := 4) (ss_cons (s_set (i := 5) sc_l_by_hand_right.nd rfl (by first | exact Or.inl rfl | exact Or.inr rfl) (e_op oAdd (v 5) (e_lst (a_cons (e_tup (a_cons (v 3) (a_cons (e_tup (a_cons e_int a_nil)) (a_cons (v 3) a_nil)))) (a_cons (e_tup (a_cons (e_tup a_nil) (a_cons (v 3) (a_cons (v 3) a_nil)))) (a_cons (e_tup (a_cons (v 3) (a_cons (v 3) (a_cons (e_tup (a_cons e_int a_nil)) a_nil)))) a_nil)))))) (ss_cons (s_setO (i := 4) sc_l_by_hand_right.nd rfl (by first | exact Or.inl rfl | exact Or.inr rfl) (o_cat (v 4) (e_lc (own := [("_law_own", 10)]) rfl sc_l_by_hand_right.nd (i_seq (e_tup (a_cons (e_tup (a_cons e_int (a_cons e_int a_nil))) (a_cons (e_tup (a_cons e_int (a_cons e_int a_nil))) (a_cons (e_tup (a_cons e_int (a_cons e_int a_nil))) (a_cons (e_tup (a_cons e_int (a_cons e_int a_nil))) (a_cons (e_tup (a_cons e_int (a_cons e_int a_nil))) (a_cons (e_lst (a_cons e_int (a_cons e_int a_nil))) (a_cons e_non a_nil))))))))) (blkOk_by (own := [("_law_own", 10)]) (N := N_l_by_hand_right) (sc := defScope s_l_by_hand_right) (by decide +kernel)) (fun _ _ _ _ _ => (g_name (i := 10) sc_l_by_hand_right.nd rfl (by first | exact Or.inl rfl | exact Or.inr rfl))) (fun _ _ _ _ _ => ts_nil) (fun _ _ _ _ _ => (e_callD c_is_answer_spot (hr.mono (by decide)) (fun _ _ h => defD_len h) rfl (a_cons (v 9) (a_cons (v 8) (a_cons e_int (a_cons e_int (a_cons (v 10) a_nil)))))))))) (ss_frz (i := 4) (ss_cons (s_set (i := 5) sc_l_by_hand_right.nd rfl (by first | exact Or.inl rfl | exact Or.inr rfl) (e_op oAdd (v 5) (e_lst (a_cons e_bl (a_cons e_bl (a_cons e_bl (a_cons e_bl (a_cons e_bl (a_cons e_bl (a_cons e_bl a_nil)))))))))) (ss_cons (s_setO (i := 4) sc_l_by_hand_right.nd rfl (by first | exact Or.inl rfl | exact Or.inr rfl) (o_cat (v 4) (e_lst (a_cons (e_callD c_l_heard (hr.mono (by decide)) (fun _ _ h => defD_len h) rfl (a_cons e_int (a_cons (e_tup (a_cons (v 2) (a_cons (v 2) a_nil))) (a_cons (e_tup (a_cons (v 3) (a_cons (v 3) a_nil))) (a_cons e_int (a_cons e_int a_nil)))))) (a_cons (e_callD c_l_heard (hr.mono (by decide)) (fun _ _ h => defD_len h) rfl (a_cons e_int (a_cons (e_tup (a_cons (v 0) (a_cons (v 1) a_nil))) (a_cons (e_tup (a_cons (v 3) (a_cons (v 3) a_nil))) (a_cons e_int (a_cons e_int a_nil)))))) (a_cons (e_callD c_l_heard (hr.mono (by decide)) (fun _ _ h => defD_len h) rfl (a_cons e_int (a_cons (e_tup (a_cons (v 0) (a_cons (v 0) a_nil))) (a_cons (e_tup (a_cons (v 3) (a_cons (v 3) a_nil))) (a_cons e_int (a_cons e_int a_nil)))))) a_nil)))))) (ss_frz (i := 4) (ss_cons (s_set (i := 5) sc_l_by_hand_right.nd rfl (by first | exact Or.inl rfl | exact Or.inr rfl) (e_op oAdd (v 5) (e_lst (a_cons (e_tup (a_cons e_int (a_cons e_int a_nil))) (a_cons (e_lst (a_cons e_str (a_cons e_bl a_nil))) (a_cons (e_tup (a_cons e_int (a_cons e_int a_nil))) a_nil)))))) (ss_one (s_ret (e_callD c_l_same (hr.mono (by decide)) (fun _ _ h => defD_len h) rfl (a_cons (e_op oAdd (v 4) (e_lc (own := [("_law_door", 11)]) rfl sc_l_by_hand_right.nd (i_seq (e_tup (a_cons e_int (a_cons e_int a_nil)))) (blkOk_by (own := [("_law_door", 11)]) (N := N_l_by_hand_right) (sc := defScope s_l_by_hand_right) (by decide +kernel)) (fun _ _ _ _ _ => (g_name (i := 11) sc_l_by_hand_right.nd rfl (by first | exact Or.inl rfl | exact Or.inr rfl))) (fun _ _ _ _ _ => ts_nil) (fun _ _ _ _ _ => (e_callD c_l_heard (hr.mono (by decide)) (fun _ _ h => defD_len h) rfl (a_cons (v 11) (a_cons (e_tup (a_cons (v 0) (a_cons (v 1) a_nil))) (a_cons (e_tup (a_cons (e_tup (a_cons e_int a_nil)) (a_cons (e_tup (a_cons e_int (a_cons e_int a_nil))) a_nil))) (a_cons e_int (a_cons e_int a_nil))))))))) (a_cons (e_op oAdd (v 5) (e_op oMul (e_lst (a_cons (e_lst (a_cons e_str (a_cons (e_tup (a_cons e_int (a_cons e_int a_nil))) (a_cons e_bl a_nil)))) a_nil)) e_int)) a_nil)))))))))))))))))))))))))))
end
end Ea
end
section
set_option Elab.async false
set_option linter.all false
set_option maxRecDepth 100000
set_option maxHeartbeats 4000000
/-! EaN: list(x), and (fresh list) or (fresh list), as fresh objects that stay owned -/
namespace Ea
open PySem PySem.Spec L2
open PyProof.Rows hiding St
section
variable {X : Cx} {e a b c : Expr} {pos : Pos}
theorem o_list {x : Str} {p : Pos} {fs : DA} (hg : Gl X x) (hm : X.mg x = none) (hv : bootBuiltins x = some (.type "list")) (ha : PA X [e] (tA fs))
    (hn : x ≠ "__name__" := by decide) (hdb : (x == ("__debug__" : Str)) = false := by decide) (he : starEach [e] X.env = (false, eval e X.env) :: starEach [] X.env := by rfl) (hpl : (backTo pos (starEach [] X.env)).any (·.1) = false := by rfl) : PE X (.Call (.Name x p) [e] [] pos) (tO (eCall gList fs)) :=
  (pe_callTy call_list_of hg hm hv ha hn hdb he hpl).imp fun σ H Q ⟨F, ρ, d, s, r, q, k⟩ => by
    obtain ⟨ds, hd, q⟩ := Option.bind_eq_some_iff.mp q
    refine ⟨F, ρ, ds, s, r, hd, fun vs F1 H1 x1 r1 => ?_⟩
    unfold gList at q
    split at q
    · obtain ⟨v, rfl, rv⟩ := r1.one
      cases q
      cases rv with | lst e1 t1 =>
      exact ⟨_, _, rfl, .inl (SqL.of (x1.fh _ _ e1)), fun p hp => k p F1 _ (x1.trans (Ext.fresh x1.fh hp)) (x1.fh.noneL hp) (x1.hh.free hp) ⟨_, upd_same, t1⟩⟩
    · obtain ⟨v, rfl, rv⟩ := r1.one
      cases q
      cases rv with | tup e1 t1 =>
      exact ⟨_, _, rfl, .inr (SqT.of (x1.fh _ _ e1)), fun p hp => k p F1 _ (x1.trans (Ext.fresh x1.fh hp)) (x1.fh.noneL hp) (x1.hh.free hp) ⟨_, upd_same, t1⟩⟩
    · cases q
def eOrL (f g : DE) : DE := fun ρ => (f ρ).bind fun d => match d with | .list [] => g ρ | .list (x :: xs) => some (.list (x :: xs)) | _ => none
theorem o_orL {fa fb : DE} (ha : PE X a (tO fa)) (hb : PE X b (tO fb)) : PE X (.BoolOp .Or [a, b] pos) (tO (eOrL fa fb)) :=
  (pe_orT ha (pe_one hb)).imp fun σ H Q ⟨F, ρ, d, s, r, q, k⟩ => by
    obtain ⟨da, hda, q⟩ := Option.bind_eq_some_iff.mp q
    refine ⟨F, ρ, da, s, r, hda, fun p F1 H1 x1 n m o => ?_⟩
    split at q
    · obtain ⟨xs, e1, t1⟩ := o
      cases t1
      exact ⟨false, .inl ⟨[], SqL.of e1, rfl⟩, ⟨F1, ρ, d, x1.fh, r.ext x1, q, fun p2 F2 H2 x2 n2 m2 o2 => k p2 F2 H2 (x1.trans x2) n2 (x1.hh.free m2) o2⟩⟩
    · cases q
      have o' := o
      obtain ⟨xs, e1, t1⟩ := o'
      cases t1 with | cons t2 t3 =>
      exact ⟨true, .inl ⟨_, SqL.of e1, rfl⟩, k p F1 H1 x1 n m o⟩
    · cases q
end
end Ea
end
section
set_option Elab.async false
set_option linter.all false
set_option maxRecDepth 100000
set_option maxHeartbeats 4000000
namespace Ea
open PySem PySem.Spec L2
open PyProof.Rows hiding St
section
variable {P : Program} {w : World} {K : PySem.W.Frag} {mg : Str → Option Value} {base : Heap}
abbrev s_l_cells : Stmt := topS 57
abbrev N_l_cells : List Str := ["_law_script", "_law_most_so", "_law_cells_so", "_law_k", "_law_bit_so", "_law_at_so"]
theorem sc_l_cells : FnScope N_l_cells ["_law_script", "_law_most_so"] (defScope s_l_cells) := ⟨rfl, rfl, rfl, by decide +kernel, rfl, by decide +kernel, by decide +kernel⟩
def b_l_cells : DS := (sSeq (sSetO 2 (eOrL (eCall gList (aCons (eCut (eV 0) pNo (pSome (eV 1))) aNil)) (eLst (aCons (eC (.int 0)) aNil)))) (sSeq (sFor (iEnumD (eCut (eV 0) (pSome (eV 1)) (pSome (eC (.int 63))))) (gTupD 2 (gsCons (gN 3) (gsCons (gN 4) gsNil))) (sSeq (sSet 5 (e2 gMod (eCall gInt (aCons (eV 3) aNil)) (eV 1))) (sSetIx 2 (e2 gAdd (eIxO 2 (eV 5)) (e2 gMul (eV 4) (e2 gAdd (eV 3) (eC (.int 2))))) (eV 5)))) (sFrz 2 (sRet (eV 2)))))
def d_l_cells : List PyData → Option PyData := defD 2 6 b_l_cells
theorem ok_l_cells {f : Addr} {fd : FuncData} (F : Fun K "_law_cells" "_law_cells" s_l_cells f fd) (T : Tp mg) : FnOk P w K mg base CX0 1 f fd ["_law_script", "_law_most_so"] (spP 2 d_l_cells) :=
  okP (k := 0) (g := b_l_cells) F sc_l_cells rfl rfl (by decide) rfl fun cdv A outer s H E hr => (ss_cons (s_setO (i := 2) sc_l_cells.nd rfl (by first | exact Or.inl rfl | exact Or.inr rfl) (o_orL (o_list rfl T.list PyProof.Rows.boot_list (a_cons (e_cut (v 0) p_no (p_some (v 1))) a_nil)) (o_lst (a_cons e_int a_nil)))) (ss_cons (s_for PassesOwn.never rfl (i_enum rfl T.enum (e_cut (v 0) (p_some (v 1)) (p_some e_int))) (g_tup rfl (gs_cons (g_name (i := 3) sc_l_cells.nd rfl (by first | exact Or.inl rfl | exact Or.inr rfl)) (gs_cons (g_name (i := 4) sc_l_cells.nd rfl (by first | exact Or.inl rfl | exact Or.inr rfl)) gs_nil))) (ss_cons (s_set (i := 5) sc_l_cells.nd rfl (by first | exact Or.inl rfl | exact Or.inr rfl) (e_op oMod (e_callTy cInt rfl T.int PyProof.Rows.boot_int (a_cons (v 3) a_nil)) (v 1))) (ss_one (s_setIx (pv 2) (v 5) (e_op oAdd (e_ixO (pv 2) (v 5)) (e_op oMul (v 4) (e_op oAdd (v 3) e_int))))))) (ss_frz (i := 2) (ss_one (s_ret (v 2))))))
end
end Ea
end
section
set_option Elab.async false
set_option linter.all false
set_option maxRecDepth 100000
set_option maxHeartbeats 4000000
/-! EaO: the script's own list (frozen or the module's) stands in slot 0; slices of it -/
namespace Ea
open PySem PySem.Spec L2
open PyProof.Rows hiding St
def emp : Hp := fun _ => none
theorem emp_same (F : Hp) : Same emp F := fun b o e => nomatch e
theorem sqL_keep {K : PySem.W.Frag} {H H' : Hp} {a : Addr} {xs : List V} (h : SqL K H a xs) (s : Same H H') : SqL K H' a xs := by
  rcases h with (h | ⟨o, h⟩) | h
  · exact .inl (.inl (s _ _ h))
  · exact .inl (.inr ⟨o, s _ _ h⟩)
  · exact .inr h
def Scr (K : PySem.W.Frag) (xs : List PyData) (σ : St) (H : Hp) : Prop := ∃ a vs, σ[0]? = some (some (.ref a)) ∧ SqL K H a vs ∧ RpL emp vs xs
abbrev SP := St → Hp → Prop
def tES (S : SP) (f : DE) : TE := fun σ H Q => S σ H ∧ tE f σ H Q
def tOS (S : SP) (f : DE) : TE := fun σ H Q => S σ H ∧ tO f σ H Q
def tAS (S : SP) (f : DA) : TA := fun σ H Q => S σ H ∧ tA f σ H Q
def tIS (S : SP) (f : DI) : TI := fun σ H R => S σ H ∧ tI f σ H R
def tSS (S : SP) (f : DS) : TS := fun D σ H => S σ H ∧ tS f D σ H
section
variable {X : Cx} {e a b c tg iter : Expr} {pos : Pos} {S : SP}
def eCutC (xs : List PyData) (fl fh : DP) : DE := fun ρ => (fl ρ).bind fun lo => (fh ρ).bind fun hi => some (.list (cutD xs lo hi))
theorem x_cut {xs : List PyData} {lo hi : Option Expr} {p2 : Pos} {fl fh : DP} (h0 : PE X a (tVar 0)) (hl : PO X lo (tPD fl)) (hh : PO X hi (tPD fh)) : PE X (.Subscript a (.Slice lo hi none p2) pos) (tES (Scr X.K xs) (eCutC xs fl fh)) :=
  (pe_slice sl_list h0 hl hh).imp fun σ H Q ⟨⟨a, vs, e0, hs, r0⟩, F, ρ, d, s, r, q, k⟩ => by
    unfold eCutC at q
    obtain ⟨l, hl, q⟩ := Option.bind_eq_some_iff.mp q
    obtain ⟨h, hh, q⟩ := Option.bind_eq_some_iff.mp q
    cases q
    refine ⟨.ref a, e0, F, ρ, l, s, r, hl, fun F2 H2 x2 => ⟨F2, ρ, h, x2.fh, r.ext x2, hh, fun F3 H3 x3 => ?_⟩⟩
    exact ⟨a, vs, rfl, sqL_keep (sqL_keep hs x2.hh) x3.hh, fun p hp => k _ _ _ ((x2.trans x3).trans (Ext.alloc x3.fh hp)) (.lst upd_same ((r0.cut l h).mono (emp_same _)))⟩
theorem x_one {f : DE} (ha : PE X a (tES S f)) (hs : starEach [a] X.env = (false, eval a X.env) :: starEach [] X.env := by rfl) : PA X [a] (tAS S (aCons f aNil)) :=
  (pa_cons ha pa_nil hs).imp fun σ H Q ⟨hS, F, ρ, ds, s, r, q, k⟩ => by
    unfold aCons at q
    obtain ⟨d, hd, q⟩ := Option.bind_eq_some_iff.mp q
    cases q
    exact ⟨hS, F, ρ, d, s, r, hd, fun v F1 H1 x1 r1 => k _ F1 H1 x1 (.cons r1 .nil)⟩
theorem x_list {x : Str} {p : Pos} {fs : DA} (hg : Gl X x) (hm : X.mg x = none) (hv : bootBuiltins x = some (.type "list")) (ha : PA X [e] (tAS S fs))
    (hn : x ≠ "__name__" := by decide) (hdb : (x == ("__debug__" : Str)) = false := by decide) (he : starEach [e] X.env = (false, eval e X.env) :: starEach [] X.env := by rfl) (hpl : (backTo pos (starEach [] X.env)).any (·.1) = false := by rfl) : PE X (.Call (.Name x p) [e] [] pos) (tOS S (eCall gList fs)) :=
  (pe_callTy call_list_of hg hm hv ha hn hdb he hpl).imp fun σ H Q ⟨hS, F, ρ, d, s, r, q, k⟩ => by
    obtain ⟨ds, hd, q⟩ := Option.bind_eq_some_iff.mp q
    refine ⟨hS, F, ρ, ds, s, r, hd, fun vs F1 H1 x1 r1 => ?_⟩
    unfold gList at q
    split at q
    · obtain ⟨v, rfl, rv⟩ := r1.one
      cases q
      cases rv with | lst e1 t1 =>
      exact ⟨_, _, rfl, .inl (SqL.of (x1.fh _ _ e1)), fun p hp => k p F1 _ (x1.trans (Ext.fresh x1.fh hp)) (x1.fh.noneL hp) (x1.hh.free hp) ⟨_, upd_same, t1⟩⟩
    · obtain ⟨v, rfl, rv⟩ := r1.one
      cases q
      cases rv with | tup e1 t1 =>
      exact ⟨_, _, rfl, .inr (SqT.of (x1.fh _ _ e1)), fun p hp => k p F1 _ (x1.trans (Ext.fresh x1.fh hp)) (x1.fh.noneL hp) (x1.hh.free hp) ⟨_, upd_same, t1⟩⟩
    · cases q
theorem x_orL {fa fb : DE} (ha : PE X a (tOS S fa)) (hb : PE X b (tO fb)) : PE X (.BoolOp .Or [a, b] pos) (tOS S (eOrL fa fb)) :=
  (pe_orT ha (pe_one hb)).imp fun σ H Q ⟨hS, F, ρ, d, s, r, q, k⟩ => by
    obtain ⟨da, hda, q⟩ := Option.bind_eq_some_iff.mp q
    refine ⟨hS, F, ρ, da, s, r, hda, fun p F1 H1 x1 n m o => ?_⟩
    split at q
    · obtain ⟨xs, e1, t1⟩ := o
      cases t1
      exact ⟨false, .inl ⟨[], SqL.of e1, rfl⟩, ⟨F1, ρ, d, x1.fh, r.ext x1, q, fun p2 F2 H2 x2 n2 m2 o2 => k p2 F2 H2 (x1.trans x2) n2 (x1.hh.free m2) o2⟩⟩
    · cases q
      have o' := o
      obtain ⟨xs, e1, t1⟩ := o'
      cases t1 with | cons t2 t3 =>
      exact ⟨true, .inl ⟨_, SqL.of e1, rfl⟩, k p F1 H1 x1 n m o⟩
    · cases q
/-- x = a fresh object; what stood before still stands -/
theorem x_setO {i : Nat} {x : Str} {pos' : Pos} {f : DE} (hN : X.N.Nodup) (hi : X.N[i]? = some x) (hx : Loc X.env.scope x) (he : PE X e (tOS S f)) (hs : swapsWith e (some (.Name x pos')) pos.line X.env = pure false := by rfl) (hf : X.fn x = true ∨ X.env.scope.names.lookup x = some .local := by first | exact .inl rfl | exact .inr rfl | assumption) :
    PS X (.Assign [.Name x pos'] e pos) (fun D σ H => S σ H ∧ ∃ F0 H0 F ρ d, StR F0 H0 ρ F σ H ∧ f ρ = some d ∧ ∀ p F' H', Same H H' → StR F0 H0 (ρ.set i (.o d)) F' (σ.set i (some (.ref p))) H' → D.nx (σ.set i (some (.ref p))) H') := (ps_set hN hi hx he hs hf).imp fun D σ H ⟨hS, F0, H0, F, ρ, d, s, hd, k⟩ =>
  ⟨hS, F, ρ, d, s.fh, s.env, hd, fun p F' H' x n m o => k p F' H' x.hh (s.setO x n m o)⟩
theorem x_enum {p tpos : Pos} {elts : List Expr} {kk : Nat} {f : DE} (hg : Gl X "enumerate") (hm : X.mg "enumerate" = none) (ha : PE X a (tES S f)) (hs : starEach [a] X.env = [(false, eval a X.env)] := by rfl) : PI X (.Tuple elts kk tpos) (.Call (.Name "enumerate" p) [a] [] pos) (tIS S (iEnumD f)) :=
  ((pi_enum hg hm (pa_cons ha pa_nil hs) hs).or (pi_enumT hg hm (pa_cons ha pa_nil hs) hs)).imp fun σ H R ⟨hS, F, ρ, xs, s, r, q, k⟩ => by
    obtain ⟨d, hd, q⟩ := Option.bind_eq_some_iff.mp q
    obtain ⟨ys, hy, q⟩ := Option.map_eq_some_iff.mp q
    subst q
    unfold seqD at hy
    split at hy
    · cases hy
      refine .inl ⟨hS, F, ρ, _, s, r, hd, fun x F1 H1 x1 r1 => ?_⟩
      cases r1 with | lst e1 t1 =>
      exact ⟨_, _, rfl, SqL.of (x1.fh _ _ e1), k _ F1 H1 x1 (walkD_enum e1 t1)⟩
    · cases hy
      refine .inr ⟨hS, F, ρ, _, s, r, hd, fun x F1 H1 x1 r1 => ?_⟩
      cases r1 with | tup e1 t1 =>
      exact ⟨_, _, rfl, SqT.of (x1.fh _ _ e1), k _ F1 H1 x1 (walkD_enumT e1 t1)⟩
    · cases hy
theorem x_for {body : List Stmt} {vs : List Nat} {fi : DI} {g : DG} {fb : DS} (hp : PassesOwn (model X.prog X.w) X.A X.env X.xe) (hc : X.calm = true) (hi : PI X tg iter (tIS S fi)) (hg : PG X tg (tG vs g)) (hb : PSs X body (tS fb))
    (hs : ∀ x, foldedSetIterable iter X.env x = pure x := by intro _; rfl) : PS X (.For tg iter body [] pos) (tSS S (sFor fi g fb)) := (ps_for hp hc hi hg hb hs).imp fun D σ H ⟨hS, F0, H0, F, ρ, out, s, q, k, _⟩ => by
  obtain ⟨xs, hx, q⟩ := Option.bind_eq_some_iff.mp q
  obtain ⟨ρ', hg, q⟩ := Option.map_eq_some_iff.mp q
  subst q
  refine ⟨hS, F, ρ, xs, s.fh, s.env, hx, fun J F1 H1 x1 W => ?_⟩
  refine for_it (J := J) (n := xs.length) (G := fun H => ∃ F2, Same F1 F2 ∧ Same F2 H) (Y := fun i H x H' => ∀ F2, Same F1 F2 → Same F2 H → ∃ F' d, Ext F2 H F' H' ∧ xs[i]? = some d ∧ Rp F' x d)
    ⟨fun i H hi ⟨F2, s1, s2⟩ => W.goes i H hi (s1.trans s2), fun H ⟨F2, s1, s2⟩ => W.stops H (s1.trans s2), fun i H x H' hi _ y F2 s1 s2 => W.yields i F2 H x H' hi s1 s2 y⟩
    (fun i σ' H' => ∃ F2 ρ2, StR F0 H0 ρ2 F2 σ' H' ∧ Same F1 F2 ∧ forGo g fb (xs.drop i) ρ2 = some ρ')
    ⟨F1, ρ, s.ext x1, Same.refl _, hg⟩ (fun i σ' H' _ ⟨F2, ρ2, s2, s1, _⟩ => ⟨F2, s1, s2.fh⟩) ?_ ?_
  · rintro i x σ2 H2 H3 hi ⟨F2, ρ2, s2, s12, hgo⟩ hY
    obtain ⟨F3, d, x3, hd, rd⟩ := hY F2 s12 s2.fh
    have hdr : xs.drop i = d :: xs.drop (i + 1) := by
      rw [List.drop_eq_getElem_cons hi]
      have := List.getElem?_eq_getElem hi
      rw [hd] at this
      cases this; rfl
    rw [hdr] at hgo
    unfold forGo at hgo
    split at hgo
    · cases hgo
    · rename_i ρ3 h3
      split at hgo
      · rename_i ρ4 h4
        have s3 := s2.ext x3
        refine ⟨F3, ρ2, d, ρ3, x3.fh, s3.env, rd, h3, fun σ4 r4 agr => ?_⟩
        have s3' := s3.agr r4 agr
        refine ⟨F3, H0, F3, ρ3, _, s3'.rebase, h4, fun ρ5 e F5 σ5 H5 s5 => ?_, fun d e => by cases e⟩
        cases e
        exact ⟨F5, ρ4, s3'.back s5, s12.trans (x3.ff.trans s5.ff), hgo⟩
      · cases hgo
  · rintro σ2 H2 ⟨F2, ρ2, s2, _, hgo⟩
    rw [List.drop_length] at hgo
    cases hgo
    exact k ρ' rfl F2 σ2 H2 s2
end
end Ea
end
section
set_option Elab.async false
set_option linter.all false
set_option maxRecDepth 100000
set_option maxHeartbeats 4000000
/-! EqC: _law_cells walked, the script being what the machine hands in -/
namespace Ea
open PySem PySem.Spec L2
open PyProof.Rows hiding St
def cA (ds : List PyData) : DE := eOrL (eCall gList (aCons (eCutC ds pNo (pSome (eV 1))) aNil)) (eLst (aCons (eC (.int 0)) aNil))
def cB : DS := (sSeq (sSet 5 (e2 gMod (eCall gInt (aCons (eV 3) aNil)) (eV 1))) (sSetIx 2 (e2 gAdd (eIxO 2 (eV 5)) (e2 gMul (eV 4) (e2 gAdd (eV 3) (eC (.int 2))))) (eV 5)))
def cF (ds : List PyData) : DS := (sFor (iEnumD (eCutC ds (pSome (eV 1)) (pSome (eC (.int 63))))) (gTupD 2 (gsCons (gN 3) (gsCons (gN 4) gsNil))) cB)
def cR : DS := sFrz 2 (sRet (eV 2))
def c0 : En := [.no, .d (.int 1), .no, .no, .no, .no]
def spC (K : PySem.W.Frag) : Sp := fun vs H Q _ => ∃ a us ds d1 ρ2 d, vs = [.ref a, .int 1] ∧ SqL K H a us ∧ RpL emp us ds ∧ cA ds c0 = some d1 ∧ cF ds (c0.set 2 (.o d1)) = some (.nx ρ2) ∧ cR ρ2 = some (.rt d) ∧
  ∀ v F' H', Same F' H' → Same H H' → Rp F' v d → Q v H'
section
variable {P : Program} {w : World} {K : PySem.W.Frag} {mg : Str → Option Value} {base : Heap}
theorem x_cells {f : Addr} {fd : FuncData} (F : Fun K "_law_cells" "_law_cells" s_l_cells f fd) (T : Tp mg) : FnOk P w K mg base CX0 1 f fd ["_law_script", "_law_most_so"] (spC K) := by
  refine F.ok (k := 0) sc_l_cells (fun vs H Q E h => ?_) (fun cdv A outer s H vs Q E hr h => ?_)
  · obtain ⟨a, us, ds, d1, ρ2, d, e, _⟩ := h
    subst e; rfl
  · obtain ⟨a, us, ds, d1, ρ2, d, e, hs, hu, h1, h2, h3, k⟩ := h
    subst e
    refine ⟨_, pss_cons (x_setO (S := Scr K ds) (f := cA ds) (i := 2) sc_l_cells.nd rfl (by first | exact Or.inl rfl | exact Or.inr rfl) (x_orL (x_list rfl T.list PyProof.Rows.boot_list (x_one (x_cut (pv 0) p_no (p_some (v 1))))) (o_lst (a_cons e_int a_nil))))
      (pss_cons (x_for (S := Scr K ds) PassesOwn.never rfl (x_enum rfl T.enum (x_cut (pv 0) (p_some (v 1)) (p_some e_int))) (g_tup rfl (gs_cons (g_name (i := 3) sc_l_cells.nd rfl (by first | exact Or.inl rfl | exact Or.inr rfl)) (gs_cons (g_name (i := 4) sc_l_cells.nd rfl (by first | exact Or.inl rfl | exact Or.inr rfl)) gs_nil))) (ss_cons (s_set (i := 5) sc_l_cells.nd rfl (by first | exact Or.inl rfl | exact Or.inr rfl) (e_op oMod (e_callTy cInt rfl T.int PyProof.Rows.boot_int (a_cons (v 3) a_nil)) (v 1))) (ss_one (s_setIx (pv 2) (v 5) (e_op oAdd (e_ixO (pv 2) (v 5)) (e_op oMul (v 4) (e_op oAdd (v 3) e_int)))))))
      (ss_frz (i := 2) (ss_one (s_ret (v 2))))), ?_⟩
    have hr : EnvR emp H (L2.start N_l_cells [.ref a, .int 1]) c0 := by
      refine ⟨rfl, fun {i s} e => ?_⟩
      match i, e with
      | 0, e => cases e; exact ⟨_, rfl, trivial⟩
      | 1, e => cases e; exact ⟨_, rfl, _, rfl, .int 1⟩
      | 2, e => cases e; exact ⟨_, rfl, trivial⟩
      | 3, e => cases e; exact ⟨_, rfl, trivial⟩
      | 4, e => cases e; exact ⟨_, rfl, trivial⟩
      | 5, e => cases e; exact ⟨_, rfl, trivial⟩
      | n + 6, e => cases e
    have st : StR emp H c0 emp (L2.start N_l_cells [.ref a, .int 1]) H := StR.start (emp_same _) hr fun i s e => by
      match i, e with
      | 0, e => cases e; exact .inr rfl
      | 1, e => cases e; exact .inl ⟨_, rfl⟩
      | 2, e => cases e; exact .inr rfl
      | 3, e => cases e; exact .inr rfl
      | 4, e => cases e; exact .inr rfl
      | 5, e => cases e; exact .inr rfl
      | n + 6, e => cases e
    refine ⟨⟨a, us, rfl, hs, hu⟩, emp, H, emp, c0, d1, st, h1, fun p F1 H1 hh st1 => ?_⟩
    refine ⟨⟨a, us, rfl, sqL_keep hs hh, hu⟩, emp, H, F1, _, _, st1, h2, fun ρ' e F2 σ2 H2 st2 => ?_, (fun d e => nomatch e)⟩
    cases e
    exact ⟨emp, H, F2, _, _, st2, h3, (fun ρ' e => nomatch e), fun d2 e v F3 H3 x3 r3 => by cases e; exact k v F3 H3 x3.fh x3.hh r3⟩
end
end Ea
end
section
set_option Elab.async false
set_option linter.all false
set_option maxRecDepth 100000
set_option maxHeartbeats 400000
/-! EqCa: what _law_cells gives: a list of one int -/
namespace Ea
open PySem PySem.Spec L2
open PyProof.Rows hiding St
abbrev envC (z : Int) (s3 s4 s5 : Sl) : En := [.no, .d (.int 1), .o (.list [.int z]), s3, s4, s5]
theorem mulSmall {x i : Int} (h0 : 0 ≤ i) (h1 : i < 1000) : gMul (.int x) (.int i) = some (.int (x * i)) := mul_r (by omega) (by omega)
theorem cells_lap {i x z : Int} (h0 : 0 ≤ i) (h1 : i < 900) (s5 : Sl) : cB (envC z (.d (.int i)) (.d (.int x)) s5) = some (.nx (envC (z + x * (i + 2)) (.d (.int i)) (.d (.int x)) (.d (.int 0)))) := by
  have e5 : e2 gMod (eCall gInt (aCons (eV 3) aNil)) (eV 1) (envC z (.d (.int i)) (.d (.int x)) s5) = some (.int 0) := by
    show (if decide ((0 : Int) < 1) = true then some (PyData.int (i % 1)) else none) = some (.int 0)
    rw [if_pos (by decide), Int.emod_one]
  have em : e2 gMul (eV 4) (e2 gAdd (eV 3) (eC (.int 2))) (envC z (.d (.int i)) (.d (.int x)) (.d (.int 0))) = some (.int (x * (i + 2))) := by
    show gMul (.int x) (.int (i + 2)) = _
    exact mulSmall (by omega) (by omega)
  have ea : e2 gAdd (eIxO 2 (eV 5)) (e2 gMul (eV 4) (e2 gAdd (eV 3) (eC (.int 2)))) (envC z (.d (.int i)) (.d (.int x)) (.d (.int 0))) = some (.int (z + x * (i + 2))) := by
    show (eIxO 2 (eV 5) (envC z (.d (.int i)) (.d (.int x)) (.d (.int 0)))).bind (fun a => (e2 gMul (eV 4) (e2 gAdd (eV 3) (eC (.int 2))) (envC z (.d (.int i)) (.d (.int x)) (.d (.int 0)))).bind fun b => gAdd a b) = _
    rw [em]
    rfl
  have hs : sSet 5 (e2 gMod (eCall gInt (aCons (eV 3) aNil)) (eV 1)) (envC z (.d (.int i)) (.d (.int x)) s5) = some (.nx (envC z (.d (.int i)) (.d (.int x)) (.d (.int 0)))) := by
    unfold sSet
    rw [e5]
    rfl
  unfold cB sSeq
  rw [hs]
  show sSetIx 2 _ (eV 5) (envC z (.d (.int i)) (.d (.int x)) (.d (.int 0))) = _
  unfold sSetIx
  rw [ea]
  rfl
theorem cells_go : ∀ (xs : List Int) (i z : Int) (s3 s4 s5 : Sl), 0 ≤ i → i + xs.length ≤ 900 → ∃ t u3 u4 u5, forGo (gTupD 2 (gsCons (gN 3) (gsCons (gN 4) gsNil))) cB (enumD i (xs.map .int)) (envC z s3 s4 s5) = some (envC t u3 u4 u5)
  | [], i, z, s3, s4, s5, _, _ => ⟨z, s3, s4, s5, rfl⟩
  | x :: r, i, z, s3, s4, s5, h0, h1 => by
    have h1' : i + ((r.length : Int) + 1) ≤ 900 := by simpa using h1
    obtain ⟨t, u3, u4, u5, h⟩ := cells_go r (i + 1) (z + x * (i + 2)) (.d (.int i)) (.d (.int x)) (.d (.int 0)) (by omega) (by omega)
    refine ⟨t, u3, u4, u5, ?_⟩
    show (match gTupD 2 (gsCons (gN 3) (gsCons (gN 4) gsNil)) (.tuple [.int i, .int x]) (envC z s3 s4 s5) with
      | none => none
      | some ρ1 => match cB ρ1 with
        | some (.nx ρ2) => forGo (gTupD 2 (gsCons (gN 3) (gsCons (gN 4) gsNil))) cB (enumD (i + 1) (r.map .int)) ρ2
        | _ => none) = _
    rw [show gTupD 2 (gsCons (gN 3) (gsCons (gN 4) gsNil)) (.tuple [.int i, .int x]) (envC z s3 s4 s5) = some (envC z (.d (.int i)) (.d (.int x)) s5) from rfl]
    show (match cB (envC z (.d (.int i)) (.d (.int x)) s5) with
        | some (.nx ρ2) => forGo (gTupD 2 (gsCons (gN 3) (gsCons (gN 4) gsNil))) cB (enumD (i + 1) (r.map .int)) ρ2
        | _ => none) = _
    rw [cells_lap h0 (by omega)]
    exact h
theorem cut1 (ds : List PyData) : cutD ds none (some 1) = ds.take 1 := by
  unfold cutD
  rw [HT.sIx_none, show (some (1 : Int)) = some ((1 : Nat) : Int) from rfl, HT.sIx_nat, List.drop_zero, Nat.sub_zero]
  cases ds with
  | nil => rfl
  | cons d r => rw [Nat.min_eq_left (by simp)]
theorem cutMap (xs : List Int) (lo hi : Option Int) : ∃ ys : List Int, cutD (xs.map .int) lo hi = ys.map .int ∧ ys.length ≤ xs.length := by
  unfold cutD
  rw [← List.map_drop, ← List.map_take]
  exact ⟨_, rfl, by simp; omega⟩
theorem cells_first (ns : List Int) : ∃ z, cA (ns.map .int) c0 = some (.list [.int z]) := by
  have h : eCall gList (aCons (eCutC (ns.map .int) pNo (pSome (eV 1))) aNil) c0 = some (.list ((ns.map PyData.int).take 1)) := by
    show some (PyData.list (cutD (ns.map .int) none (some 1))) = _
    rw [cut1]
  unfold cA eOrL
  rw [h]
  cases ns with
  | nil => exact ⟨0, rfl⟩
  | cons n r => exact ⟨n, rfl⟩
theorem cells_val (ns : List Int) (hl : ns.length ≤ 63) : ∃ d1 ρ2 z, cA (ns.map .int) c0 = some d1 ∧ cF (ns.map .int) (c0.set 2 (.o d1)) = some (.nx ρ2) ∧ cR ρ2 = some (.rt (.list [.int z])) := by
  obtain ⟨z, hz⟩ := cells_first ns
  obtain ⟨ys, hy, hyl⟩ := cutMap ns (some 1) (some 63)
  obtain ⟨t, u3, u4, u5, h⟩ := cells_go ys 0 z .no .no .no (by decide) (by omega)
  refine ⟨_, envC t u3 u4 u5, t, hz, ?_, rfl⟩
  unfold cF sFor
  show ((some (enumD 0 (cutD (ns.map .int) (some 1) (some 63)))).bind fun xs => (forGo (gTupD 2 (gsCons (gN 3) (gsCons (gN 4) gsNil))) cB xs (envC z .no .no .no)).map Out.nx) = _
  rw [hy]
  show (forGo (gTupD 2 (gsCons (gN 3) (gsCons (gN 4) gsNil))) cB (enumD 0 (ys.map .int)) (envC z .no .no .no)).map Out.nx = _
  rw [h]
  rfl
end Ea
end
section
set_option Elab.async false
set_option linter.all false
set_option maxRecDepth 100000
set_option maxHeartbeats 400000
/-! EqCb: what _law_box gives for a list of one int -/
namespace Ea
open PySem PySem.Spec L2
open PyProof.Rows hiding St
theorem abs_i (i : Int) : gAbs [.int i] = some (.int (if i < 0 then -i else i)) := rfl
theorem ge_ii (i j : Int) : gGe (.int i) (.int j) = some (.bool (decide (j ≤ i))) := rfl
theorem int_b (b : Bool) : gInt [.bool b] = some (.int (if b then 1 else 0)) := rfl
theorem pow18 : gPow (.int 10) (.int 18) = some (.int 1000000000000000000) := by
  show (if cSh 10 18 = true then some (PyData.int (10 ^ (18 : Int).toNat)) else none) = _
  rw [if_pos (by decide +kernel)]
  exact congrArg some (congrArg PyData.int (by decide +kernel))
theorem box_val (z : Int) : ∃ a b : Int, 0 ≤ a ∧ 0 ≤ b ∧ b < 4611686018427387904 ∧ d_l_box [.list [.int z], .int 0] = some (.list [.int a, .int b, .int 0]) := by
  generalize hA : (if z < 0 then -z else z) = A
  have hA0 : 0 ≤ A := by split at hA <;> omega
  generalize hc : (if decide ((1000000000000000000 : Int) ≤ A) = true then (1 : Int) else 0) = c
  have hc0 : 0 ≤ c ∧ c ≤ 1 := by split at hc <;> omega
  have hm := Int.emod_nonneg z (show (2305843009213693951 : Int) ≠ 0 by decide)
  have hm2 := Int.emod_lt_of_pos z (show (0 : Int) < 2305843009213693951 by decide)
  refine ⟨A * c, z % 2305843009213693951 + 39373 * 0 + 5323016, Int.mul_nonneg hA0 hc0.1, by omega, by omega, ?_⟩
  have m1 : gMul (.int A) (.int c) = some (.int (A * c)) := mul_r (by omega) (by omega)
  have m2 : gMul (.int 39373) (.int 0) = some (.int (39373 * 0)) := mul_r (by decide) (by decide)
  have m3 : gMod (.int z) (.int 2305843009213693951) = some (.int (z % 2305843009213693951)) := mod_ii (by decide)
  have e1' : eIf (bO (e2 gLt (eV 1) (eCall gLen (aCons (eV 0) aNil)))) (e2 gIx (eV 0) (eV 1)) (eC (.int 0)) [.d (.list [.int z]), .d (.int 0), .no] = some (.int z) := rfl
  have es : sSet 2 (eIf (bO (e2 gLt (eV 1) (eCall gLen (aCons (eV 0) aNil)))) (e2 gIx (eV 0) (eV 1)) (eC (.int 0))) [.d (.list [.int z]), .d (.int 0), .no] = some (.nx [.d (.list [.int z]), .d (.int 0), .d (.int z)]) := by
    unfold sSet
    rw [e1']
    rfl
  unfold d_l_box defD
  rw [if_pos (show ([.list [.int z], .int 0] : List PyData).length = 2 from rfl)]
  show (match b_l_box [.d (.list [.int z]), .d (.int 0), .no] with | some (.rt d) => some d | some (.nx _) => some .none | none => none) = _
  unfold b_l_box
  have eb : ∀ g : DS, sSeq (sSet 2 (eIf (bO (e2 gLt (eV 1) (eCall gLen (aCons (eV 0) aNil)))) (e2 gIx (eV 0) (eV 1)) (eC (.int 0)))) g [.d (.list [.int z]), .d (.int 0), .no] = g [.d (.list [.int z]), .d (.int 0), .d (.int z)] := fun g => by
    unfold sSeq
    rw [es]
  rw [eb]
  simp only [sRet, eLst, e2, eCall, aCons, aNil, eC, eV, Option.bind_some, Option.map_some, List.getElem?_cons_zero, List.getElem?_cons_succ, abs_i, hA, pow18, ge_ii, int_b, hc, m1, m2, m3, int_i, add_ii]
  rfl
end Ea
end
section
set_option Elab.async false
set_option linter.all false
set_option maxRecDepth 100000
set_option maxHeartbeats 4000000
/-! EqG: two long chains, once -/
namespace Ea
open PySem PySem.Spec L2
open PyProof.Rows hiding St
def worthD (n : Nat) : PyData := .dict ((List.range (n + 1)).map fun j => (iD (2 ^ j - 1), iD j))
theorem so60 : d_sure_order [oD 60 (chainT 60)] = some (oD 60 (chainT 60)) := beqO_eq (by decide +kernel)
theorem so59 : d_sure_order [oD 59 (chainT 59)] = some (oD 59 (chainT 59)) := beqO_eq (by decide +kernel)
theorem wb60 : d_worths_by_bits [oD 60 (chainT 60)] = some (worthD 60) := beqO_eq (by decide +kernel)
theorem wb59 : d_worths_by_bits [oD 59 (chainT 59)] = some (worthD 59) := beqO_eq (by decide +kernel)
/-- the same function with one answer at hand -/
def memo (f : List PyData → Option PyData) (k : List PyData) (r : PyData) : List PyData → Option PyData := fun ds => if beqL ds k then some r else f ds
theorem memo_eq {f : List PyData → Option PyData} {k : List PyData} {r : PyData} (h : f k = some r) : f = memo f k r := by
  funext ds
  unfold memo
  split
  · rename_i e; rw [beqL_eq e, h]
  · rfl
end Ea
end
section
set_option Elab.async false
set_option linter.all false
set_option maxRecDepth 100000
set_option maxHeartbeats 4000000
/-! EqH: _law_by_hand_right answers True -/
namespace Ea
open PySem PySem.Spec L2
open PyProof.Rows hiding St
abbrev c60 : PyData := oD 60 (chainT 60)
abbrev c59 : PyData := oD 59 (chainT 59)
def so2 : List PyData → Option PyData := memo (memo d_sure_order [c59] c59) [c60] c60
def wb2 : List PyData → Option PyData := memo (memo d_worths_by_bits [c59] (worthD 59)) [c60] (worthD 60)
theorem so2_eq : d_sure_order = so2 := (memo_eq so60).trans (congrArg (fun f => memo f [c60] c60) (memo_eq so59))
theorem wb2_eq : d_worths_by_bits = wb2 := (memo_eq wb60).trans (congrArg (fun f => memo f [c60] (worthD 60)) (memo_eq wb59))
abbrev c7 : PyData := oD 7 (chainT 7)
abbrev rg59 : PyData := .tuple (rgD 0 59)
theorem bal_far : d_balance [.tuple [c60, c59]] = some c7 := beqO_eq (by
  delta d_balance; delta b_balance; delta d_sum_worth; delta b_sum_worth; delta d_sure_orders; delta b_sure_orders; delta d_orders_worth; delta b_orders_worth; delta d_worth_in; delta b_worth_in
  rw [so2_eq, wb2_eq]
  decide +kernel)
theorem are_far : d_are_balanced [.tuple [c60], .tuple [c59, c7]] = some (.bool true) := beqO_eq (by
  delta d_are_balanced; delta b_are_balanced; delta d_sure_orders; delta b_sure_orders; delta d_orders_worth; delta b_orders_worth; delta d_worth_in; delta b_worth_in
  rw [so2_eq, wb2_eq]
  decide +kernel)
theorem heard_far : d_l_heard [iD 1, .tuple [c59, c59], .tuple [rg59, rg59], iD 1, iD 20] = some (.tuple [iD 0, iD 20]) := beqO_eq (by
  delta d_l_heard; delta b_l_heard; delta d_answer_spot; delta b_answer_spot; delta d_spot_sure; delta b_spot_sure; delta d_lefts_sure; delta b_lefts_sure; delta d_sure_orders; delta b_sure_orders; delta d_winning_in; delta b_winning_in; delta d_worths_behind; delta b_worths_behind; delta d_lefts_worths; delta b_lefts_worths; delta d_left_worth_in; delta b_left_worth_in
  rw [so2_eq, wb2_eq]
  decide +kernel)
theorem hand_true : d_l_by_hand_right [] = some (.bool true) := beqO_eq (by
  delta d_l_by_hand_right; delta b_l_by_hand_right
  rw [memo_eq bal_far, memo_eq are_far, memo_eq heard_far]
  decide +kernel)
end Ea
end
section
set_option Elab.async false
set_option linter.all false
set_option maxRecDepth 100000
set_option maxHeartbeats 400000
/-! EqL: law walked: it answers True -/
namespace Ea
open PySem PySem.Spec L2
open PyProof.Rows hiding St
abbrev s_law : Stmt := topS 84
theorem sc_law : FnScope ["_law_script"] ["_law_script"] (defScope s_law) := ⟨rfl, rfl, rfl, by decide +kernel, rfl, by decide +kernel, by decide +kernel⟩
def spLaw (K : PySem.W.Frag) : Sp := fun vs H Q _ => ∃ (a : Addr) (ns : List Int), vs = [.ref a] ∧ SqL K H a (ns.map V.int) ∧ ns.length ≤ 63 ∧ ∀ H', Q (.bl true) H'
structure CallC (P : Program) (w : World) (K : PySem.W.Frag) (mg : Str → Option Value) (base : Heap) : Prop where
  ex : ∃ f fd ps, FnOk P w K mg base CX0 1 f fd ps (spC K) ∧ mg "_law_cells" = some (.ref f) ∧ PySem.W.keepIn K (.ref f) = true ∧ Binds K fd ps []
section
variable {P : Program} {w : World} {K : PySem.W.Frag} {mg : Str → Option Value} {base : Heap}
theorem eCall0 {g : List PyData → Option PyData} {ρ : En} {d : PyData} (h : g [] = some d) : eCall g aNil ρ = some d := h
theorem ok_law {f : Addr} {fd : FuncData} (F : Fun K "law" "law" s_law f fd) (c_hand : CallD P w K mg base "_law_by_hand_right" 15 0 d_l_by_hand_right) (c_box : CallD P w K mg base "_law_box" 1 2 d_l_box)
    (c_cells : CallC P w K mg base) (n_right : CallN P w K mg base "_law_right" 15 0 gn_l_right) : FnOk P w K mg base CX0 16 f fd ["_law_script"] (spLaw K) := by
  obtain ⟨fr, fdr, psr, Fr, mr, kr, br⟩ := n_right.ex
  obtain ⟨fc, fdc, psc, Fc, mc, kc, bc⟩ := c_cells.ex
  obtain ⟨fb, fdb, psb, Fb, mb, kb, bb⟩ := c_box.ex
  refine F.ok (k := 15) sc_law (fun vs H Q E h => ?_) (fun cdv A outer s H vs Q E hr h => ?_)
  · obtain ⟨a, ns, e, _⟩ := h
    subst e; rfl
  · obtain ⟨a, ns, e, hs, hl, k⟩ := h
    subst e
    refine ⟨_, pss_one (ps_ret (pe_and (e_callD0 c_hand hr rfl rfl) (pe_one (pe_call Fr hr rfl mr kr br .nil pass0
      (pa_cons (pe_call Fb (hr.mono (by decide)) rfl mb kb bb .nil pass0 (pa_cons (pe_call Fc (hr.mono (by decide)) rfl mc kc bc .nil pass0 (pa_cons (pv 0) (pa_cons pe_int pa_nil))) (pa_cons pe_int pa_nil))) pa_nil))))), ?_⟩
    refine ⟨emp, [.no], .bool true, emp_same _, ⟨rfl, fun {i s} e => ?_⟩, eCall0 hand_true, fun v F1 H1 x1 r1 => ?_⟩
    · match i, e with
      | 0, e => cases e; exact ⟨_, rfl, trivial⟩
      | n + 1, e => cases e
    cases r1
    refine ⟨true, rfl, iteT ?_⟩
    refine ⟨_, rfl, ?_⟩
    obtain ⟨d1, ρ2, z, h1, h2, h3⟩ := cells_val ns hl
    refine ⟨a, ns.map V.int, ns.map .int, d1, ρ2, _, rfl, sqL_keep hs x1.hh, RpL.ofInts ns, h1, h2, h3, fun v F2 H2 s2 s12 r2 => ?_⟩
    obtain ⟨A', B', hA, hB, hB2, hbox⟩ := box_val z
    refine ⟨rfl, F2, [.list [.int z], .int 0], _, s2, .cons r2 (.cons (.int 0) .nil), hbox, fun t F3 H3 x3 r3 => ?_⟩
    cases r3 with | lst e3 t3 =>
    cases t3 with | cons ra t3 =>
    cases t3 with | cons rb t3 =>
    cases t3 with | cons rc t3 =>
    cases t3
    cases ra; cases rb; cases rc
    refine ⟨emp, [], _, 0, [], [.bool true], 1000, rfl, rfl, emp_same _, rfl, ⟨A', B', 0, x3.fh _ _ e3, hA, hB, hB2, Int.le_refl _, Int.le_refl _⟩, .nil, rfl, by decide, fun d hd v F4 H4 x4 i4 r4 => ?_⟩
    obtain rfl := List.mem_singleton.mp hd
    cases r4
    exact k _
end
end Ea
end
section
set_option Elab.async false
set_option linter.all false
set_option maxRecDepth 100000
set_option maxHeartbeats 4000000
/-! EqAr: what the top has written: a def's record, the classes of errors -/
namespace Ea
open PySem PySem.Spec L2
open PyProof.Rows hiding St
structure DefK (K : PySem.W.Frag) (x : Str) (st : Stmt) : Prop where
  ex : ∃ (f : Addr) (fd : FuncData), PySem.W.nsIn K mainGlobals x = some (some (.ref f)) ∧ Fun K x x st f fd
theorem defK {K : PySem.W.Frag} {x : Str} {st : Stmt} {f : Addr} {oc : Value} {od an : Option Addr} {osl : Array (Option Value)} {kV doc pm cdv ct : Value} (a : PySem.W.nsIn K mainGlobals x = some (some (.ref f)))
    (l : K.lookup f = some ⟨oc, od, .func (PySem.W.fnOf x x (defArgs st) (defBody st) (defScope st) .none kV doc pm an cdv ct), osl⟩) (c : PySem.W.codeIn K cdv x = true) (k : PySem.W.keepIn K (.ref f) = true) : DefK K x st := ⟨_, _, a, fun_mk l c k⟩
structure DefG (K : PySem.W.Frag) (mg : Str → Option Value) (x : Str) (st : Stmt) (ps : List Str) : Prop where
  ex : ∃ (f : Addr) (fd : FuncData), Fun K x x st f fd ∧ mg x = some (.ref f) ∧ PySem.W.keepIn K (.ref f) = true ∧ Binds K fd ps [] ∧ ∀ (s : Shared) (us : List Value), us.length = ps.length → BindsTo s fd ⟨us, []⟩ (ps.zip us)
theorem DefK.go {K : PySem.W.Frag} {mg : Str → Option Value} {h : Heap} {x : Str} {st : Stmt} {ps : List Str} (X : K.In h) (G : h.Ns mainGlobals mg) (D : DefK K x st)
    (hb : ∀ (kV doc pm : Value) (an : Option Addr) (cdv ct : Value) (us : List Value), us.length = ps.length → bindArgs (PySem.W.fnOf x x (defArgs st) (defBody st) (defScope st) .none kV doc pm an cdv ct) ⟨us, []⟩ = pure (ps.zip us)) : DefG K mg x st ps := by
  obtain ⟨f, fd, a, F⟩ := D.ex
  refine ⟨f, fd, F, PySem.W.mg_of X G a, F.kp, F.binds hb, fun s us hl => ?_⟩
  obtain ⟨oc, od, kV, doc, pm, an, cdv, ct, osl, rfl, lk, hcd⟩ := F.ex
  exact .of_eq (hb kV doc pm an cdv ct us hl)
/-- the module's names that stay the built-in ones, and FEW -/
structure TpK (K : PySem.W.Frag) : Prop where
  abs : PySem.W.nsIn K mainGlobals "abs" = some none
  int : PySem.W.nsIn K mainGlobals "int" = some none
  isi : PySem.W.nsIn K mainGlobals "isinstance" = some none
  bool : PySem.W.nsIn K mainGlobals "bool" = some none
  tuple : PySem.W.nsIn K mainGlobals "tuple" = some none
  list : PySem.W.nsIn K mainGlobals "list" = some none
  str : PySem.W.nsIn K mainGlobals "str" = some none
  all : PySem.W.nsIn K mainGlobals "all" = some none
  any : PySem.W.nsIn K mainGlobals "any" = some none
  sum : PySem.W.nsIn K mainGlobals "sum" = some none
  min : PySem.W.nsIn K mainGlobals "min" = some none
  sorted : PySem.W.nsIn K mainGlobals "sorted" = some none
  range : PySem.W.nsIn K mainGlobals "range" = some none
  len : PySem.W.nsIn K mainGlobals "len" = some none
  dict : PySem.W.nsIn K mainGlobals "dict" = some none
  zip : PySem.W.nsIn K mainGlobals "zip" = some none
  enum : PySem.W.nsIn K mainGlobals "enumerate" = some none
  sup : PySem.W.nsIn K mainGlobals "super" = some none
  verr : PySem.W.nsIn K mainGlobals "ValueError" = some none
  lerr : PySem.W.nsIn K mainGlobals "LookupError" = some none
theorem TpK.go {K : PySem.W.Frag} {mg : Str → Option Value} {h : Heap} {t : Tok} (X : K.In h) (G : h.Ns mainGlobals mg) (D : TpK K) (few : PySem.W.nsIn K mainGlobals "FEW" = some (some (.int 2000 t))) : Tp mg where
  abs := PySem.W.mg_none_of X G D.abs
  int := PySem.W.mg_none_of X G D.int
  isi := PySem.W.mg_none_of X G D.isi
  bool := PySem.W.mg_none_of X G D.bool
  tuple := PySem.W.mg_none_of X G D.tuple
  list := PySem.W.mg_none_of X G D.list
  str := PySem.W.mg_none_of X G D.str
  all := PySem.W.mg_none_of X G D.all
  any := PySem.W.mg_none_of X G D.any
  sum := PySem.W.mg_none_of X G D.sum
  min := PySem.W.mg_none_of X G D.min
  sorted := PySem.W.mg_none_of X G D.sorted
  range := PySem.W.mg_none_of X G D.range
  len := PySem.W.mg_none_of X G D.len
  dict := PySem.W.mg_none_of X G D.dict
  zip := PySem.W.mg_none_of X G D.zip
  enum := PySem.W.mg_none_of X G D.enum
  few := ⟨t, PySem.W.mg_of X G few⟩
/-! the classes -/
structure ErrK (P : Program) (K : PySem.W.Frag) : Prop where
  ex : ∃ CN NP fI : Addr, PySem.W.nsIn K mainGlobals "CanNot" = some (some (.ref CN)) ∧ PySem.W.nsIn K mainGlobals "NoPiece" = some (some (.ref NP)) ∧ CnK K CN ∧ NpK P K NP fI ∧ HeardK K CN NP
structure Errs (P : Program) (K : PySem.W.Frag) (mg : Str → Option Value) : Prop where
  ex : ∃ CN NP fI : Addr, mg "CanNot" = some (.ref CN) ∧ mg "NoPiece" = some (.ref NP) ∧ mg "super" = none ∧ mg "ValueError" = none ∧ mg "LookupError" = none ∧ CnK K CN ∧ NpK P K NP fI ∧ HeardK K CN NP
theorem ErrK.go {P : Program} {K : PySem.W.Frag} {mg : Str → Option Value} {h : Heap} (X : K.In h) (G : h.Ns mainGlobals mg) (D : TpK K) (E : ErrK P K) : Errs P K mg := by
  obtain ⟨CN, NP, fI, a, b, c, d, e⟩ := E.ex
  exact ⟨CN, NP, fI, PySem.W.mg_of X G a, PySem.W.mg_of X G b, PySem.W.mg_none_of X G D.sup, PySem.W.mg_none_of X G D.verr, PySem.W.mg_none_of X G D.lerr, c, d, e⟩
/-- kitCls, step by step, by what k_is finds -/
theorem kitClsOf {K : PySem.W.Frag} {t : Value} {S : Addr} {b : Bool} (h2 : PySem.W.isClsIn K S = true) (h3 : PySem.W.typeIn K (.ref S) = some (.type "type")) (h4 : PySem.W.subIn K t (.ref S) = some b) : PySem.W.kitCls K t (.ref S) = some b := by
  have e2 : ((PySem.W.clsIn K S).isSome && PySem.W.typeIn K (.ref S) == some (.type "type")) = true := by
    have h2' : (PySem.W.clsIn K S).isSome = true := h2
    rw [h2', h3] <;> rfl
  show (if ((PySem.W.clsIn K S).isSome && PySem.W.typeIn K (.ref S) == some (.type "type")) = true then PySem.W.subIn K t (.ref S) else none) = some b
  rw [if_pos e2]
  exact h4
theorem exmOf {K : PySem.W.Frag} {t : Value} {S : Addr} {b : Bool} (h1 : PySem.W.subIn K (.ref S) (.type "BaseException") = some true) (h2 : PySem.W.isClsIn K S = true) (h3 : PySem.W.typeIn K (.ref S) = some (.type "type")) (h4 : PySem.W.subIn K t (.ref S) = some b) : PySem.W.exmOne K t (.ref S) = some b := by
  have e1 : (PySem.W.subIn K (.ref S) (.type "BaseException") == some true) = true := by rw [h1] <;> rfl
  show (if (PySem.W.subIn K (.ref S) (.type "BaseException") == some true) = true then PySem.W.kitCls K t (.ref S) else none) = some b
  rw [if_pos e1]
  exact kitClsOf h2 h3 h4
end Ea
end
section
set_option Elab.async false
set_option linter.all false
set_option maxRecDepth 100000
set_option maxHeartbeats 4000000
/-! EqAs: all defs joined (printed by asm.py) -/
namespace Ea
open PySem PySem.Spec L2
open PyProof.Rows hiding St
/-- what the top has written of the defs -/
structure Defs (K : PySem.W.Frag) : Prop where
  g_l_aside : DefK K "_law_aside" s_l_aside
  g_l_bits : DefK K "_law_bits" s_l_bits
  g_l_ups : DefK K "_law_ups" s_l_ups
  g_l_lefts : DefK K "_law_lefts" s_l_lefts
  g_l_least_out : DefK K "_law_least_out" s_l_least_out
  g_l_worths : DefK K "_law_worths" s_l_worths
  g_l_behind_all : DefK K "_law_behind_all" s_l_behind_all
  g_l_pieces : DefK K "_law_pieces" s_l_pieces
  g_l_bitten : DefK K "_law_bitten" s_l_bitten
  g_l_box : DefK K "_law_box" s_l_box
  g_put_together : DefK K "put_together" s_put_together
  g_tops_by_bits : DefK K "tops_by_bits" s_tops_by_bits
  g_bits_for : DefK K "bits_for" s_bits_for
  g_lefts_by_bits : DefK K "lefts_by_bits" s_lefts_by_bits
  g_least_without : DefK K "least_without" s_least_without
  g_pieces_for : DefK K "pieces_for" s_pieces_for
  g_worths_by_bits : DefK K "worths_by_bits" s_worths_by_bits
  g_worth_in : DefK K "worth_in" s_worth_in
  g_orders_worth : DefK K "orders_worth" s_orders_worth
  g_tupled : DefK K "tupled" s_tupled
  g_is_long : DefK K "is_long" s_is_long
  g_is_number : DefK K "is_number" s_is_number
  g_is_from : DefK K "is_from" s_is_from
  g_are_numbers : DefK K "are_numbers" s_are_numbers
  g_is_pair_of : DefK K "is_pair_of" s_is_pair_of
  g_ascends : DefK K "ascends" s_ascends
  g_ups_by : DefK K "ups_by" s_ups_by
  g_follows_by : DefK K "follows_by" s_follows_by
  g_ties_by : DefK K "ties_by" s_ties_by
  g_directs_by : DefK K "directs_by" s_directs_by
  g_ties_of : DefK K "ties_of" s_ties_of
  g_follow_none : DefK K "follow_none" s_follow_none
  g_is_order : DefK K "is_order" s_is_order
  g_sure_order : DefK K "sure_order" s_sure_order
  g_sure_orders : DefK K "sure_orders" s_sure_orders
  g_sum_worth : DefK K "sum_worth" s_sum_worth
  g_balance : DefK K "balance" s_balance
  g_are_balanced : DefK K "are_balanced" s_are_balanced
  g_l_chain : DefK K "_law_chain" s_l_chain
  g_is_within : DefK K "is_within" s_is_within
  g_are_pieces_in : DefK K "are_pieces_in" s_are_pieces_in
  g_is_left_in : DefK K "is_left_in" s_is_left_in
  g_sure_left : DefK K "sure_left" s_sure_left
  g_sure_lefts : DefK K "sure_lefts" s_sure_lefts
  g_lefts_sure : DefK K "lefts_sure" s_lefts_sure
  g_left_worth_in : DefK K "left_worth_in" s_left_worth_in
  g_lefts_worths : DefK K "lefts_worths" s_lefts_worths
  g_spot_sure : DefK K "spot_sure" s_spot_sure
  g_behind_spot : DefK K "behind_spot" s_behind_spot
  g_worths_behind : DefK K "worths_behind" s_worths_behind
  g_winning_in : DefK K "winning_in" s_winning_in
  g_answer_spot : DefK K "answer_spot" s_answer_spot
  g_l_heard : DefK K "_law_heard" s_l_heard
  g_is_spot : DefK K "is_spot" s_is_spot
  g_is_answer_spot : DefK K "is_answer_spot" s_is_answer_spot
  g_l_same : DefK K "_law_same" s_l_same
  g_l_by_hand_right : DefK K "_law_by_hand_right" s_l_by_hand_right
  g_l_put_by_bits : DefK K "_law_put_by_bits" s_l_put_by_bits
  g_l_worths_of : DefK K "_law_worths_of" s_l_worths_of
  g_l_good_spots : DefK K "_law_good_spots" s_l_good_spots
  g_l_net : DefK K "_law_net" s_l_net
  g_l_heap : DefK K "_law_heap" s_l_heap
  g_l_lists : DefK K "_law_lists" s_l_lists
  g_l_take : DefK K "_law_take" s_l_take
  g_l_loose_net : DefK K "_law_loose_net" s_l_loose_net
  g_l_of : DefK K "_law_of" s_l_of
  g_l_order : DefK K "_law_order" s_l_order
  g_l_spots_of : DefK K "_law_spots_of" s_l_spots_of
  g_l_some_left : DefK K "_law_some_left" s_l_some_left
  g_l_some_orders : DefK K "_law_some_orders" s_l_some_orders
  g_l_right : DefK K "_law_right" s_l_right
  g_l_cells : DefK K "_law_cells" s_l_cells
  g_law : DefK K "law" s_law
section
variable {P : Program} {w : World} {K : PySem.W.Frag} {mg : Str → Option Value} {base : Heap} {h : Heap}
theorem dg_l_aside (X : K.In h) (G : h.Ns mainGlobals mg) (D : DefK K "_law_aside" s_l_aside) : DefG K mg "_law_aside" s_l_aside ["_law_near", "_law_far"] := D.go X G fun _ _ _ _ _ _ us hl => match us, hl with | [_, _], _ => rfl
theorem dg_l_bits (X : K.In h) (G : h.Ns mainGlobals mg) (D : DefK K "_law_bits" s_l_bits) : DefG K mg "_law_bits" s_l_bits ["_law_pieces_so"] := D.go X G fun _ _ _ _ _ _ us hl => match us, hl with | [_], _ => rfl
theorem dg_l_ups (X : K.In h) (G : h.Ns mainGlobals mg) (D : DefK K "_law_ups" s_l_ups) : DefG K mg "_law_ups" s_l_ups ["_law_net_here"] := D.go X G fun _ _ _ _ _ _ us hl => match us, hl with | [_], _ => rfl
theorem dg_l_lefts (X : K.In h) (G : h.Ns mainGlobals mg) (D : DefK K "_law_lefts" s_l_lefts) : DefG K mg "_law_lefts" s_l_lefts ["_law_net_here"] := D.go X G fun _ _ _ _ _ _ us hl => match us, hl with | [_], _ => rfl
theorem dg_l_least_out (X : K.In h) (G : h.Ns mainGlobals mg) (D : DefK K "_law_least_out" s_l_least_out) : DefG K mg "_law_least_out" s_l_least_out ["_law_some_so"] := D.go X G fun _ _ _ _ _ _ us hl => match us, hl with | [_], _ => rfl
theorem dg_l_worths (X : K.In h) (G : h.Ns mainGlobals mg) (D : DefK K "_law_worths" s_l_worths) : DefG K mg "_law_worths" s_l_worths ["_law_net_here"] := D.go X G fun _ _ _ _ _ _ us hl => match us, hl with | [_], _ => rfl
theorem dg_l_behind_all (X : K.In h) (G : h.Ns mainGlobals mg) (D : DefK K "_law_behind_all" s_l_behind_all) : DefG K mg "_law_behind_all" s_l_behind_all ["_law_net_here", "_law_left_so"] := D.go X G fun _ _ _ _ _ _ us hl => match us, hl with | [_, _], _ => rfl
theorem dg_l_pieces (X : K.In h) (G : h.Ns mainGlobals mg) (D : DefK K "_law_pieces" s_l_pieces) : DefG K mg "_law_pieces" s_l_pieces ["_law_bits_so"] := D.go X G fun _ _ _ _ _ _ us hl => match us, hl with | [_], _ => rfl
theorem dg_l_bitten (X : K.In h) (G : h.Ns mainGlobals mg) (D : DefK K "_law_bitten" s_l_bitten) : DefG K mg "_law_bitten" s_l_bitten ["_law_net_here", "_law_left_so", "_law_piece_so"] := D.go X G fun _ _ _ _ _ _ us hl => match us, hl with | [_, _, _], _ => rfl
theorem dg_l_box (X : K.In h) (G : h.Ns mainGlobals mg) (D : DefK K "_law_box" s_l_box) : DefG K mg "_law_box" s_l_box ["_law_script", "_law_k"] := D.go X G fun _ _ _ _ _ _ us hl => match us, hl with | [_, _], _ => rfl
theorem dg_put_together (X : K.In h) (G : h.Ns mainGlobals mg) (D : DefK K "put_together" s_put_together) : DefG K mg "put_together" s_put_together ["numbers"] := D.go X G fun _ _ _ _ _ _ us hl => match us, hl with | [_], _ => rfl
theorem dg_tops_by_bits (X : K.In h) (G : h.Ns mainGlobals mg) (D : DefK K "tops_by_bits" s_tops_by_bits) : DefG K mg "tops_by_bits" s_tops_by_bits ["order"] := D.go X G fun _ _ _ _ _ _ us hl => match us, hl with | [_], _ => rfl
theorem dg_bits_for (X : K.In h) (G : h.Ns mainGlobals mg) (D : DefK K "bits_for" s_bits_for) : DefG K mg "bits_for" s_bits_for ["pieces"] := D.go X G fun _ _ _ _ _ _ us hl => match us, hl with | [_], _ => rfl
theorem dg_lefts_by_bits (X : K.In h) (G : h.Ns mainGlobals mg) (D : DefK K "lefts_by_bits" s_lefts_by_bits) : DefG K mg "lefts_by_bits" s_lefts_by_bits ["order"] := D.go X G fun _ _ _ _ _ _ us hl => match us, hl with | [_], _ => rfl
theorem dg_least_without (X : K.In h) (G : h.Ns mainGlobals mg) (D : DefK K "least_without" s_least_without) : DefG K mg "least_without" s_least_without ["numbers"] := D.go X G fun _ _ _ _ _ _ us hl => match us, hl with | [_], _ => rfl
theorem dg_pieces_for (X : K.In h) (G : h.Ns mainGlobals mg) (D : DefK K "pieces_for" s_pieces_for) : DefG K mg "pieces_for" s_pieces_for ["bits"] := D.go X G fun _ _ _ _ _ _ us hl => match us, hl with | [_], _ => rfl
theorem dg_worths_by_bits (X : K.In h) (G : h.Ns mainGlobals mg) (D : DefK K "worths_by_bits" s_worths_by_bits) : DefG K mg "worths_by_bits" s_worths_by_bits ["order"] := D.go X G fun _ _ _ _ _ _ us hl => match us, hl with | [_], _ => rfl
theorem dg_worth_in (X : K.In h) (G : h.Ns mainGlobals mg) (D : DefK K "worth_in" s_worth_in) : DefG K mg "worth_in" s_worth_in ["order"] := D.go X G fun _ _ _ _ _ _ us hl => match us, hl with | [_], _ => rfl
theorem dg_orders_worth (X : K.In h) (G : h.Ns mainGlobals mg) (D : DefK K "orders_worth" s_orders_worth) : DefG K mg "orders_worth" s_orders_worth ["orders"] := D.go X G fun _ _ _ _ _ _ us hl => match us, hl with | [_], _ => rfl
theorem dg_tupled (X : K.In h) (G : h.Ns mainGlobals mg) (D : DefK K "tupled" s_tupled) : DefG K mg "tupled" s_tupled ["value"] := D.go X G fun _ _ _ _ _ _ us hl => match us, hl with | [_], _ => rfl
theorem dg_is_long (X : K.In h) (G : h.Ns mainGlobals mg) (D : DefK K "is_long" s_is_long) : DefG K mg "is_long" s_is_long ["thing", "length"] := D.go X G fun _ _ _ _ _ _ us hl => match us, hl with | [_, _], _ => rfl
theorem dg_is_number (X : K.In h) (G : h.Ns mainGlobals mg) (D : DefK K "is_number" s_is_number) : DefG K mg "is_number" s_is_number ["thing"] := D.go X G fun _ _ _ _ _ _ us hl => match us, hl with | [_], _ => rfl
theorem dg_is_from (X : K.In h) (G : h.Ns mainGlobals mg) (D : DefK K "is_from" s_is_from) : DefG K mg "is_from" s_is_from ["thing", "least"] := D.go X G fun _ _ _ _ _ _ us hl => match us, hl with | [_, _], _ => rfl
theorem dg_are_numbers (X : K.In h) (G : h.Ns mainGlobals mg) (D : DefK K "are_numbers" s_are_numbers) : DefG K mg "are_numbers" s_are_numbers ["thing"] := D.go X G fun _ _ _ _ _ _ us hl => match us, hl with | [_], _ => rfl
theorem dg_is_pair_of (X : K.In h) (G : h.Ns mainGlobals mg) (D : DefK K "is_pair_of" s_is_pair_of) : DefG K mg "is_pair_of" s_is_pair_of ["many", "thing"] := D.go X G fun _ _ _ _ _ _ us hl => match us, hl with | [_, _], _ => rfl
theorem dg_ascends (X : K.In h) (G : h.Ns mainGlobals mg) (D : DefK K "ascends" s_ascends) : DefG K mg "ascends" s_ascends ["row"] := D.go X G fun _ _ _ _ _ _ us hl => match us, hl with | [_], _ => rfl
theorem dg_ups_by (X : K.In h) (G : h.Ns mainGlobals mg) (D : DefK K "ups_by" s_ups_by) : DefG K mg "ups_by" s_ups_by ["directs"] := D.go X G fun _ _ _ _ _ _ us hl => match us, hl with | [_], _ => rfl
theorem dg_follows_by (X : K.In h) (G : h.Ns mainGlobals mg) (D : DefK K "follows_by" s_follows_by) : DefG K mg "follows_by" s_follows_by ["directs", "ups", "low", "high"] := D.go X G fun _ _ _ _ _ _ us hl => match us, hl with | [_, _, _, _], _ => rfl
theorem dg_ties_by (X : K.In h) (G : h.Ns mainGlobals mg) (D : DefK K "ties_by" s_ties_by) : DefG K mg "ties_by" s_ties_by ["directs"] := D.go X G fun _ _ _ _ _ _ us hl => match us, hl with | [_], _ => rfl
theorem dg_directs_by (X : K.In h) (G : h.Ns mainGlobals mg) (D : DefK K "directs_by" s_directs_by) : DefG K mg "directs_by" s_directs_by ["many", "pairs"] := D.go X G fun _ _ _ _ _ _ us hl => match us, hl with | [_, _], _ => rfl
theorem dg_ties_of (X : K.In h) (G : h.Ns mainGlobals mg) (D : DefK K "ties_of" s_ties_of) : DefG K mg "ties_of" s_ties_of ["pairs"] := D.go X G fun _ _ _ _ _ _ us hl => match us, hl with | [_], _ => rfl
theorem dg_follow_none (X : K.In h) (G : h.Ns mainGlobals mg) (D : DefK K "follow_none" s_follow_none) : DefG K mg "follow_none" s_follow_none ["ties"] := D.go X G fun _ _ _ _ _ _ us hl => match us, hl with | [_], _ => rfl
theorem dg_is_order (X : K.In h) (G : h.Ns mainGlobals mg) (D : DefK K "is_order" s_is_order) : DefG K mg "is_order" s_is_order ["thing"] := D.go X G fun _ _ _ _ _ _ us hl => match us, hl with | [_], _ => rfl
theorem dg_sure_order (X : K.In h) (G : h.Ns mainGlobals mg) (D : DefK K "sure_order" s_sure_order) : DefG K mg "sure_order" s_sure_order ["order"] := D.go X G fun _ _ _ _ _ _ us hl => match us, hl with | [_], _ => rfl
theorem dg_sure_orders (X : K.In h) (G : h.Ns mainGlobals mg) (D : DefK K "sure_orders" s_sure_orders) : DefG K mg "sure_orders" s_sure_orders ["orders"] := D.go X G fun _ _ _ _ _ _ us hl => match us, hl with | [_], _ => rfl
theorem dg_sum_worth (X : K.In h) (G : h.Ns mainGlobals mg) (D : DefK K "sum_worth" s_sum_worth) : DefG K mg "sum_worth" s_sum_worth ["orders"] := D.go X G fun _ _ _ _ _ _ us hl => match us, hl with | [_], _ => rfl
theorem dg_balance (X : K.In h) (G : h.Ns mainGlobals mg) (D : DefK K "balance" s_balance) : DefG K mg "balance" s_balance ["orders"] := D.go X G fun _ _ _ _ _ _ us hl => match us, hl with | [_], _ => rfl
theorem dg_are_balanced (X : K.In h) (G : h.Ns mainGlobals mg) (D : DefK K "are_balanced" s_are_balanced) : DefG K mg "are_balanced" s_are_balanced ["orders", "others"] := D.go X G fun _ _ _ _ _ _ us hl => match us, hl with | [_, _], _ => rfl
theorem dg_l_chain (X : K.In h) (G : h.Ns mainGlobals mg) (D : DefK K "_law_chain" s_l_chain) : DefG K mg "_law_chain" s_l_chain ["_law_many_so"] := D.go X G fun _ _ _ _ _ _ us hl => match us, hl with | [_], _ => rfl
theorem dg_is_within (X : K.In h) (G : h.Ns mainGlobals mg) (D : DefK K "is_within" s_is_within) : DefG K mg "is_within" s_is_within ["thing", "least", "most"] := D.go X G fun _ _ _ _ _ _ us hl => match us, hl with | [_, _, _], _ => rfl
theorem dg_are_pieces_in (X : K.In h) (G : h.Ns mainGlobals mg) (D : DefK K "are_pieces_in" s_are_pieces_in) : DefG K mg "are_pieces_in" s_are_pieces_in ["order", "thing"] := D.go X G fun _ _ _ _ _ _ us hl => match us, hl with | [_, _], _ => rfl
theorem dg_is_left_in (X : K.In h) (G : h.Ns mainGlobals mg) (D : DefK K "is_left_in" s_is_left_in) : DefG K mg "is_left_in" s_is_left_in ["order", "thing"] := D.go X G fun _ _ _ _ _ _ us hl => match us, hl with | [_, _], _ => rfl
theorem dg_sure_left (X : K.In h) (G : h.Ns mainGlobals mg) (D : DefK K "sure_left" s_sure_left) : DefG K mg "sure_left" s_sure_left ["order", "left"] := D.go X G fun _ _ _ _ _ _ us hl => match us, hl with | [_, _], _ => rfl
theorem dg_sure_lefts (X : K.In h) (G : h.Ns mainGlobals mg) (D : DefK K "sure_lefts" s_sure_lefts) : DefG K mg "sure_lefts" s_sure_lefts ["orders", "lefts"] := D.go X G fun _ _ _ _ _ _ us hl => match us, hl with | [_, _], _ => rfl
theorem dg_lefts_sure (X : K.In h) (G : h.Ns mainGlobals mg) (D : DefK K "lefts_sure" s_lefts_sure) : DefG K mg "lefts_sure" s_lefts_sure ["orders", "lefts"] := D.go X G fun _ _ _ _ _ _ us hl => match us, hl with | [_, _], _ => rfl
theorem dg_left_worth_in (X : K.In h) (G : h.Ns mainGlobals mg) (D : DefK K "left_worth_in" s_left_worth_in) : DefG K mg "left_worth_in" s_left_worth_in ["order", "left"] := D.go X G fun _ _ _ _ _ _ us hl => match us, hl with | [_, _], _ => rfl
theorem dg_lefts_worths (X : K.In h) (G : h.Ns mainGlobals mg) (D : DefK K "lefts_worths" s_lefts_worths) : DefG K mg "lefts_worths" s_lefts_worths ["orders", "lefts"] := D.go X G fun _ _ _ _ _ _ us hl => match us, hl with | [_, _], _ => rfl
theorem dg_spot_sure (X : K.In h) (G : h.Ns mainGlobals mg) (D : DefK K "spot_sure" s_spot_sure) : DefG K mg "spot_sure" s_spot_sure ["orders", "lefts", "number", "piece"] := D.go X G fun _ _ _ _ _ _ us hl => match us, hl with | [_, _, _, _], _ => rfl
theorem dg_behind_spot (X : K.In h) (G : h.Ns mainGlobals mg) (D : DefK K "behind_spot" s_behind_spot) : DefG K mg "behind_spot" s_behind_spot ["orders", "lefts", "number", "piece"] := D.go X G fun _ _ _ _ _ _ us hl => match us, hl with | [_, _, _, _], _ => rfl
theorem dg_worths_behind (X : K.In h) (G : h.Ns mainGlobals mg) (D : DefK K "worths_behind" s_worths_behind) : DefG K mg "worths_behind" s_worths_behind ["order", "left"] := D.go X G fun _ _ _ _ _ _ us hl => match us, hl with | [_, _], _ => rfl
theorem dg_winning_in (X : K.In h) (G : h.Ns mainGlobals mg) (D : DefK K "winning_in" s_winning_in) : DefG K mg "winning_in" s_winning_in ["orders", "lefts"] := D.go X G fun _ _ _ _ _ _ us hl => match us, hl with | [_, _], _ => rfl
theorem dg_answer_spot (X : K.In h) (G : h.Ns mainGlobals mg) (D : DefK K "answer_spot" s_answer_spot) : DefG K mg "answer_spot" s_answer_spot ["orders", "lefts", "number", "piece"] := D.go X G fun _ _ _ _ _ _ us hl => match us, hl with | [_, _, _, _], _ => rfl
theorem dg_l_heard (X : K.In h) (G : h.Ns mainGlobals mg) (D : DefK K "_law_heard" s_l_heard) : DefG K mg "_law_heard" s_l_heard ["_law_door", "_law_nets", "_law_lefts_so", "_law_number_so", "_law_piece_so"] := D.go X G fun _ _ _ _ _ _ us hl => match us, hl with | [_, _, _, _, _], _ => rfl
theorem dg_is_spot (X : K.In h) (G : h.Ns mainGlobals mg) (D : DefK K "is_spot" s_is_spot) : DefG K mg "is_spot" s_is_spot ["thing"] := D.go X G fun _ _ _ _ _ _ us hl => match us, hl with | [_], _ => rfl
theorem dg_is_answer_spot (X : K.In h) (G : h.Ns mainGlobals mg) (D : DefK K "is_answer_spot" s_is_answer_spot) : DefG K mg "is_answer_spot" s_is_answer_spot ["orders", "lefts", "number", "piece", "thing"] := D.go X G fun _ _ _ _ _ _ us hl => match us, hl with | [_, _, _, _, _], _ => rfl
theorem dg_l_same (X : K.In h) (G : h.Ns mainGlobals mg) (D : DefK K "_law_same" s_l_same) : DefG K mg "_law_same" s_l_same ["_law_got", "_law_due"] := D.go X G fun _ _ _ _ _ _ us hl => match us, hl with | [_, _], _ => rfl
theorem dg_l_by_hand_right (X : K.In h) (G : h.Ns mainGlobals mg) (D : DefK K "_law_by_hand_right" s_l_by_hand_right) : DefG K mg "_law_by_hand_right" s_l_by_hand_right [] := D.go X G fun _ _ _ _ _ _ us hl => match us, hl with | [], _ => rfl
theorem dg_l_put_by_bits (X : K.In h) (G : h.Ns mainGlobals mg) (D : DefK K "_law_put_by_bits" s_l_put_by_bits) : DefG K mg "_law_put_by_bits" s_l_put_by_bits ["_law_some_so"] := D.go X G fun _ _ _ _ _ _ us hl => match us, hl with | [_], _ => rfl
theorem dg_l_worths_of (X : K.In h) (G : h.Ns mainGlobals mg) (D : DefK K "_law_worths_of" s_l_worths_of) : DefG K mg "_law_worths_of" s_l_worths_of ["_law_nets", "_law_lefts_so"] := D.go X G fun _ _ _ _ _ _ us hl => match us, hl with | [_, _], _ => rfl
theorem dg_l_good_spots (X : K.In h) (G : h.Ns mainGlobals mg) (D : DefK K "_law_good_spots" s_l_good_spots) : DefG K mg "_law_good_spots" s_l_good_spots ["_law_nets", "_law_lefts_so"] := D.go X G fun _ _ _ _ _ _ us hl => match us, hl with | [_, _], _ => rfl
theorem dg_l_net (X : K.In h) (G : h.Ns mainGlobals mg) (D : DefK K "_law_net" s_l_net) : DefG K mg "_law_net" s_l_net ["_law_many_so", "_law_pairs_so"] := D.go X G fun _ _ _ _ _ _ us hl => match us, hl with | [_, _], _ => rfl
theorem dg_l_heap (X : K.In h) (G : h.Ns mainGlobals mg) (D : DefK K "_law_heap" s_l_heap) : DefG K mg "_law_heap" s_l_heap ["_law_near", "_law_far"] := D.go X G fun _ _ _ _ _ _ us hl => match us, hl with | [_, _], _ => rfl
theorem dg_l_lists (X : K.In h) (G : h.Ns mainGlobals mg) (D : DefK K "_law_lists" s_l_lists) : DefG K mg "_law_lists" s_l_lists ["_law_matter"] := D.go X G fun _ _ _ _ _ _ us hl => match us, hl with | [_], _ => rfl
theorem dg_l_take (X : K.In h) (G : h.Ns mainGlobals mg) (D : DefK K "_law_take" s_l_take) : DefG K mg "_law_take" s_l_take ["_law_tin", "_law_below_so"] := D.go X G fun _ _ _ _ _ _ us hl => match us, hl with | [_, _], _ => rfl
theorem dg_l_loose_net (X : K.In h) (G : h.Ns mainGlobals mg) (D : DefK K "_law_loose_net" s_l_loose_net) : DefG K mg "_law_loose_net" s_l_loose_net ["_law_tin", "_law_many_so"] := D.go X G fun _ _ _ _ _ _ us hl => match us, hl with | [_, _], _ => rfl
theorem dg_l_of (X : K.In h) (G : h.Ns mainGlobals mg) (D : DefK K "_law_of" s_l_of) : DefG K mg "_law_of" s_l_of ["_law_tin", "_law_goods_so"] := D.go X G fun _ _ _ _ _ _ us hl => match us, hl with | [_, _], _ => rfl
theorem dg_l_order (X : K.In h) (G : h.Ns mainGlobals mg) (D : DefK K "_law_order" s_l_order) : DefG K mg "_law_order" s_l_order ["_law_tin", "_law_most_so"] := D.go X G fun _ _ _ _ _ _ us hl => match us, hl with | [_, _], _ => rfl
theorem dg_l_spots_of (X : K.In h) (G : h.Ns mainGlobals mg) (D : DefK K "_law_spots_of" s_l_spots_of) : DefG K mg "_law_spots_of" s_l_spots_of ["_law_nets"] := D.go X G fun _ _ _ _ _ _ us hl => match us, hl with | [_], _ => rfl
theorem dg_l_some_left (X : K.In h) (G : h.Ns mainGlobals mg) (D : DefK K "_law_some_left" s_l_some_left) : DefG K mg "_law_some_left" s_l_some_left ["_law_tin", "_law_net_here"] := D.go X G fun _ _ _ _ _ _ us hl => match us, hl with | [_, _], _ => rfl
theorem dg_l_some_orders (X : K.In h) (G : h.Ns mainGlobals mg) (D : DefK K "_law_some_orders" s_l_some_orders) : DefG K mg "_law_some_orders" s_l_some_orders ["_law_tin", "_law_most_so"] := D.go X G fun _ _ _ _ _ _ us hl => match us, hl with | [_, _], _ => rfl
theorem dg_l_right (X : K.In h) (G : h.Ns mainGlobals mg) (D : DefK K "_law_right" s_l_right) : DefG K mg "_law_right" s_l_right ["_law_tin"] := D.go X G fun _ _ _ _ _ _ us hl => match us, hl with | [_], _ => rfl
theorem dg_l_cells (X : K.In h) (G : h.Ns mainGlobals mg) (D : DefK K "_law_cells" s_l_cells) : DefG K mg "_law_cells" s_l_cells ["_law_script", "_law_most_so"] := D.go X G fun _ _ _ _ _ _ us hl => match us, hl with | [_, _], _ => rfl
theorem dg_law (X : K.In h) (G : h.Ns mainGlobals mg) (D : DefK K "law" s_law) : DefG K mg "law" s_law ["_law_script"] := D.go X G fun _ _ _ _ _ _ us hl => match us, hl with | [_], _ => rfl
theorem all_mk {fa : Addr} (X : K.In h) (G : h.Ns mainGlobals mg) (hfa : mg "law" = some (.ref fa)) (T : Tp mg) (E : Errs P K mg) (D : Defs K) :
    ∃ fd : FuncData, (∀ (s : Shared) (u : Value), BindsTo s fd ⟨[u], []⟩ [("_law_script", u)]) ∧ ∀ base : Heap, K.In base → base.Ns mainGlobals mg → FnOk P w K mg base CX0 16 fa fd ["_law_script"] (spLaw K) := by
  obtain ⟨CN, NP, fI, mC, mN, hsu, mV, mL, kC, kN, kH⟩ := E.ex
  obtain ⟨f_l_aside, fd_l_aside, F_l_aside, m_l_aside, k_l_aside, b_l_aside, _⟩ := (dg_l_aside X G D.g_l_aside).ex
  obtain ⟨f_l_bits, fd_l_bits, F_l_bits, m_l_bits, k_l_bits, b_l_bits, _⟩ := (dg_l_bits X G D.g_l_bits).ex
  obtain ⟨f_l_ups, fd_l_ups, F_l_ups, m_l_ups, k_l_ups, b_l_ups, _⟩ := (dg_l_ups X G D.g_l_ups).ex
  obtain ⟨f_l_lefts, fd_l_lefts, F_l_lefts, m_l_lefts, k_l_lefts, b_l_lefts, _⟩ := (dg_l_lefts X G D.g_l_lefts).ex
  obtain ⟨f_l_least_out, fd_l_least_out, F_l_least_out, m_l_least_out, k_l_least_out, b_l_least_out, _⟩ := (dg_l_least_out X G D.g_l_least_out).ex
  obtain ⟨f_l_worths, fd_l_worths, F_l_worths, m_l_worths, k_l_worths, b_l_worths, _⟩ := (dg_l_worths X G D.g_l_worths).ex
  obtain ⟨f_l_behind_all, fd_l_behind_all, F_l_behind_all, m_l_behind_all, k_l_behind_all, b_l_behind_all, _⟩ := (dg_l_behind_all X G D.g_l_behind_all).ex
  obtain ⟨f_l_pieces, fd_l_pieces, F_l_pieces, m_l_pieces, k_l_pieces, b_l_pieces, _⟩ := (dg_l_pieces X G D.g_l_pieces).ex
  obtain ⟨f_l_bitten, fd_l_bitten, F_l_bitten, m_l_bitten, k_l_bitten, b_l_bitten, _⟩ := (dg_l_bitten X G D.g_l_bitten).ex
  obtain ⟨f_l_box, fd_l_box, F_l_box, m_l_box, k_l_box, b_l_box, _⟩ := (dg_l_box X G D.g_l_box).ex
  obtain ⟨f_put_together, fd_put_together, F_put_together, m_put_together, k_put_together, b_put_together, _⟩ := (dg_put_together X G D.g_put_together).ex
  obtain ⟨f_tops_by_bits, fd_tops_by_bits, F_tops_by_bits, m_tops_by_bits, k_tops_by_bits, b_tops_by_bits, _⟩ := (dg_tops_by_bits X G D.g_tops_by_bits).ex
  obtain ⟨f_bits_for, fd_bits_for, F_bits_for, m_bits_for, k_bits_for, b_bits_for, _⟩ := (dg_bits_for X G D.g_bits_for).ex
  obtain ⟨f_lefts_by_bits, fd_lefts_by_bits, F_lefts_by_bits, m_lefts_by_bits, k_lefts_by_bits, b_lefts_by_bits, _⟩ := (dg_lefts_by_bits X G D.g_lefts_by_bits).ex
  obtain ⟨f_least_without, fd_least_without, F_least_without, m_least_without, k_least_without, b_least_without, _⟩ := (dg_least_without X G D.g_least_without).ex
  obtain ⟨f_pieces_for, fd_pieces_for, F_pieces_for, m_pieces_for, k_pieces_for, b_pieces_for, _⟩ := (dg_pieces_for X G D.g_pieces_for).ex
  obtain ⟨f_worths_by_bits, fd_worths_by_bits, F_worths_by_bits, m_worths_by_bits, k_worths_by_bits, b_worths_by_bits, _⟩ := (dg_worths_by_bits X G D.g_worths_by_bits).ex
  obtain ⟨f_worth_in, fd_worth_in, F_worth_in, m_worth_in, k_worth_in, b_worth_in, _⟩ := (dg_worth_in X G D.g_worth_in).ex
  obtain ⟨f_orders_worth, fd_orders_worth, F_orders_worth, m_orders_worth, k_orders_worth, b_orders_worth, _⟩ := (dg_orders_worth X G D.g_orders_worth).ex
  obtain ⟨f_tupled, fd_tupled, F_tupled, m_tupled, k_tupled, b_tupled, _⟩ := (dg_tupled X G D.g_tupled).ex
  obtain ⟨f_is_long, fd_is_long, F_is_long, m_is_long, k_is_long, b_is_long, _⟩ := (dg_is_long X G D.g_is_long).ex
  obtain ⟨f_is_number, fd_is_number, F_is_number, m_is_number, k_is_number, b_is_number, _⟩ := (dg_is_number X G D.g_is_number).ex
  obtain ⟨f_is_from, fd_is_from, F_is_from, m_is_from, k_is_from, b_is_from, _⟩ := (dg_is_from X G D.g_is_from).ex
  obtain ⟨f_are_numbers, fd_are_numbers, F_are_numbers, m_are_numbers, k_are_numbers, b_are_numbers, _⟩ := (dg_are_numbers X G D.g_are_numbers).ex
  obtain ⟨f_is_pair_of, fd_is_pair_of, F_is_pair_of, m_is_pair_of, k_is_pair_of, b_is_pair_of, _⟩ := (dg_is_pair_of X G D.g_is_pair_of).ex
  obtain ⟨f_ascends, fd_ascends, F_ascends, m_ascends, k_ascends, b_ascends, _⟩ := (dg_ascends X G D.g_ascends).ex
  obtain ⟨f_ups_by, fd_ups_by, F_ups_by, m_ups_by, k_ups_by, b_ups_by, _⟩ := (dg_ups_by X G D.g_ups_by).ex
  obtain ⟨f_follows_by, fd_follows_by, F_follows_by, m_follows_by, k_follows_by, b_follows_by, _⟩ := (dg_follows_by X G D.g_follows_by).ex
  obtain ⟨f_ties_by, fd_ties_by, F_ties_by, m_ties_by, k_ties_by, b_ties_by, _⟩ := (dg_ties_by X G D.g_ties_by).ex
  obtain ⟨f_directs_by, fd_directs_by, F_directs_by, m_directs_by, k_directs_by, b_directs_by, _⟩ := (dg_directs_by X G D.g_directs_by).ex
  obtain ⟨f_ties_of, fd_ties_of, F_ties_of, m_ties_of, k_ties_of, b_ties_of, _⟩ := (dg_ties_of X G D.g_ties_of).ex
  obtain ⟨f_follow_none, fd_follow_none, F_follow_none, m_follow_none, k_follow_none, b_follow_none, _⟩ := (dg_follow_none X G D.g_follow_none).ex
  obtain ⟨f_is_order, fd_is_order, F_is_order, m_is_order, k_is_order, b_is_order, _⟩ := (dg_is_order X G D.g_is_order).ex
  obtain ⟨f_sure_order, fd_sure_order, F_sure_order, m_sure_order, k_sure_order, b_sure_order, _⟩ := (dg_sure_order X G D.g_sure_order).ex
  obtain ⟨f_sure_orders, fd_sure_orders, F_sure_orders, m_sure_orders, k_sure_orders, b_sure_orders, _⟩ := (dg_sure_orders X G D.g_sure_orders).ex
  obtain ⟨f_sum_worth, fd_sum_worth, F_sum_worth, m_sum_worth, k_sum_worth, b_sum_worth, _⟩ := (dg_sum_worth X G D.g_sum_worth).ex
  obtain ⟨f_balance, fd_balance, F_balance, m_balance, k_balance, b_balance, _⟩ := (dg_balance X G D.g_balance).ex
  obtain ⟨f_are_balanced, fd_are_balanced, F_are_balanced, m_are_balanced, k_are_balanced, b_are_balanced, _⟩ := (dg_are_balanced X G D.g_are_balanced).ex
  obtain ⟨f_l_chain, fd_l_chain, F_l_chain, m_l_chain, k_l_chain, b_l_chain, _⟩ := (dg_l_chain X G D.g_l_chain).ex
  obtain ⟨f_is_within, fd_is_within, F_is_within, m_is_within, k_is_within, b_is_within, _⟩ := (dg_is_within X G D.g_is_within).ex
  obtain ⟨f_are_pieces_in, fd_are_pieces_in, F_are_pieces_in, m_are_pieces_in, k_are_pieces_in, b_are_pieces_in, _⟩ := (dg_are_pieces_in X G D.g_are_pieces_in).ex
  obtain ⟨f_is_left_in, fd_is_left_in, F_is_left_in, m_is_left_in, k_is_left_in, b_is_left_in, _⟩ := (dg_is_left_in X G D.g_is_left_in).ex
  obtain ⟨f_sure_left, fd_sure_left, F_sure_left, m_sure_left, k_sure_left, b_sure_left, _⟩ := (dg_sure_left X G D.g_sure_left).ex
  obtain ⟨f_sure_lefts, fd_sure_lefts, F_sure_lefts, m_sure_lefts, k_sure_lefts, b_sure_lefts, _⟩ := (dg_sure_lefts X G D.g_sure_lefts).ex
  obtain ⟨f_lefts_sure, fd_lefts_sure, F_lefts_sure, m_lefts_sure, k_lefts_sure, b_lefts_sure, _⟩ := (dg_lefts_sure X G D.g_lefts_sure).ex
  obtain ⟨f_left_worth_in, fd_left_worth_in, F_left_worth_in, m_left_worth_in, k_left_worth_in, b_left_worth_in, _⟩ := (dg_left_worth_in X G D.g_left_worth_in).ex
  obtain ⟨f_lefts_worths, fd_lefts_worths, F_lefts_worths, m_lefts_worths, k_lefts_worths, b_lefts_worths, _⟩ := (dg_lefts_worths X G D.g_lefts_worths).ex
  obtain ⟨f_spot_sure, fd_spot_sure, F_spot_sure, m_spot_sure, k_spot_sure, b_spot_sure, _⟩ := (dg_spot_sure X G D.g_spot_sure).ex
  obtain ⟨f_behind_spot, fd_behind_spot, F_behind_spot, m_behind_spot, k_behind_spot, b_behind_spot, _⟩ := (dg_behind_spot X G D.g_behind_spot).ex
  obtain ⟨f_worths_behind, fd_worths_behind, F_worths_behind, m_worths_behind, k_worths_behind, b_worths_behind, _⟩ := (dg_worths_behind X G D.g_worths_behind).ex
  obtain ⟨f_winning_in, fd_winning_in, F_winning_in, m_winning_in, k_winning_in, b_winning_in, _⟩ := (dg_winning_in X G D.g_winning_in).ex
  obtain ⟨f_answer_spot, fd_answer_spot, F_answer_spot, m_answer_spot, k_answer_spot, b_answer_spot, _⟩ := (dg_answer_spot X G D.g_answer_spot).ex
  obtain ⟨f_l_heard, fd_l_heard, F_l_heard, m_l_heard, k_l_heard, b_l_heard, _⟩ := (dg_l_heard X G D.g_l_heard).ex
  obtain ⟨f_is_spot, fd_is_spot, F_is_spot, m_is_spot, k_is_spot, b_is_spot, _⟩ := (dg_is_spot X G D.g_is_spot).ex
  obtain ⟨f_is_answer_spot, fd_is_answer_spot, F_is_answer_spot, m_is_answer_spot, k_is_answer_spot, b_is_answer_spot, _⟩ := (dg_is_answer_spot X G D.g_is_answer_spot).ex
  obtain ⟨f_l_same, fd_l_same, F_l_same, m_l_same, k_l_same, b_l_same, _⟩ := (dg_l_same X G D.g_l_same).ex
  obtain ⟨f_l_by_hand_right, fd_l_by_hand_right, F_l_by_hand_right, m_l_by_hand_right, k_l_by_hand_right, b_l_by_hand_right, _⟩ := (dg_l_by_hand_right X G D.g_l_by_hand_right).ex
  obtain ⟨f_l_put_by_bits, fd_l_put_by_bits, F_l_put_by_bits, m_l_put_by_bits, k_l_put_by_bits, b_l_put_by_bits, _⟩ := (dg_l_put_by_bits X G D.g_l_put_by_bits).ex
  obtain ⟨f_l_worths_of, fd_l_worths_of, F_l_worths_of, m_l_worths_of, k_l_worths_of, b_l_worths_of, _⟩ := (dg_l_worths_of X G D.g_l_worths_of).ex
  obtain ⟨f_l_good_spots, fd_l_good_spots, F_l_good_spots, m_l_good_spots, k_l_good_spots, b_l_good_spots, _⟩ := (dg_l_good_spots X G D.g_l_good_spots).ex
  obtain ⟨f_l_net, fd_l_net, F_l_net, m_l_net, k_l_net, b_l_net, _⟩ := (dg_l_net X G D.g_l_net).ex
  obtain ⟨f_l_heap, fd_l_heap, F_l_heap, m_l_heap, k_l_heap, b_l_heap, _⟩ := (dg_l_heap X G D.g_l_heap).ex
  obtain ⟨f_l_lists, fd_l_lists, F_l_lists, m_l_lists, k_l_lists, b_l_lists, _⟩ := (dg_l_lists X G D.g_l_lists).ex
  obtain ⟨f_l_take, fd_l_take, F_l_take, m_l_take, k_l_take, b_l_take, _⟩ := (dg_l_take X G D.g_l_take).ex
  obtain ⟨f_l_loose_net, fd_l_loose_net, F_l_loose_net, m_l_loose_net, k_l_loose_net, b_l_loose_net, _⟩ := (dg_l_loose_net X G D.g_l_loose_net).ex
  obtain ⟨f_l_of, fd_l_of, F_l_of, m_l_of, k_l_of, b_l_of, _⟩ := (dg_l_of X G D.g_l_of).ex
  obtain ⟨f_l_order, fd_l_order, F_l_order, m_l_order, k_l_order, b_l_order, _⟩ := (dg_l_order X G D.g_l_order).ex
  obtain ⟨f_l_spots_of, fd_l_spots_of, F_l_spots_of, m_l_spots_of, k_l_spots_of, b_l_spots_of, _⟩ := (dg_l_spots_of X G D.g_l_spots_of).ex
  obtain ⟨f_l_some_left, fd_l_some_left, F_l_some_left, m_l_some_left, k_l_some_left, b_l_some_left, _⟩ := (dg_l_some_left X G D.g_l_some_left).ex
  obtain ⟨f_l_some_orders, fd_l_some_orders, F_l_some_orders, m_l_some_orders, k_l_some_orders, b_l_some_orders, _⟩ := (dg_l_some_orders X G D.g_l_some_orders).ex
  obtain ⟨f_l_right, fd_l_right, F_l_right, m_l_right, k_l_right, b_l_right, _⟩ := (dg_l_right X G D.g_l_right).ex
  obtain ⟨f_l_cells, fd_l_cells, F_l_cells, m_l_cells, k_l_cells, b_l_cells, _⟩ := (dg_l_cells X G D.g_l_cells).ex
  obtain ⟨f_law, fd_law, F_law, m_law, k_law, b_law, bt⟩ := (dg_law X G D.g_law).ex
  have e := hfa.symm.trans m_law
  injection e with e
  injection e with e
  subst e
  refine ⟨fd_law, fun s u => bt s [u] rfl, fun base KB GB => ?_⟩
  have c_l_aside : CallD P w K mg base "_law_aside" 1 2 d_l_aside := CallD.mk' (ok_l_aside F_l_aside T) m_l_aside k_l_aside b_l_aside
  have c_l_bits : CallD P w K mg base "_law_bits" 1 1 d_l_bits := CallD.mk' (ok_l_bits F_l_bits T) m_l_bits k_l_bits b_l_bits
  have c_l_ups : CallD P w K mg base "_law_ups" 1 1 d_l_ups := CallD.mk' (ok_l_ups F_l_ups T) m_l_ups k_l_ups b_l_ups
  have c_l_lefts : CallD P w K mg base "_law_lefts" 2 1 d_l_lefts := CallD.mk' (ok_l_lefts F_l_lefts T c_l_bits) m_l_lefts k_l_lefts b_l_lefts
  have c_l_least_out : CallD P w K mg base "_law_least_out" 1 1 d_l_least_out := CallD.mk' (ok_l_least_out F_l_least_out T) m_l_least_out k_l_least_out b_l_least_out
  have c_l_worths : CallD P w K mg base "_law_worths" 3 1 d_l_worths := CallD.mk' (ok_l_worths F_l_worths T c_l_ups c_l_lefts c_l_least_out) m_l_worths k_l_worths b_l_worths
  have c_l_behind_all : CallD P w K mg base "_law_behind_all" 4 2 d_l_behind_all := CallD.mk' (ok_l_behind_all F_l_behind_all T c_l_bits c_l_ups c_l_worths) m_l_behind_all k_l_behind_all b_l_behind_all
  have c_l_pieces : CallD P w K mg base "_law_pieces" 1 1 d_l_pieces := CallD.mk' (ok_l_pieces F_l_pieces T) m_l_pieces k_l_pieces b_l_pieces
  have c_l_bitten : CallD P w K mg base "_law_bitten" 2 3 d_l_bitten := CallD.mk' (ok_l_bitten F_l_bitten T c_l_pieces c_l_bits c_l_ups) m_l_bitten k_l_bitten b_l_bitten
  have c_l_box : CallD P w K mg base "_law_box" 1 2 d_l_box := CallD.mk' (ok_l_box F_l_box T) m_l_box k_l_box b_l_box
  have c_put_together : CallD P w K mg base "put_together" 1 1 d_put_together := CallD.mk' (ok_put_together F_put_together T) m_put_together k_put_together b_put_together
  have c_tops_by_bits : CallD P w K mg base "tops_by_bits" 1 1 d_tops_by_bits := CallD.mk' (ok_tops_by_bits F_tops_by_bits T) m_tops_by_bits k_tops_by_bits b_tops_by_bits
  have c_bits_for : CallD P w K mg base "bits_for" 1 1 d_bits_for := CallD.mk' (ok_bits_for F_bits_for T) m_bits_for k_bits_for b_bits_for
  have c_lefts_by_bits : CallD P w K mg base "lefts_by_bits" 2 1 d_lefts_by_bits := CallD.mk' (ok_lefts_by_bits F_lefts_by_bits T c_bits_for) m_lefts_by_bits k_lefts_by_bits b_lefts_by_bits
  have c_least_without : CallD P w K mg base "least_without" 1 1 d_least_without := CallD.mk' (ok_least_without F_least_without T) m_least_without k_least_without b_least_without
  have c_pieces_for : CallD P w K mg base "pieces_for" 1 1 d_pieces_for := CallD.mk' (ok_pieces_for F_pieces_for T) m_pieces_for k_pieces_for b_pieces_for
  have c_worths_by_bits : CallD P w K mg base "worths_by_bits" 3 1 d_worths_by_bits := CallD.mk' (ok_worths_by_bits F_worths_by_bits T c_tops_by_bits c_lefts_by_bits c_least_without c_pieces_for) m_worths_by_bits k_worths_by_bits b_worths_by_bits
  have c_worth_in : CallD P w K mg base "worth_in" 4 1 d_worth_in := CallD.mk' (ok_worth_in F_worth_in T c_worths_by_bits) m_worth_in k_worth_in b_worth_in
  have c_orders_worth : CallD P w K mg base "orders_worth" 5 1 d_orders_worth := CallD.mk' (ok_orders_worth F_orders_worth T c_put_together c_worth_in) m_orders_worth k_orders_worth b_orders_worth
  have c_tupled : CallD P w K mg base "tupled" 8 1 d_tupled := CallD.mk' (ok_tupled F_tupled T m_tupled k_tupled b_tupled) m_tupled k_tupled b_tupled
  have c_is_long : CallD P w K mg base "is_long" 1 2 d_is_long := CallD.mk' (ok_is_long F_is_long T) m_is_long k_is_long b_is_long
  have c_is_number : CallD P w K mg base "is_number" 1 1 d_is_number := CallD.mk' (ok_is_number F_is_number T) m_is_number k_is_number b_is_number
  have c_is_from : CallD P w K mg base "is_from" 2 2 d_is_from := CallD.mk' (ok_is_from F_is_from T c_is_number) m_is_from k_is_from b_is_from
  have c_are_numbers : CallD P w K mg base "are_numbers" 2 1 d_are_numbers := CallD.mk' (ok_are_numbers F_are_numbers T c_is_number) m_are_numbers k_are_numbers b_are_numbers
  have c_is_pair_of : CallD P w K mg base "is_pair_of" 3 2 d_is_pair_of := CallD.mk' (ok_is_pair_of F_is_pair_of T c_is_long c_are_numbers) m_is_pair_of k_is_pair_of b_is_pair_of
  have c_ascends : CallD P w K mg base "ascends" 1 1 d_ascends := CallD.mk' (ok_ascends F_ascends T) m_ascends k_ascends b_ascends
  have c_ups_by : CallD P w K mg base "ups_by" 1 1 d_ups_by := CallD.mk' (ok_ups_by F_ups_by T) m_ups_by k_ups_by b_ups_by
  have c_follows_by : CallD P w K mg base "follows_by" 1 4 d_follows_by := CallD.mk' (ok_follows_by F_follows_by T) m_follows_by k_follows_by b_follows_by
  have c_ties_by : CallD P w K mg base "ties_by" 2 1 d_ties_by := CallD.mk' (ok_ties_by F_ties_by T c_ups_by c_follows_by) m_ties_by k_ties_by b_ties_by
  have c_directs_by : CallD P w K mg base "directs_by" 1 2 d_directs_by := CallD.mk' (ok_directs_by F_directs_by T) m_directs_by k_directs_by b_directs_by
  have c_ties_of : CallD P w K mg base "ties_of" 3 1 d_ties_of := CallD.mk' (ok_ties_of F_ties_of T c_ties_by c_directs_by) m_ties_of k_ties_of b_ties_of
  have c_follow_none : CallD P w K mg base "follow_none" 4 1 d_follow_none := CallD.mk' (ok_follow_none F_follow_none T c_ties_of) m_follow_none k_follow_none b_follow_none
  have c_is_order : CallD P w K mg base "is_order" 5 1 d_is_order := CallD.mk' (ok_is_order F_is_order T c_is_long c_is_from c_is_pair_of c_ascends c_follow_none) m_is_order k_is_order b_is_order
  have c_sure_order : CallD P w K mg base "sure_order" 9 1 d_sure_order := CallD.mk' (ok_sure_order F_sure_order T c_tupled c_is_order) m_sure_order k_sure_order b_sure_order
  have c_sure_orders : CallD P w K mg base "sure_orders" 10 1 d_sure_orders := CallD.mk' (ok_sure_orders F_sure_orders T c_tupled c_sure_order) m_sure_orders k_sure_orders b_sure_orders
  have c_sum_worth : CallD P w K mg base "sum_worth" 11 1 d_sum_worth := CallD.mk' (ok_sum_worth F_sum_worth T c_orders_worth c_sure_orders) m_sum_worth k_sum_worth b_sum_worth
  have c_balance : CallD P w K mg base "balance" 12 1 d_balance := CallD.mk' (ok_balance F_balance T c_sum_worth) m_balance k_balance b_balance
  have ck_balance : CallDK P w K mg base "balance" 12 1 ["orders"] d_balance := ⟨_, _, _, ok_balance F_balance T c_sum_worth, m_balance, k_balance, funKrev F_balance (by decide) fun _ _ _ _ _ _ ws hl => match ws, hl with | [_], _ => rfl⟩
  have c_are_balanced : CallD P w K mg base "are_balanced" 11 2 d_are_balanced := CallD.mk' (ok_are_balanced F_are_balanced T c_sure_orders c_orders_worth) m_are_balanced k_are_balanced b_are_balanced
  have ck_are_balanced : CallDK P w K mg base "are_balanced" 11 2 ["others", "orders"] d_are_balanced := ⟨_, _, _, ok_are_balanced F_are_balanced T c_sure_orders c_orders_worth, m_are_balanced, k_are_balanced, funKrev F_are_balanced (by decide) fun _ _ _ _ _ _ ws hl => match ws, hl with | [_, _], _ => rfl⟩
  have c_l_chain : CallD P w K mg base "_law_chain" 1 1 d_l_chain := CallD.mk' (ok_l_chain F_l_chain T) m_l_chain k_l_chain b_l_chain
  have c_is_within : CallD P w K mg base "is_within" 2 3 d_is_within := CallD.mk' (ok_is_within F_is_within T c_is_number) m_is_within k_is_within b_is_within
  have c_are_pieces_in : CallD P w K mg base "are_pieces_in" 3 2 d_are_pieces_in := CallD.mk' (ok_are_pieces_in F_are_pieces_in T c_is_within) m_are_pieces_in k_are_pieces_in b_are_pieces_in
  have c_is_left_in : CallD P w K mg base "is_left_in" 4 2 d_is_left_in := CallD.mk' (ok_is_left_in F_is_left_in T c_are_pieces_in c_ascends) m_is_left_in k_is_left_in b_is_left_in
  have c_sure_left : CallD P w K mg base "sure_left" 9 2 d_sure_left := CallD.mk' (ok_sure_left F_sure_left T c_tupled c_is_left_in) m_sure_left k_sure_left b_sure_left
  have c_sure_lefts : CallD P w K mg base "sure_lefts" 10 2 d_sure_lefts := CallD.mk' (ok_sure_lefts F_sure_lefts T c_tupled c_sure_left) m_sure_lefts k_sure_lefts b_sure_lefts
  have c_lefts_sure : CallD P w K mg base "lefts_sure" 11 2 d_lefts_sure := CallD.mk' (ok_lefts_sure F_lefts_sure T c_sure_orders c_sure_lefts) m_lefts_sure k_lefts_sure b_lefts_sure
  have c_left_worth_in : CallD P w K mg base "left_worth_in" 4 2 d_left_worth_in := CallD.mk' (ok_left_worth_in F_left_worth_in T c_worths_by_bits c_bits_for) m_left_worth_in k_left_worth_in b_left_worth_in
  have c_lefts_worths : CallD P w K mg base "lefts_worths" 5 2 d_lefts_worths := CallD.mk' (ok_lefts_worths F_lefts_worths T c_left_worth_in) m_lefts_worths k_lefts_worths b_lefts_worths
  have c_spot_sureX : CallX P w K mg base CN NP "spot_sure" 12 4 d_spot_sure := CallX.mk' (ok_spot_sure F_spot_sure T kC kN mC mN hsu c_lefts_sure c_is_number c_put_together c_lefts_worths c_pieces_for c_bits_for c_tops_by_bits) m_spot_sure k_spot_sure b_spot_sure
  have c_spot_sureD : CallD P w K mg base "spot_sure" 12 4 dk_spot_sure := c_spot_sureX.ok
  have c_behind_spotX : CallX P w K mg base CN NP "behind_spot" 13 4 d_behind_spot := CallX.mk' (ok_behind_spot F_behind_spot T kC kN mC mN hsu c_spot_sureX) m_behind_spot k_behind_spot b_behind_spot
  have x_behind_spot : CallKX P w K mg base CN NP "behind_spot" 13 d_behind_spot := ⟨_, _, _, ok_behind_spot F_behind_spot T kC kN mC mN hsu c_spot_sureX, m_behind_spot, k_behind_spot, funKb4 F_behind_spot (by decide) fun _ _ _ _ _ _ _ _ _ _ => rfl⟩
  have c_worths_behind : CallD P w K mg base "worths_behind" 4 2 d_worths_behind := CallD.mk' (ok_worths_behind F_worths_behind T c_bits_for c_worths_by_bits c_tops_by_bits) m_worths_behind k_worths_behind b_worths_behind
  have c_winning_in : CallD P w K mg base "winning_in" 6 2 d_winning_in := CallD.mk' (ok_winning_in F_winning_in T c_lefts_worths c_put_together c_worths_behind) m_winning_in k_winning_in b_winning_in
  have c_answer_spotX : CallX P w K mg base CN NP "answer_spot" 13 4 d_answer_spot := CallX.mk' (ok_answer_spot F_answer_spot T kC kN mC mN hsu c_spot_sureX c_winning_in) m_answer_spot k_answer_spot b_answer_spot
  have x_answer_spot : CallKX P w K mg base CN NP "answer_spot" 13 d_answer_spot := ⟨_, _, _, ok_answer_spot F_answer_spot T kC kN mC mN hsu c_spot_sureX c_winning_in, m_answer_spot, k_answer_spot, funKb4 F_answer_spot (by decide) fun _ _ _ _ _ _ _ _ _ _ => rfl⟩
  have c_l_heard : CallD P w K mg base "_law_heard" 14 5 d_l_heard := CallD.mk' (ok_l_heard (fb := fI) (fa := fI) F_l_heard T kH mC mN mV mL x_behind_spot x_answer_spot) m_l_heard k_l_heard b_l_heard
  have c_is_spot : CallD P w K mg base "is_spot" 2 1 d_is_spot := CallD.mk' (ok_is_spot F_is_spot T c_is_number) m_is_spot k_is_spot b_is_spot
  have c_is_answer_spot : CallD P w K mg base "is_answer_spot" 13 5 d_is_answer_spot := CallD.mk' (ok_is_answer_spot F_is_answer_spot T c_spot_sureD c_is_spot c_winning_in) m_is_answer_spot k_is_answer_spot b_is_answer_spot
  have ck_is_answer_spot : CallDK P w K mg base "is_answer_spot" 13 5 ["thing", "piece", "number", "lefts", "orders"] d_is_answer_spot := ⟨_, _, _, ok_is_answer_spot F_is_answer_spot T c_spot_sureD c_is_spot c_winning_in, m_is_answer_spot, k_is_answer_spot, funKrev F_is_answer_spot (by decide) fun _ _ _ _ _ _ ws hl => match ws, hl with | [_, _, _, _, _], _ => rfl⟩
  have c_l_same : CallD P w K mg base "_law_same" 8 2 d_l_same := CallD.mk' (ok_l_same F_l_same T m_l_same k_l_same b_l_same) m_l_same k_l_same b_l_same
  have c_l_by_hand_right : CallD P w K mg base "_law_by_hand_right" 15 0 d_l_by_hand_right := CallD.mk' (ok_l_by_hand_right F_l_by_hand_right T c_balance c_are_balanced c_l_chain c_l_heard c_is_answer_spot c_l_same) m_l_by_hand_right k_l_by_hand_right b_l_by_hand_right
  have c_l_put_by_bits : CallD P w K mg base "_law_put_by_bits" 1 1 d_l_put_by_bits := CallD.mk' (ok_l_put_by_bits F_l_put_by_bits T) m_l_put_by_bits k_l_put_by_bits b_l_put_by_bits
  have c_l_worths_of : CallD P w K mg base "_law_worths_of" 4 2 d_l_worths_of := CallD.mk' (ok_l_worths_of F_l_worths_of T c_l_worths c_l_bits) m_l_worths_of k_l_worths_of b_l_worths_of
  have c_l_good_spots : CallD P w K mg base "_law_good_spots" 5 2 d_l_good_spots := CallD.mk' (ok_l_good_spots F_l_good_spots T c_l_put_by_bits c_l_worths_of c_l_behind_all c_l_worths c_l_bits) m_l_good_spots k_l_good_spots b_l_good_spots
  have c_l_net : CallD P w K mg base "_law_net" 1 2 d_l_net := CallD.mk' (ok_l_net F_l_net T) m_l_net k_l_net b_l_net
  have c_l_heap : CallD P w K mg base "_law_heap" 2 2 d_l_heap := CallD.mk' (ok_l_heap F_l_heap T c_l_aside c_l_net) m_l_heap k_l_heap b_l_heap
  have c_l_lists : CallD P w K mg base "_law_lists" 8 1 d_l_lists := CallD.mk' (ok_l_lists F_l_lists T m_l_lists k_l_lists b_l_lists) m_l_lists k_l_lists b_l_lists
  have n_l_take : CallN P w K mg base "_law_take" 1 1 gn_l_take := ⟨_, _, _, ok_l_take F_l_take T, m_l_take, k_l_take, b_l_take⟩
  have n_l_loose_net : CallN P w K mg base "_law_loose_net" 2 1 gn_l_loose_net := ⟨_, _, _, okn_l_loose_net (ok_l_loose_net F_l_loose_net T c_l_net n_l_take), m_l_loose_net, k_l_loose_net, b_l_loose_net⟩
  have n_l_of : CallN P w K mg base "_law_of" 2 1 gn_l_of := ⟨_, _, _, okn_l_of (ok_l_of F_l_of T n_l_take), m_l_of, k_l_of, b_l_of⟩
  have n_l_order : CallN P w K mg base "_law_order" 3 1 gn_l_order := ⟨_, _, _, okn_l_order (ok_l_order F_l_order T c_l_net c_l_aside c_l_heap n_l_take n_l_loose_net), m_l_order, k_l_order, b_l_order⟩
  have c_l_spots_of : CallD P w K mg base "_law_spots_of" 1 1 d_l_spots_of := CallD.mk' (ok_l_spots_of F_l_spots_of T) m_l_spots_of k_l_spots_of b_l_spots_of
  have n_l_some_left : CallN P w K mg base "_law_some_left" 3 1 gn_l_some_left := ⟨_, _, _, okn_l_some_left (ok_l_some_left F_l_some_left T c_l_lefts c_l_pieces n_l_of), m_l_some_left, k_l_some_left, b_l_some_left⟩
  have n_l_some_orders : CallN P w K mg base "_law_some_orders" 4 1 gn_l_some_orders := ⟨_, _, _, okn_l_some_orders (ok_l_some_orders F_l_some_orders T n_l_take n_l_order n_l_some_left), m_l_some_orders, k_l_some_orders, b_l_some_orders⟩
  have n_l_right : CallN P w K mg base "_law_right" 15 0 gn_l_right := ⟨_, _, _, okn_l_right (ok_l_right F_l_right T c_l_put_by_bits c_l_worths_of c_l_lists c_l_chain c_l_same c_l_spots_of c_l_bitten c_l_good_spots c_l_heard ck_are_balanced ck_balance ck_is_answer_spot n_l_some_orders n_l_of), m_l_right, k_l_right, b_l_right⟩
  have cc : CallC P w K mg base := ⟨_, _, _, x_cells F_l_cells T, m_l_cells, k_l_cells, b_l_cells⟩
  exact ok_law F_law c_l_by_hand_right c_l_box cc n_l_right
end
end Ea
end
section
set_option Elab.async false
set_option linter.all false
set_option maxRecDepth 100000
set_option maxHeartbeats 4000000
/-! EqAt: the end: what the head must find, the walk -/
namespace Ea
open PySem PySem.Spec L2
open PyProof.Rows hiding St
theorem kitOneT {K : PySem.W.Frag} {S : Addr} {T : String} (h1 : PySem.W.subIn K (.ref S) (.type T) = some true) (h2 : PySem.W.kitMeta T = true) : PySem.W.kitOne K (.ref S) (.type T) = some true := by
  have e : (Value.ref S == Value.type T) = false := rfl
  show (if (Value.ref S == Value.type T) = true then some true else if PySem.W.kitMeta T = true then PySem.W.subIn K (.ref S) (.type T) else none) = some true
  rw [e, if_neg (by decide), if_pos h2]
  exact h1
abbrev npFn (q1 q2 : Pos) (cc cda : Addr) (kV doc pm ct : Value) (an : Option Addr) : FuncData := PySem.W.fnX "__init__" "NoPiece.__init__" ⟨[], [⟨"self", none, q1⟩, ⟨"piece", none, q2⟩], none, [], [], none, []⟩ npBody npScope [("__class__", cc)] .none kV doc pm an (.ref cda) ct
theorem errK {P : Program} {K : PySem.W.Frag} {CN NP fI : Addr} {oc : Value} {od : Option Addr} {kV doc pm ct : Value} {an : Option Addr} {cda cc : Addr} {osl : Array (Option Value)} {q1 q2 : Pos} {ccl cl : Value} {cdd cld : Option Addr} {ccs csl : Array (Option Value)} {vs : Array Value} {file : Str} {tf : Tok} {cdC : ClassData}
    (aC : PySem.W.nsIn K mainGlobals "CanNot" = some (some (.ref CN))) (aN : PySem.W.nsIn K mainGlobals "NoPiece" = some (some (.ref NP)))
    (cq : PySem.W.excIn K CN [.type "ValueError", .type "Exception", .type "BaseException", .type "object"] "ValueError.__new__" = true)
    (ck : PySem.W.keepIn K (.ref CN) = true) (cb : PySem.W.subIn K (.ref CN) (.type "BaseException") = some true) (cty : PySem.W.typeIn K (.ref CN) = some (.type "type"))
    (nq : PySem.W.excInitIn K NP leTail "LookupError.__new__" = true) (nov : PySem.W.excOver K NP leTail = true)
    (ni : PySem.W.findIn K (.ref NP) "__init__" = some (some (.ref fI))) (nfn : PySem.W.isFn K (.ref fI) = true) (ntk : PySem.W.takerIn K NP "piece" = some none) (nnf : PySem.W.findIn K (.ref NP) "piece" = some none)
    (nsa : PySem.W.findIn K (.ref NP) "__setattr__" = some (some (.builtin "object.__setattr__"))) (nhd : PySem.W.hasDictIn K NP = true) (nsL : PySem.W.subIn K (.ref NP) (.type "LookupError") = some true) (nex : PySem.W.subIn K (.ref NP) (.type "BaseException") = some true)
    (nty : PySem.W.typeIn K (.ref NP) = some (.type "type")) (nk : PySem.W.keepIn K (.ref NP) = true) (nop : PySem.W.nsIn K cStatics "thirdparty.any" = some none) (nsu : PySem.W.ks_superIn K NP NP "__init__" = some (some (.builtin "LookupError.__init__"))) (nmr : PySem.W.mroIn K NP (.ref NP) = some true)
    (lI : K.lookup fI = some ⟨oc, od, .func (npFn q1 q2 cc cda kV doc pm ct an), osl⟩) (cI : PySem.W.codeIn K (.ref cda) "NoPiece.__init__" = true) (lcd : K.lookup cda = some ⟨ccl, cdd, .fields vs, ccs⟩) (hvs : vs[2]? = some (.str file tf)) (hfile : ((P.main.file : Str) == file) = true)
    (lcc : K.lookup cc = some ⟨cl, cld, .cell (some (.ref NP)), csl⟩) (hcl : PySem.W.clsIn K NP = some cdC) (hsup : (P.main.scope.names.lookup ("super" : Str)).isSome = false)
    (ic : PySem.W.isClsIn K CN = true) (inp : PySem.W.isClsIn K NP = true) (scc : PySem.W.subIn K (.ref CN) (.ref CN) = some true) (snc : PySem.W.subIn K (.ref NP) (.ref CN) = some false) (snn : PySem.W.subIn K (.ref NP) (.ref NP) = some true) (scv : PySem.W.subIn K (.ref CN) (.type "ValueError") = some true)
    (h1 : PySem.W.findIn K (.ref CN) "__getattribute__" = some (some (.builtin "BaseException.__getattribute__"))) (h2 : PySem.W.findIn K (.ref CN) "__getattr__" = some none) (h3 : PySem.W.hasDictIn K CN = true) (h4 : PySem.W.findIn K (.ref CN) "__class__" = some (some (.builtin "object.__class__")))
    (h5 : PySem.W.specialIn K (.builtin "object.__class__") "__get__" = some (some (.builtin "getset_descriptor.__get__"))) (h6 : PySem.W.takesIn K (.builtin "object.__class__") = some true) (h7 : PySem.W.mroIn K CN (.type "object") = some true)
    (g1 : PySem.W.findIn K (.ref NP) "__getattribute__" = some (some (.builtin "BaseException.__getattribute__"))) (g2 : PySem.W.findIn K (.ref NP) "__getattr__" = some none) (g4 : PySem.W.findIn K (.ref NP) "__class__" = some (some (.builtin "object.__class__"))) (g7 : PySem.W.mroIn K NP (.type "object") = some true) : ErrK P K :=
  ⟨CN, NP, fI, aC, aN, ⟨cq, ck, cb, cty⟩, ⟨nq, nov, ni, nfn, ntk, nnf, nsa, nhd, nsL, nex, nty, nk, nop, nsu, nmr, ⟨oc, od, kV, doc, pm, ct, an, cda, cc, osl, q1, q2, ccl, cl, cdd, cld, ccs, csl, vs, file, tf, cdC, lI, cI, lcd, hvs, hfile, lcc, hcl, hsup⟩⟩,
    ⟨exmOf cb ic cty scc, exmOf cb ic cty snc, exmOf nex inp nty snn, kitOneT scv (by decide +kernel), kitOneT nsL (by decide +kernel), ⟨h1, h2, cb, h3, h4, h5, h6, h7⟩, ⟨g1, g2, nex, nhd, g4, h5, h6, g7⟩, ⟨g1, g2, nex, nhd⟩, nnf⟩⟩
theorem fin_mk {P : Program} {w : World} {K : PySem.W.Frag} {h : Heap} {mg : Str → Option Value} {fa : Addr} {t : Tok} (X : K.In h) (G : h.Ns mainGlobals mg) (hfa : mg "law" = some (.ref fa)) (T : TpK K) (few : PySem.W.nsIn K mainGlobals "FEW" = some (some (.int 2000 t))) (E : ErrK P K) (D : Defs K) :
    ∃ fd : FuncData, (∀ (s : Shared) (u : Value), BindsTo s fd ⟨[u], []⟩ [("_law_script", u)]) ∧ ∀ base : Heap, K.In base → base.Ns mainGlobals mg → FnOk P w K mg base CX0 16 fa fd ["_law_script"] (spLaw K) :=
  all_mk X G hfa (T.go X G few) (E.go X G T) D
theorem walk {l : PySem.W.OpenLaw} {q : Program} {loose : List Str} {XP : (Str → Option Value) → Heap → Prop} {YP : World → Heap → Prop} {d : DefRec} {K : Params → PySem.W.Frag} (hn : l.most = some 63) (hdf : d.params.defaults = [])
    (hY : ∀ (w : World) (h : Heap), YP w h → (K w.params).In h)
    (F : ∀ (w : World) (mg : Str → Option Value) (fa : Addr) (h : Heap), (K w.params).In h → h.Ns mainGlobals mg → mg d.name = some (.ref fa) →
      ∃ fd : FuncData, (∀ (s : Shared) (u : Value), BindsTo s fd ⟨[u], []⟩ [("_law_script", u)]) ∧ ∀ base : Heap, (K w.params).In base → base.Ns mainGlobals mg → FnOk l.prog w (K w.params) mg base CX0 16 fa fd ["_law_script"] (spLaw (K w.params))) :
    PySem.W.WalkO q loose XP YP l.row.toRowW d [] (fun f vs => PySem.call f vs) :=
  L2.walk_of (n := 63) (k := 16) (x := "_law_script") (CX := fun _ => CX0) (sp := fun w => spLaw (K w.params)) hn (by decide) hdf ⟨rfl, by decide, by decide⟩ hY F (fun _ _ a ns hl _ hS => ⟨a, ns, rfl, hS, hl, fun _ => rfl⟩) fun _ _ _ _ _ z => z
end Ea
end
set_option Elab.async false
set_option maxRecDepth 100000
open PySem PySem.W PyProof.Rows
set_option maxHeartbeats 0 in
theorem PySem.Challenge.cw_eatenorders_k16_whole_balanced_and_answe_holds : PySem.Challenge.rw_eatenorders_k16_whole_balanced_and_answe.Holds := by
  w_on; o_law; k_head; (case hw => w_witness2)
  k_fill
  refine Ea.walk (l := PySem.Challenge.rw_eatenorders_k16_whole_balanced_and_answe) rfl rfl (fun w h Y => PySem.W.kIn_of Y) ?F
  case F =>
    intro w mg fa h KX G hmg
    refine' Ea.fin_mk KX G hmg ?T ?few ?E ?D
    (case T => constructor <;> k_is)
    (case few => k_is)
    (case E =>
      refine' Ea.errK ?aC ?aN ?cq ?ck ?cb ?cty ?nq ?nov ?ni ?nfn ?ntk ?nnf ?nsa ?nhd ?nsL ?nex ?nty ?nk ?nop ?nsu ?nmr ?lI ?cI ?lcd ?hvs ?hfile ?lcc ?hcl ?hsup ?ic ?inp ?scc ?snc ?snn ?scv ?h1 ?h2 ?h3 ?h4 ?h5 ?h6 ?h7 ?g1 ?g2 ?g4 ?g7
      (case aC => k_is)
      (case aN => k_is)
      (case cq => k_exc)
      (case ck => k_is)
      (case cb => k_is)
      (case cty => k_is)
      (case nq => kernel_rfl)
      (case nov => kernel_rfl)
      (case ni => k_is)
      (case nfn => k_is)
      (case ntk => k_is)
      (case nnf => k_is)
      (case nsa => k_is)
      (case nhd => k_is)
      (case nsL => k_is)
      (case nex => k_is)
      (case nty => k_is)
      (case nk => k_is)
      (case nop => k_is)
      (case nsu => kernel_rfl)
      (case nmr => k_is)
      (case lI => k_is)
      (case cI => k_is)
      (case lcd => k_is)
      (case hvs => rfl)
      (case hfile => kernel_rfl)
      (case lcc => k_is)
      (case hcl => k_is)
      (case hsup => kernel_rfl)
      (case ic => k_is)
      (case inp => k_is)
      (case scc => k_is)
      (case snc => k_is)
      (case snn => k_is)
      (case scv => k_is)
      (case h1 => k_is)
      (case h2 => k_is)
      (case h3 => k_is)
      (case h4 => k_is)
      (case h5 => k_is)
      (case h6 => k_is)
      (case h7 => k_is)
      (case g1 => k_is)
      (case g2 => k_is)
      (case g4 => k_is)
      (case g7 => k_is))
    (case D => constructor <;> (refine' Ea.defK ?a ?l ?c ?k; (case a => k_is); (case l => k_is); (case c => k_is); (case k => k_is)))
